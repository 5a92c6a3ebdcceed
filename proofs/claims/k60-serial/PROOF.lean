import PyProof.Rows.All
import Wide.All
import OpenK.AllK
import Wide.FinOn
import HandS.ForMost
import HandS.Exc
import HandS.CallSlots
import HandS.DictComp
import HandS.WordsExc
import HandS.TupAny
import HandS.Deep
import HandS.Conv
import HandS.Text
import HandS.IsInst
import HandS.ExcInit
import HandS.ExcField
import KE.KExcSuper
import KE.KSuper
import HandS.Property
import HandS.ClsMeth
import HandS.SetFor
import HandS.Defaults
import HandS.GenList
import HandS.DictEq
import HandS.SortInts
import PySem.Challenge.RW_lockrules_k60_serial_orders_of_more
import KE.RegKSuper
import KE.KExcLine
import HandS.ExcIs
set_option Elab.async false
set_option linter.all false
set_option maxRecDepth 100000
namespace DL
open PySem L2

/-! ### data -/
inductive D where
  | non | bl (b : Bool) | int (i : Int) | str (x : List Nat)
  | lst (xs : List D) | tup (xs : List D)
  | dk (ks : List Key) (vs : List D) | dt (ks : List (List Key)) (vs : List D)
  | ins (C : Addr) (fs : List Str) (vs : List D)
  | cl (C : Addr)
  /-- the script -/
  | scr (ns : List Int)
  /-- the written empty tuple -/
  | etup
  /-- dicts that are locked -/
  | fk (ks : List Key) (vs : List D) | ft (ks : List (List Key)) (vs : List D)

def mkS (x : List Nat) : Str := ⟨x.toArray⟩
def okT (x : List Nat) : Prop := ∀ c ∈ x, c < 0x110000
theorem okT.app {x y : List Nat} (a : okT x) (b : okT y) : okT (x ++ y) := fun c h => (List.mem_append.mp h).elim (a c) (b c)

section
variable (K : PySem.W.Frag)
mutual
def Rep (H : Hp) : V → D → Prop
  | v, .non => v = .non
  | v, .bl b => v = .bl b
  | v, .int i => v = .int i
  | v, .str x => v = .str (mkS x) ∧ okT x
  | v, .lst ds => ∃ a vs, v = .ref a ∧ Rd H a (.lst vs) ∧ RepL H vs ds
  | v, .tup ds => ∃ a vs, v = .ref a ∧ H a = some (.tup vs) ∧ RepL H vs ds
  | v, .dk ks ds => ∃ a us, v = .ref a ∧ Rd H a (.dK us) ∧ us.map (·.1) = ks ∧ RepL H (us.map (·.2)) ds
  | v, .dt ks ds => ∃ a us, v = .ref a ∧ Rd H a (.dT us) ∧ us.map (·.1) = ks ∧ RepL H (us.map (·.2)) ds
  | v, .ins C fs ds => ∃ a dx us, v = .ref a ∧ H a = some (.ins C dx us) ∧ us.map (·.1) = fs ∧ RepL H (us.map (·.2)) ds
  | v, .cl C => v = .ref C
  | v, .scr ns => ∃ a, v = .ref a ∧ SqL K H a (ns.map V.int)
  | v, .etup => ∃ a, v = .ref a ∧ SqT K H a []
  | v, .fk ks ds => ∃ a o us, v = .ref a ∧ H a = some (.frz o (.dK us)) ∧ us.map (·.1) = ks ∧ RepL H (us.map (·.2)) ds
  | v, .ft ks ds => ∃ a o us, v = .ref a ∧ H a = some (.frz o (.dT us)) ∧ us.map (·.1) = ks ∧ RepL H (us.map (·.2)) ds
def RepL (H : Hp) : List V → List D → Prop
  | vs, [] => vs = []
  | vs, d :: ds => ∃ x xs, vs = x :: xs ∧ Rep H x d ∧ RepL H xs ds
end
end

/-- what stands stays -/
structure RdLe (H H' : Hp) : Prop where
  key : ∀ a u, H a = some u → H' a = some u
theorem RdLe.rd {H H' : Hp} (e : RdLe H H') (a : Addr) (u : HO) (h : Rd H a u) : Rd H' a u := h.elim (fun h => .inl (e.key a _ h)) fun ⟨o, h⟩ => .inr ⟨o, e.key a _ h⟩
theorem RdLe.tup {H H' : Hp} (e : RdLe H H') (a : Addr) (xs : List V) (h : H a = some (.tup xs)) : H' a = some (.tup xs) := e.key a _ h
theorem RdLe.refl (H : Hp) : RdLe H H := ⟨fun _ _ h => h⟩
theorem RdLe.trans {H H1 H2 : Hp} (a : RdLe H H1) (b : RdLe H1 H2) : RdLe H H2 := ⟨fun x u h => b.key x u (a.key x u h)⟩
theorem RdLe.ofKey {H H' : Hp} (s : ∀ a u, H a = some u → H' a = some u) : RdLe H H' := ⟨s⟩
theorem RdLe.of {H H' : Hp} (s : Same H H') : RdLe H H' := .ofKey s
section
variable {K : PySem.W.Frag}
theorem RdLe.sqL {H H' : Hp} {a : Addr} {xs : List V} (e : RdLe H H') (h : SqL K H a xs) : SqL K H' a xs := h.elim (fun h => .inl (e.rd _ _ h)) .inr
theorem RdLe.sqT {H H' : Hp} {a : Addr} {xs : List V} (e : RdLe H H') (h : SqT K H a xs) : SqT K H' a xs := h.elim (fun h => .inl (e.rd _ _ h)) .inr
mutual
theorem Rep.mono {H H' : Hp} (e : RdLe H H') : ∀ {v : V} {d : D}, Rep K H v d → Rep K H' v d
  | _, .non, h => h
  | _, .bl _, h => h
  | _, .int _, h => h
  | _, .str _, h => h
  | _, .lst ds, ⟨a, vs, h1, h2, h3⟩ => ⟨a, vs, h1, e.rd _ _ h2, RepL.mono e h3⟩
  | _, .tup ds, ⟨a, vs, h1, h2, h3⟩ => ⟨a, vs, h1, e.tup _ _ h2, RepL.mono e h3⟩
  | _, .dk ks ds, ⟨a, vs, h1, h2, h4, h3⟩ => ⟨a, vs, h1, e.rd _ _ h2, h4, RepL.mono e h3⟩
  | _, .dt ks ds, ⟨a, vs, h1, h2, h4, h3⟩ => ⟨a, vs, h1, e.rd _ _ h2, h4, RepL.mono e h3⟩
  | _, .ins C fs ds, ⟨a, dx, vs, h1, h2, h4, h3⟩ => ⟨a, dx, vs, h1, e.key _ _ h2, h4, RepL.mono e h3⟩
  | _, .cl _, h => h
  | _, .scr _, ⟨a, h1, h2⟩ => ⟨a, h1, e.sqL h2⟩
  | _, .etup, ⟨a, h1, h2⟩ => ⟨a, h1, e.sqT h2⟩
  | _, .fk ks ds, ⟨a, o, vs, h1, h2, h4, h3⟩ => ⟨a, o, vs, h1, e.key _ _ h2, h4, RepL.mono e h3⟩
  | _, .ft ks ds, ⟨a, o, vs, h1, h2, h4, h3⟩ => ⟨a, o, vs, h1, e.key _ _ h2, h4, RepL.mono e h3⟩
theorem RepL.mono {H H' : Hp} (e : RdLe H H') : ∀ {vs : List V} {ds : List D}, RepL K H vs ds → RepL K H' vs ds
  | _, [], h => h
  | _, d :: ds, ⟨x, xs, h1, h2, h3⟩ => ⟨x, xs, h1, Rep.mono e h2, RepL.mono e h3⟩
end
theorem RepL.length {H : Hp} : ∀ {vs : List V} {ds : List D}, RepL K H vs ds → vs.length = ds.length
  | _, [], h => by
    have h : _ = [] := h
    rw [h]
    rfl
  | _, d :: ds, ⟨x, xs, h1, h2, h3⟩ => by rw [h1, List.length_cons, List.length_cons, RepL.length h3]
theorem RepL.get {H : Hp} : ∀ {vs : List V} {ds : List D} {i : Nat} {d : D}, RepL K H vs ds → ds[i]? = some d → ∃ v, vs[i]? = some v ∧ Rep K H v d
  | _, [], _, _, _, e => by cases e
  | _, d :: ds, 0, _, ⟨x, xs, h1, h2, h3⟩, e => by
    cases e
    subst h1
    exact ⟨x, rfl, h2⟩
  | _, d :: ds, i + 1, _, ⟨x, xs, h1, h2, h3⟩, e => by
    subst h1
    exact RepL.get (i := i) h3 e
theorem RepL.get' {H : Hp} : ∀ {vs : List V} {ds : List D} {i : Nat} {v : V}, RepL K H vs ds → vs[i]? = some v → ∃ d, ds[i]? = some d ∧ Rep K H v d
  | _, [], _, _, h, e => by
    have h : _ = [] := h
    rw [h] at e
    cases e
  | _, d :: ds, 0, _, ⟨x, xs, h1, h2, h3⟩, e => by
    subst h1
    cases e
    exact ⟨d, rfl, h2⟩
  | _, d :: ds, i + 1, _, ⟨x, xs, h1, h2, h3⟩, e => by
    subst h1
    exact RepL.get' (i := i) h3 e
theorem RepL.append {H : Hp} : ∀ {vs : List V} {ds : List D} {us : List V} {es : List D}, RepL K H vs ds → RepL K H us es → RepL K H (vs ++ us) (ds ++ es)
  | _, [], _, _, h, k => by
    have h : _ = [] := h
    rw [h]
    exact k
  | _, d :: ds, _, _, ⟨x, xs, h1, h2, h3⟩, k => by
    subst h1
    exact ⟨x, _, rfl, h2, RepL.append h3 k⟩
theorem RepL.nil {H : Hp} : RepL K H [] [] := rfl
theorem RepL.cons {H : Hp} {v : V} {d : D} {vs : List V} {ds : List D} (h : Rep K H v d) (t : RepL K H vs ds) : RepL K H (v :: vs) (d :: ds) := ⟨v, vs, rfl, h, t⟩
theorem RepL.one {H : Hp} {v : V} {d : D} (h : Rep K H v d) : RepL K H [v] [d] := .cons h .nil
theorem RepL.set {H : Hp} {v : V} {d : D} (hv : Rep K H v d) : ∀ {vs : List V} {ds : List D} (i : Nat), RepL K H vs ds → RepL K H (vs.set i v) (ds.set i d)
  | _, [], _, h => by
    have h : _ = [] := h
    rw [h]
    rfl
  | _, e :: ds, 0, ⟨x, xs, h1, h2, h3⟩ => by
    subst h1
    exact ⟨v, xs, rfl, hv, h3⟩
  | _, e :: ds, i + 1, ⟨x, xs, h1, h2, h3⟩ => by
    subst h1
    exact ⟨x, _, rfl, h2, RepL.set hv i h3⟩
theorem RepL.take {H : Hp} : ∀ {vs : List V} {ds : List D} (n : Nat), RepL K H vs ds → RepL K H (vs.take n) (ds.take n)
  | _, [], n, h => by
    have h : _ = [] := h
    rw [h]
    cases n <;> rfl
  | _, e :: ds, 0, _ => rfl
  | _, e :: ds, n + 1, ⟨x, xs, h1, h2, h3⟩ => by
    subst h1
    exact ⟨x, _, rfl, h2, RepL.take n h3⟩
theorem RepL.drop {H : Hp} : ∀ {vs : List V} {ds : List D} (n : Nat), RepL K H vs ds → RepL K H (vs.drop n) (ds.drop n)
  | _, [], n, h => by
    have h : _ = [] := h
    rw [h]
    cases n <;> rfl
  | _, e :: ds, 0, h => h
  | _, e :: ds, n + 1, ⟨x, xs, h1, h2, h3⟩ => by
    subst h1
    exact RepL.drop n h3
end

/-! ### hidden addresses -/
open Classical in
noncomputable def hide (O : Addr → Prop) (H : Hp) : Hp := fun a => if O a then none else H a
section
variable {O O' : Addr → Prop} {H H' : Hp}
theorem hide_no {a : Addr} (h : ¬ O a) : hide O H a = H a := by
  unfold hide
  rw [if_neg h]
theorem hide_yes {a : Addr} (h : O a) : hide O H a = none := by
  unfold hide
  rw [if_pos h]
theorem hide_some {a : Addr} {o : HO} (h : hide O H a = some o) : ¬ O a ∧ H a = some o := by
  by_cases e : O a
  · rw [hide_yes e] at h
    cases h
  · rw [hide_no e] at h
    exact ⟨e, h⟩
theorem hide_le : RdLe (hide O H) H := .ofKey fun a u h => (hide_some h).2
/-- what is not hidden stands as before -/
theorem hide_mono (h : ∀ a, O' a → O a) (s : ∀ a o, ¬ O a → H a = some o → H' a = some o) : RdLe (hide O H) (hide O' H') := by
  have key : ∀ a o, hide O H a = some o → hide O' H' a = some o := fun a o e => by
    obtain ⟨n, e⟩ := hide_some e
    rw [hide_no fun z => n (h a z)]
    exact s a o n e
  exact RdLe.ofKey key
theorem hide_same (h : ∀ a, O' a → O a) (s : Same H H') : RdLe (hide O H) (hide O' H') := hide_mono h fun a o _ e => s a o e
end
theorem same_new {H : Hp} {p : Addr} {o : HO} (h : H p = none) : Same H (upd H p o) := fun a u e => by
  rw [upd_ne (ne_of_none e h)]
  exact e
theorem same_upd {B H : Hp} {p : Addr} {o : HO} (s : Same B H) (h : B p = none) : Same B (upd H p o) := fun a u e => by
  rw [upd_ne (ne_of_none e h)]
  exact s a u e
end DL
set_option Elab.async false
set_option linter.all false
set_option maxRecDepth 100000
namespace DL
open PySem L2

/-! ### a tree that is owned to a depth: nobody else holds its upper objects -/
def AllP (P : V → List Addr → D → Prop) : List V → List Addr → List D → Prop
  | vs, as, [] => vs = [] ∧ as = []
  | vs, as, d :: ds => ∃ x xs a1 a2, vs = x :: xs ∧ as = a1 ++ a2 ∧ P x a1 d ∧ AllP P xs a2 ds
theorem AllP.imp {P P' : V → List Addr → D → Prop} : ∀ {vs : List V} {as : List Addr} {ds : List D}, AllP P vs as ds → (∀ x a d, (∀ p ∈ a, p ∈ as) → P x a d → P' x a d) → AllP P' vs as ds
  | _, _, [], h, _ => h
  | _, _, d :: ds, ⟨x, xs, a1, a2, h1, h2, h3, h4⟩, f => by
    subst h1 h2
    exact ⟨x, xs, a1, a2, rfl, rfl, f x a1 d (fun p hp => List.mem_append_left _ hp) h3, AllP.imp h4 fun y b e hb => f y b e fun p hp => List.mem_append_right _ (hb p hp)⟩
section
variable (K : PySem.W.Frag)
def Own (G H : Hp) : Nat → V → List Addr → D → Prop
  | 0, v, as, d => as = [] ∧ Rep K G v d
  | k + 1, v, as, .lst ds => ∃ p vs bs, v = .ref p ∧ H p = some (.lst vs) ∧ as = p :: bs ∧ AllP (Own G H k) vs bs ds
  | k + 1, v, as, .dk ks ds => ∃ p us bs, v = .ref p ∧ H p = some (.dK us) ∧ us.map (·.1) = ks ∧ as = p :: bs ∧ AllP (Own G H k) (us.map (·.2)) bs ds
  | k + 1, v, as, .dt ks ds => ∃ p us bs, v = .ref p ∧ H p = some (.dT us) ∧ us.map (·.1) = ks ∧ as = p :: bs ∧ AllP (Own G H k) (us.map (·.2)) bs ds
  | k + 1, v, as, .ins C fs ds => ∃ p dx us bs, v = .ref p ∧ H p = some (.ins C dx us) ∧ us.map (·.1) = fs ∧ as = p :: bs ∧ AllP (Own G H k) (us.map (·.2)) bs ds
  | _ + 1, v, as, d => as = [] ∧ Rep K G v d
end
section
variable {K : PySem.W.Frag} {G G' H H' : Hp}
theorem Own.mono (e : RdLe G G') : ∀ {k : Nat} {v : V} {as : List Addr} {d : D}, Own K G H k v as d → (∀ p ∈ as, H' p = H p) → Own K G' H' k v as d
  | 0, _, _, _, ⟨h1, h2⟩, _ => ⟨h1, h2.mono e⟩
  | k + 1, _, _, .lst ds, ⟨p, vs, bs, h1, h2, h3, h4⟩, f => by
    subst h3
    exact ⟨p, vs, bs, h1, (f p List.mem_cons_self).trans h2, rfl, h4.imp fun x a d ha q => Own.mono e q fun p hp => f p (List.mem_cons_of_mem _ (ha p hp))⟩
  | k + 1, _, _, .dk ks ds, ⟨p, vs, bs, h1, h2, h5, h3, h4⟩, f => by
    subst h3
    exact ⟨p, vs, bs, h1, (f p List.mem_cons_self).trans h2, h5, rfl, h4.imp fun x a d ha q => Own.mono e q fun p hp => f p (List.mem_cons_of_mem _ (ha p hp))⟩
  | k + 1, _, _, .dt ks ds, ⟨p, vs, bs, h1, h2, h5, h3, h4⟩, f => by
    subst h3
    exact ⟨p, vs, bs, h1, (f p List.mem_cons_self).trans h2, h5, rfl, h4.imp fun x a d ha q => Own.mono e q fun p hp => f p (List.mem_cons_of_mem _ (ha p hp))⟩
  | k + 1, _, _, .ins C fs ds, ⟨p, dx, vs, bs, h1, h2, h5, h3, h4⟩, f => by
    subst h3
    exact ⟨p, dx, vs, bs, h1, (f p List.mem_cons_self).trans h2, h5, rfl, h4.imp fun x a d ha q => Own.mono e q fun p hp => f p (List.mem_cons_of_mem _ (ha p hp))⟩
  | _ + 1, _, _, .non, ⟨h1, h2⟩, _ => ⟨h1, h2.mono e⟩
  | _ + 1, _, _, .bl _, ⟨h1, h2⟩, _ => ⟨h1, h2.mono e⟩
  | _ + 1, _, _, .int _, ⟨h1, h2⟩, _ => ⟨h1, h2.mono e⟩
  | _ + 1, _, _, .str _, ⟨h1, h2⟩, _ => ⟨h1, h2.mono e⟩
  | _ + 1, _, _, .tup _, ⟨h1, h2⟩, _ => ⟨h1, h2.mono e⟩
  | _ + 1, _, _, .cl _, ⟨h1, h2⟩, _ => ⟨h1, h2.mono e⟩
  | _ + 1, _, _, .scr _, ⟨h1, h2⟩, _ => ⟨h1, h2.mono e⟩
  | _ + 1, _, _, .etup, ⟨h1, h2⟩, _ => ⟨h1, h2.mono e⟩
  | _ + 1, _, _, .fk _ _, ⟨h1, h2⟩, _ => ⟨h1, h2.mono e⟩
  | _ + 1, _, _, .ft _ _, ⟨h1, h2⟩, _ => ⟨h1, h2.mono e⟩
theorem AllP.repL {P : V → List Addr → D → Prop} : ∀ {vs : List V} {as : List Addr} {ds : List D}, AllP P vs as ds → (∀ x a d, (∀ p ∈ a, p ∈ as) → P x a d → Rep K G x d) → RepL K G vs ds
  | _, _, [], ⟨h, _⟩, _ => h
  | _, _, d :: ds, ⟨x, xs, a1, a2, h1, h2, h3, h4⟩, f => by
    subst h1 h2
    exact ⟨x, xs, rfl, f x a1 d (fun p hp => List.mem_append_left _ hp) h3, h4.repL fun y b e hb => f y b e fun p hp => List.mem_append_right _ (hb p hp)⟩
theorem Own.rep (e : RdLe G G') : ∀ {k : Nat} {v : V} {as : List Addr} {d : D}, Own K G H k v as d → (∀ p ∈ as, ∀ o, H p = some o → G' p = some o) → Rep K G' v d
  | 0, _, _, _, ⟨h1, h2⟩, _ => h2.mono e
  | k + 1, _, _, .lst ds, ⟨p, vs, bs, h1, h2, h3, h4⟩, f => by
    subst h3
    exact ⟨p, vs, h1, .inl (f p List.mem_cons_self _ h2), h4.repL fun x a d ha q => Own.rep e q fun p hp => f p (List.mem_cons_of_mem _ (ha p hp))⟩
  | k + 1, _, _, .dk ks ds, ⟨p, vs, bs, h1, h2, h5, h3, h4⟩, f => by
    subst h3
    exact ⟨p, vs, h1, .inl (f p List.mem_cons_self _ h2), h5, h4.repL fun x a d ha q => Own.rep e q fun p hp => f p (List.mem_cons_of_mem _ (ha p hp))⟩
  | k + 1, _, _, .dt ks ds, ⟨p, vs, bs, h1, h2, h5, h3, h4⟩, f => by
    subst h3
    exact ⟨p, vs, h1, .inl (f p List.mem_cons_self _ h2), h5, h4.repL fun x a d ha q => Own.rep e q fun p hp => f p (List.mem_cons_of_mem _ (ha p hp))⟩
  | k + 1, _, _, .ins C fs ds, ⟨p, dx, vs, bs, h1, h2, h5, h3, h4⟩, f => by
    subst h3
    exact ⟨p, dx, vs, h1, f p List.mem_cons_self _ h2, h5, h4.repL fun x a d ha q => Own.rep e q fun p hp => f p (List.mem_cons_of_mem _ (ha p hp))⟩
  | _ + 1, _, _, .non, ⟨h1, h2⟩, _ => h2.mono e
  | _ + 1, _, _, .bl _, ⟨h1, h2⟩, _ => h2.mono e
  | _ + 1, _, _, .int _, ⟨h1, h2⟩, _ => h2.mono e
  | _ + 1, _, _, .str _, ⟨h1, h2⟩, _ => h2.mono e
  | _ + 1, _, _, .tup _, ⟨h1, h2⟩, _ => h2.mono e
  | _ + 1, _, _, .cl _, ⟨h1, h2⟩, _ => h2.mono e
  | _ + 1, _, _, .scr _, ⟨h1, h2⟩, _ => h2.mono e
  | _ + 1, _, _, .etup, ⟨h1, h2⟩, _ => h2.mono e
  | _ + 1, _, _, .fk _ _, ⟨h1, h2⟩, _ => h2.mono e
  | _ + 1, _, _, .ft _ _, ⟨h1, h2⟩, _ => h2.mono e
theorem AllP.mem {P : V → List Addr → D → Prop} : ∀ {vs : List V} {as : List Addr} {ds : List D}, AllP P vs as ds → ∀ p ∈ as, ∃ x a d, p ∈ a ∧ P x a d
  | _, _, [], ⟨_, h⟩, p, hp => by
    rw [h] at hp
    cases hp
  | _, _, d :: ds, ⟨x, xs, a1, a2, h1, h2, h3, h4⟩, p, hp => by
    subst h2
    rcases List.mem_append.mp hp with hp | hp
    · exact ⟨x, a1, d, hp, h3⟩
    · exact h4.mem p hp
theorem Own.dom : ∀ {k : Nat} {v : V} {as : List Addr} {d : D}, Own K G H k v as d → ∀ p ∈ as, H p ≠ none
  | 0, _, _, _, ⟨h1, h2⟩, p, hp => by
    rw [h1] at hp
    cases hp
  | k + 1, _, _, .lst ds, ⟨p, vs, bs, h1, h2, h3, h4⟩, q, hq => by
    subst h3
    rcases List.mem_cons.mp hq with hq | hq
    · rw [hq, h2]
      exact fun z => by cases z
    · obtain ⟨x, a, d, ha, h⟩ := h4.mem q hq
      exact Own.dom h q ha
  | k + 1, _, _, .dk ks ds, ⟨p, vs, bs, h1, h2, h5, h3, h4⟩, q, hq => by
    subst h3
    rcases List.mem_cons.mp hq with hq | hq
    · rw [hq, h2]
      exact fun z => by cases z
    · obtain ⟨x, a, d, ha, h⟩ := h4.mem q hq
      exact Own.dom h q ha
  | k + 1, _, _, .dt ks ds, ⟨p, vs, bs, h1, h2, h5, h3, h4⟩, q, hq => by
    subst h3
    rcases List.mem_cons.mp hq with hq | hq
    · rw [hq, h2]
      exact fun z => by cases z
    · obtain ⟨x, a, d, ha, h⟩ := h4.mem q hq
      exact Own.dom h q ha
  | k + 1, _, _, .ins C fs ds, ⟨p, dx, vs, bs, h1, h2, h5, h3, h4⟩, q, hq => by
    subst h3
    rcases List.mem_cons.mp hq with hq | hq
    · rw [hq, h2]
      exact fun z => by cases z
    · obtain ⟨x, a, d, ha, h⟩ := h4.mem q hq
      exact Own.dom h q ha
  | _ + 1, _, _, .non, ⟨h1, h2⟩, p, hp => by rw [h1] at hp; cases hp
  | _ + 1, _, _, .bl _, ⟨h1, h2⟩, p, hp => by rw [h1] at hp; cases hp
  | _ + 1, _, _, .int _, ⟨h1, h2⟩, p, hp => by rw [h1] at hp; cases hp
  | _ + 1, _, _, .str _, ⟨h1, h2⟩, p, hp => by rw [h1] at hp; cases hp
  | _ + 1, _, _, .tup _, ⟨h1, h2⟩, p, hp => by rw [h1] at hp; cases hp
  | _ + 1, _, _, .cl _, ⟨h1, h2⟩, p, hp => by rw [h1] at hp; cases hp
  | _ + 1, _, _, .scr _, ⟨h1, h2⟩, p, hp => by rw [h1] at hp; cases hp
  | _ + 1, _, _, .etup, ⟨h1, h2⟩, p, hp => by rw [h1] at hp; cases hp
  | _ + 1, _, _, .fk _ _, ⟨h1, h2⟩, p, hp => by rw [h1] at hp; cases hp
  | _ + 1, _, _, .ft _ _, ⟨h1, h2⟩, p, hp => by rw [h1] at hp; cases hp
/-- to the depth one: the top alone -/
theorem allP0 : ∀ {vs : List V} {as : List Addr} {ds : List D}, AllP (Own K G H 0) vs as ds ↔ as = [] ∧ RepL K G vs ds
  | vs, as, [] => ⟨fun ⟨a, b⟩ => ⟨b, a⟩, fun ⟨a, b⟩ => ⟨b, a⟩⟩
  | vs, as, d :: ds => by
    constructor
    · rintro ⟨x, xs, a1, a2, h1, h2, ⟨h3, h4⟩, h5⟩
      obtain ⟨h6, h7⟩ := allP0.mp h5
      subst h1 h2 h3 h6
      exact ⟨rfl, x, xs, rfl, h4, h7⟩
    · rintro ⟨h1, x, xs, h2, h3, h4⟩
      subst h1 h2
      exact ⟨x, xs, [], [], rfl, rfl, ⟨rfl, h3⟩, allP0.mpr ⟨rfl, h4⟩⟩
end

/-! ### the state of a body: data for the slots -/
abbrev Env := List (Option D)
/-- which slots own their objects: to which depth, which objects -/
abbrev Lm := Nat → Option (Nat × List Addr)
def L0 : Lm := fun _ => none
/-- what others hold; at which slots an object stays under its name (the self of a def that changes it) -/
structure Ob where
  hid : Addr → Prop
  pn : Nat → Option Addr
instance : CoeFun Ob (fun _ => Addr → Prop) := ⟨Ob.hid⟩
instance : CoeOut Ob (Addr → Prop) := ⟨Ob.hid⟩
/-- nothing stays under its name -/
def Ob.no (O : Addr → Prop) : Ob := ⟨O, fun _ => none⟩
/-- one more is hidden -/
def Ob.or (O : Ob) (x : Addr) : Ob := ⟨fun a => O.hid a ∨ a = x, O.pn⟩
/-- to which depth: from ten on the slot's object stays under its name -/
def dep (k : Nat) : Nat := if k < 10 then k else k - 10
def HS (O : Ob) (L : Lm) : Addr → Prop := fun p => O.hid p ∨ ∃ i k as, L i = some (k, as) ∧ p ∈ as
def dropL (es : List Nat) (L : Lm) : Lm := fun i => if i ∈ es then none else L i
theorem dropL_some {es : List Nat} {L : Lm} {i : Nat} {x : Nat × List Addr} (h : dropL es L i = some x) : i ∉ es ∧ L i = some x := by
  unfold dropL at h
  by_cases e : i ∈ es
  · rw [if_pos e] at h
    cases h
  · rw [if_neg e] at h
    exact ⟨e, h⟩
theorem dropL_no {es : List Nat} {L : Lm} {i : Nat} (h : i ∉ es) : dropL es L i = L i := if_neg h
theorem dropL_yes {es : List Nat} {L : Lm} {i : Nat} (h : i ∈ es) : dropL es L i = none := if_pos h
theorem hs_drop {O : Ob} {L : Lm} {es : List Nat} : ∀ p, HS O (dropL es L) p → HS O L p := fun p h => h.elim .inl fun ⟨i, k, as, h, m⟩ => .inr ⟨i, k, as, (dropL_some h).2, m⟩
theorem hs_dropLe {O : Ob} {L : Lm} {es es' : List Nat} (h : ∀ i ∈ es, i ∈ es') : ∀ p, HS O (dropL es' L) p → HS O (dropL es L) p := fun p q => q.elim .inl fun ⟨i, k, as, e, m⟩ => .inr ⟨i, k, as, by
  obtain ⟨n, e⟩ := dropL_some e
  rw [dropL_no fun z => n (h i z), e], m⟩
theorem hs_0 {O : Ob} {L : Lm} : ∀ p, O p → HS O L p := fun _ h => .inl h

/-- an instance of a class -/
def isIns : D → Bool
  | .ins _ _ _ => true
  | _ => false
structure SR (K : PySem.W.Frag) (B : Hp) (O : Ob) (L : Lm) (σ : St) (H : Hp) (ρ : Env) : Prop where
  same : Same B H
  dom : ∀ p, O p → B p ≠ none
  len : σ.length = ρ.length
  vars : ∀ i d, L i = none → ρ[i]? = some (some d) → ∃ v, σ[i]? = some (some v) ∧ Rep K (hide (HS O L) H) v d
  owns : ∀ i k as, L i = some (k, as) → ∃ v d, σ[i]? = some (some v) ∧ ρ[i]? = some (some d) ∧ Own K (hide (HS O L) H) H (dep k) v as d
  nodup : ∀ i k as, L i = some (k, as) → as.Nodup ∧ ∀ p ∈ as, B p = none
  sep : ∀ i j k as k' as', i ≠ j → L i = some (k, as) → L j = some (k', as') → ∀ p ∈ as, p ∉ as'
  one : ∀ i k as d, L i = some (k, as) → ρ[i]? = some (some d) → isIns d = false → k = 1
  pin : ∀ i k as, L i = some (k, as) → 10 ≤ k → as.head? = O.pn i
section
variable {K : PySem.W.Frag} {B H H' : Hp} {O : Ob} {L : Lm} {σ : St} {ρ : Env}
theorem SR.hdom (S : SR K B O L σ H ρ) : ∀ p, HS O L p → H p ≠ none := fun p h => h.elim (fun h => by
  cases e : B p with
  | none => exact absurd e (S.dom p h)
  | some o =>
    rw [S.same p o e]
    exact fun z => by cases z) fun ⟨i, k, as, h, m⟩ => by
  obtain ⟨v, d, _, _, w⟩ := S.owns i k as h
  exact w.dom p m
theorem SR.ext (S : SR K B O L σ H ρ) (e : Same H H') : SR K B O L σ H' ρ := by
  have le : RdLe (hide (HS O L) H) (hide (HS O L) H') := hide_same (fun _ h => h) e
  refine ⟨S.same.trans e, S.dom, S.len, fun i d h1 h2 => ?_, fun i k as h => ?_, S.nodup, S.sep, S.one, S.pin⟩
  · obtain ⟨v, h3, h4⟩ := S.vars i d h1 h2
    exact ⟨v, h3, h4.mono le⟩
  · obtain ⟨v, d, h1, h2, h3⟩ := S.owns i k as h
    refine ⟨v, d, h1, h2, h3.mono le fun p hp => ?_⟩
    cases q : H p with
    | none => exact absurd q (h3.dom p hp)
    | some o => exact e p o q
/-- giving up what some slots own -/
theorem SR.drop (S : SR K B O L σ H ρ) (es : List Nat) : SR K B O (dropL es L) σ H ρ := by
  have le : RdLe (hide (HS O L) H) (hide (HS O (dropL es L)) H) := hide_same hs_drop (Same.refl H)
  refine ⟨S.same, S.dom, S.len, fun i d h1 h2 => ?_, fun i k as h => ?_, fun i k as h => S.nodup i k as (dropL_some h).2, fun i j k as k' as' n h h' => S.sep i j k as k' as' n (dropL_some h).2 (dropL_some h').2, fun i k as d h => S.one i k as d (dropL_some h).2, fun i k as h => S.pin i k as (dropL_some h).2⟩
  · cases e : L i with
    | none =>
      obtain ⟨v, h3, h4⟩ := S.vars i d e h2
      exact ⟨v, h3, h4.mono le⟩
    | some x =>
      obtain ⟨k, as⟩ := x
      obtain ⟨v, d', h3, h4, h5⟩ := S.owns i k as e
      rw [h2] at h4
      cases h4
      refine ⟨v, h3, h5.rep le fun p hp o ho => ?_⟩
      rw [hide_no]
      · exact ho
      · rintro (z | ⟨j, k', as', z, m⟩)
        · exact S.dom p z ((S.nodup i k as e).2 p hp)
        · obtain ⟨n, z⟩ := dropL_some z
          have nij : i ≠ j := fun q => by
            subst q
            rw [dropL_no n, e] at h1
            cases h1
          exact S.sep i j k as k' as' nij e z p hp m
  · obtain ⟨n, h⟩ := dropL_some h
    obtain ⟨v, d, h1, h2, h3⟩ := S.owns i k as h
    exact ⟨v, d, h1, h2, h3.mono le fun _ _ => rfl⟩
/-- a slot is read -/
theorem SR.read (S : SR K B O L σ H ρ) {i : Nat} {d : D} (h : ρ[i]? = some (some d)) : ∃ v, σ[i]? = some (some v) ∧ Rep K (hide (HS O (dropL [i] L)) H) v d :=
  (S.drop [i]).vars i d (dropL_yes List.mem_cons_self) h
def putL (i : Nat) (x : Option (Nat × List Addr)) (L : Lm) : Lm := fun j => if j = i then x else L j
theorem putL_same {i : Nat} {x : Option (Nat × List Addr)} {L : Lm} : putL i x L i = x := if_pos rfl
theorem putL_ne {i j : Nat} {x : Option (Nat × List Addr)} {L : Lm} (h : j ≠ i) : putL i x L j = L j := if_neg h
theorem putL_none {i j : Nat} {L : Lm} {y : Nat × List Addr} (h : putL i none L j = some y) : j ≠ i ∧ L j = some y := by
  unfold putL at h
  by_cases e : j = i
  · rw [if_pos e] at h
    cases h
  · rw [if_neg e] at h
    exact ⟨e, h⟩
theorem hs_put {i : Nat} : ∀ p, HS O (putL i none L) p → HS O L p := fun p h => h.elim .inl fun ⟨j, k, as, h, m⟩ => .inr ⟨j, k, as, (putL_none h).2, m⟩
/-- a slot is given a value that nobody owns -/
theorem SR.set0 (S : SR K B O L σ H ρ) {i : Nat} {v : V} {d : D} (r : Rep K (hide (HS O L) H) v d) (hi : i < σ.length) : SR K B O (putL i none L) (σ.set i (some v)) H (ρ.set i (some d)) := by
  have le : RdLe (hide (HS O L) H) (hide (HS O (putL i none L)) H) := hide_same hs_put (Same.refl H)
  refine ⟨S.same, S.dom, by rw [List.length_set, List.length_set, S.len], fun j e h1 h2 => ?_, fun j k as h => ?_, fun j k as h => S.nodup j k as (putL_none h).2, fun j j' k as k' as' n h h' => S.sep j j' k as k' as' n (putL_none h).2 (putL_none h').2, fun j k as e h h2 => S.one j k as e (putL_none h).2 (by rw [List.getElem?_set_ne (Ne.symm (putL_none h).1)] at h2; exact h2), fun j k as h => S.pin j k as (putL_none h).2⟩
  · by_cases q : i = j
    · subst q
      rw [List.getElem?_set_self (by rw [← S.len]; exact hi)] at h2
      cases h2
      exact ⟨v, List.getElem?_set_self hi, r.mono le⟩
    · rw [List.getElem?_set_ne q] at h2 ⊢
      rw [putL_ne (Ne.symm q)] at h1
      obtain ⟨w, h3, h4⟩ := S.vars j e h1 h2
      exact ⟨w, h3, h4.mono le⟩
  · obtain ⟨n, h⟩ := putL_none h
    rw [List.getElem?_set_ne (Ne.symm n), List.getElem?_set_ne (Ne.symm n)]
    obtain ⟨w, e, h1, h2, h3⟩ := S.owns j k as h
    exact ⟨w, e, h1, h2, h3.mono le fun _ _ => rfl⟩
theorem putL_drop {i : Nat} : putL i none L = dropL [i] L := by
  funext j
  unfold putL dropL
  by_cases h : j = i
  · rw [if_pos h, if_pos (by rw [h]; exact List.mem_cons_self)]
  · rw [if_neg h, if_neg (fun z => h (List.mem_singleton.mp z))]
theorem SR.set (S : SR K B O L σ H ρ) {i : Nat} {v : V} {d : D} (r : Rep K (hide (HS O L) H) v d) : SR K B O (dropL [i] L) (σ.set i (some v)) H (ρ.set i (some d)) := by
  by_cases hi : i < σ.length
  · rw [← putL_drop]
    exact S.set0 r hi
  · rw [List.set_eq_of_length_le (by omega), List.set_eq_of_length_le (by rw [← S.len]; omega)]
    exact S.drop [i]
/-- a slot is forgotten -/
theorem SR.unset (S : SR K B O L σ H ρ) (i : Nat) (hL : L i = none) : SR K B O L (σ.set i none) H (ρ.set i none) := by
  refine ⟨S.same, S.dom, by rw [List.length_set, List.length_set, S.len], fun j e h1 h2 => ?_, fun j k as h => ?_, S.nodup, S.sep, fun j k as e h h2 => S.one j k as e h (by
    have n : i ≠ j := fun q => by
      subst q
      rw [hL] at h
      cases h
    rw [List.getElem?_set_ne n] at h2
    exact h2), S.pin⟩
  · by_cases q : i = j
    · subst q
      by_cases z : i < ρ.length
      · rw [List.getElem?_set_self z] at h2
        cases h2
      · rw [List.getElem?_eq_none (by rw [List.length_set]; omega)] at h2
        cases h2
    · rw [List.getElem?_set_ne q] at h2 ⊢
      exact S.vars j e h1 h2
  · have n : i ≠ j := fun q => by
      subst q
      rw [hL] at h
      cases h
    rw [List.getElem?_set_ne n, List.getElem?_set_ne n]
    exact S.owns j k as h
/-- a slot is given an object of its own, laid by nobody else -/
theorem SR.setOwn (S : SR K B O L σ H ρ) {i : Nat} {v : V} {d : D} {k : Nat} {as : List Addr} (hk : isIns d = false → k = 1) (hpn : 10 ≤ k → as.head? = O.pn i) (hi : i < σ.length) (hn : as.Nodup) (hb : ∀ p ∈ as, ¬ HS O L p ∧ B p = none)
    (hv : ∀ j d, L j = none → ρ[j]? = some (some d) → j ≠ i → ∃ v, σ[j]? = some (some v) ∧ Rep K (hide (HS O (putL i (some (k, as)) L)) H) v d)
    (ho : ∀ j k' as', L j = some (k', as') → j ≠ i → ∃ v d, σ[j]? = some (some v) ∧ ρ[j]? = some (some d) ∧ Own K (hide (HS O (putL i (some (k, as)) L)) H) H (dep k') v as' d)
    (w : Own K (hide (HS O (putL i (some (k, as)) L)) H) H (dep k) v as d) : SR K B O (putL i (some (k, as)) L) (σ.set i (some v)) H (ρ.set i (some d)) := by
  refine ⟨S.same, S.dom, by rw [List.length_set, List.length_set, S.len], fun j e h1 h2 => ?_, fun j k' as' h => ?_, fun j k' as' h => ?_, fun j j' k1 as1 k2 as2 n h h' => ?_, fun j k' as' e h h2 hi2 => by
    by_cases q : j = i
    · subst q
      rw [putL_same] at h
      cases h
      rw [List.getElem?_set_self (by rw [← S.len]; exact hi)] at h2
      cases h2
      exact hk hi2
    · rw [putL_ne q] at h
      rw [List.getElem?_set_ne (Ne.symm q)] at h2
      exact S.one j k' as' e h h2 hi2, fun j k' as' h hk' => by
    by_cases q : j = i
    · subst q
      rw [putL_same] at h
      cases h
      exact hpn hk'
    · rw [putL_ne q] at h
      exact S.pin j k' as' h hk'⟩
  · by_cases q : j = i
    · subst q
      rw [putL_same] at h1
      cases h1
    · rw [List.getElem?_set_ne (Ne.symm q)] at h2 ⊢
      rw [putL_ne q] at h1
      exact hv j e h1 h2 q
  · by_cases q : j = i
    · subst q
      rw [putL_same] at h
      cases h
      exact ⟨v, d, List.getElem?_set_self hi, List.getElem?_set_self (by rw [← S.len]; exact hi), w⟩
    · rw [putL_ne q] at h
      rw [List.getElem?_set_ne (Ne.symm q), List.getElem?_set_ne (Ne.symm q)]
      exact ho j k' as' h q
  · by_cases q : j = i
    · subst q
      rw [putL_same] at h
      cases h
      exact ⟨hn, fun p hp => (hb p hp).2⟩
    · rw [putL_ne q] at h
      exact S.nodup j k' as' h
  · intro p hp hp'
    by_cases q : j = i
    · subst q
      rw [putL_same] at h
      cases h
      rw [putL_ne (Ne.symm n)] at h'
      exact (hb p hp).1 (.inr ⟨j', k2, as2, h', hp'⟩)
    · rw [putL_ne q] at h
      by_cases q' : j' = i
      · subst q'
        rw [putL_same] at h'
        cases h'
        exact (hb p hp').1 (.inr ⟨j, k1, as1, h, hp⟩)
      · rw [putL_ne q'] at h'
        exact S.sep j j' k1 as1 k2 as2 n h h' p hp hp'
/-- another base: all that stands and is not owned here -/
noncomputable def nb (L : Lm) (H : Hp) : Hp := hide (fun p => ∃ i k as, L i = some (k, as) ∧ p ∈ as) H
theorem SR.nbSame (S : SR K B O L σ H ρ) : Same B (nb L H) := fun a o e => by
  unfold nb
  rw [hide_no]
  · exact S.same a o e
  · rintro ⟨i, k, as, h, m⟩
    rw [(S.nodup i k as h).2 a m] at e
    cases e
theorem SR.rebase (S : SR K B O L σ H ρ) : SR K (nb L H) O L σ H ρ where
  same := fun a o e => (hide_some e).2
  dom := fun p hp => by
    cases e : B p with
    | none => exact absurd e (S.dom p hp)
    | some o =>
      rw [S.nbSame p o e]
      exact fun z => by cases z
  len := S.len
  vars := S.vars
  owns := S.owns
  nodup := fun i k as h => ⟨(S.nodup i k as h).1, fun p hp => hide_yes ⟨i, k, as, h, hp⟩⟩
  sep := S.sep
  one := S.one
  pin := S.pin
theorem SR.unbase {B' : Hp} (S : SR K B' O L σ H ρ) (e : Same B B') (dom : ∀ p, O p → B p ≠ none) : SR K B O L σ H ρ :=
  ⟨e.trans S.same, dom, S.len, S.vars, S.owns, fun i k as h => ⟨(S.nodup i k as h).1, fun p hp => e.free ((S.nodup i k as h).2 p hp)⟩, S.sep, S.one, S.pin⟩
/-! ### the top alone -/
def Top (K : PySem.W.Frag) (G : Hp) : HO → D → Prop
  | .lst vs, .lst ds => RepL K G vs ds
  | .dK us, .dk ks ds => us.map (·.1) = ks ∧ RepL K G (us.map (·.2)) ds
  | .dT us, .dt ks ds => us.map (·.1) = ks ∧ RepL K G (us.map (·.2)) ds
  | .ins C _ us, .ins C' fs ds => C = C' ∧ us.map (·.1) = fs ∧ RepL K G (us.map (·.2)) ds
  | _, _ => False
theorem Top.mono {G G' : Hp} (e : RdLe G G') : ∀ {o : HO} {d : D}, Top K G o d → Top K G' o d := by
  intro o d h
  cases o <;> cases d <;> first | exact h.elim | exact RepL.mono e h | exact ⟨h.1, RepL.mono e h.2⟩ | exact ⟨h.1, h.2.1, RepL.mono e h.2.2⟩
theorem own_top {G : Hp} {p : Addr} {o : HO} {d : D} (hp : H p = some o) (t : Top K G o d) : Own K G H 1 (.ref p) [p] d := by
  cases o <;> cases d <;> first
    | exact t.elim
    | exact ⟨p, _, [], rfl, hp, rfl, allP0.mpr ⟨rfl, t⟩⟩
    | exact ⟨p, _, [], rfl, hp, t.1, rfl, allP0.mpr ⟨rfl, t.2⟩⟩
    | (obtain ⟨t1, t2, t3⟩ := t
       subst t1
       exact ⟨p, _, _, [], rfl, hp, t2, rfl, allP0.mpr ⟨rfl, t3⟩⟩)
/-- of what shape an owned thing is -/
def isTop : D → Bool
  | .lst _ => true
  | .dk _ _ => true
  | .dt _ _ => true
  | .ins _ _ _ => true
  | _ => false
theorem top_own {G : Hp} {v : V} {as : List Addr} {d : D} (w : Own K G H 1 v as d) (hd : isTop d = true) : ∃ p o, v = .ref p ∧ as = [p] ∧ H p = some o ∧ Top K G o d := by
  cases d <;> first
    | (cases hd; done)
    | (obtain ⟨p, vs, bs, h1, h2, h3, h4⟩ := w
       obtain ⟨h5, h6⟩ := allP0.mp h4
       subst h5
       exact ⟨p, _, h1, h3, h2, h6⟩)
    | (obtain ⟨p, vs, bs, h1, h2, h7, h3, h4⟩ := w
       obtain ⟨h5, h6⟩ := allP0.mp h4
       subst h5
       exact ⟨p, _, h1, h3, h2, h7, h6⟩)
    | (obtain ⟨p, dx, vs, bs, h1, h2, h7, h3, h4⟩ := w
       obtain ⟨h5, h6⟩ := allP0.mp h4
       subst h5
       exact ⟨p, _, h1, h3, h2, rfl, h7, h6⟩)
theorem Top.isTop {G : Hp} {o : HO} {d : D} (t : Top K G o d) : isTop d = true := by
  cases o <;> cases d <;> first | exact t.elim | rfl
/-- a slot is given a new object of its own -/
theorem SR.fresh {H0 : Hp} (S : SR K B O L σ H0 ρ) (e : Same H0 H) {i : Nat} {p : Addr} {o : HO} {d : D} (hi : i < σ.length) (hp : H0 p = none) (hq : H p = some o) (t : Top K (hide (fun a => HS O L a ∨ a = p) H) o d) :
    SR K B O (putL i (some (1, [p])) L) (σ.set i (some (.ref p))) H (ρ.set i (some d)) := by
  have nb : B p = none := S.same.free hp
  have nh : ¬ HS O L p := fun z => S.hdom p z hp
  have sub : ∀ a, HS O (putL i (some (1, [p])) L) a → HS O L a ∨ a = p := by
    rintro a (z | ⟨j, k, as, z, m⟩)
    · exact .inl (.inl z)
    · by_cases q : j = i
      · subst q
        rw [putL_same] at z
        cases z
        exact .inr (List.mem_singleton.mp m)
      · rw [putL_ne q] at z
        exact .inl (.inr ⟨j, k, as, z, m⟩)
  have le : RdLe (hide (HS O L) H0) (hide (HS O (putL i (some (1, [p])) L)) H) := by
    have key : ∀ a u, hide (HS O L) H0 a = some u → hide (HS O (putL i (some (1, [p])) L)) H a = some u := fun a u h => by
      obtain ⟨n, h⟩ := hide_some h
      rw [hide_no]
      · exact e a u h
      · intro z
        rcases sub a z with z | z
        · exact n z
        · rw [z, hp] at h
          cases h
    exact RdLe.ofKey key
  have le2 : RdLe (hide (fun a => HS O L a ∨ a = p) H) (hide (HS O (putL i (some (1, [p])) L)) H) := hide_same sub (Same.refl H)
  refine (S.ext e).setOwn (fun _ => rfl) (fun z => absurd z (by decide)) hi (by simp) (fun a ha => ?_) (fun j d' h1 h2 _ => ?_) (fun j k as h _ => ?_) (own_top hq (t.mono le2))
  · rw [List.mem_singleton.mp ha]
    exact ⟨nh, nb⟩
  · obtain ⟨v, h3, h4⟩ := S.vars j d' h1 h2
    exact ⟨v, h3, h4.mono le⟩
  · obtain ⟨v, d', h1, h2, h3⟩ := S.owns j k as h
    refine ⟨v, d', h1, h2, h3.mono le fun a ha => ?_⟩
    cases q : H0 a with
    | none => exact absurd q (h3.dom a ha)
    | some o => exact e a o q
/-- what stands in an owned slot -/
theorem SR.top (S : SR K B O L σ H ρ) {i : Nat} {as : List Addr} {d : D} (h : L i = some (1, as)) (hd : ρ[i]? = some (some d)) (ht : isTop d = true) :
    ∃ p o, σ[i]? = some (some (.ref p)) ∧ as = [p] ∧ B p = none ∧ H p = some o ∧ Top K (hide (HS O L) H) o d := by
  obtain ⟨v, d', h1, h2, h3⟩ := S.owns i 1 as h
  rw [hd] at h2
  cases h2
  obtain ⟨p, o, e1, e2, e3, t⟩ := top_own h3 ht
  subst e1 e2
  exact ⟨p, o, h1, rfl, (S.nodup i 1 [p] h).2 p List.mem_cons_self, e3, t⟩
/-- an owned object is changed -/
theorem SR.change (S : SR K B O L σ H ρ) {i : Nat} {p : Addr} {o : HO} {d' : D} (h : L i = some (1, [p])) (hs : σ[i]? = some (some (.ref p))) (hd : ∃ d, ρ[i]? = some (some d)) (t : Top K (hide (HS O L) H) o d') :
    SR K B O L σ (upd H p o) (ρ.set i (some d')) := by
  have nb : B p = none := (S.nodup i 1 [p] h).2 p List.mem_cons_self
  have hp : HS O L p := .inr ⟨i, 1, [p], h, List.mem_cons_self⟩
  have le : RdLe (hide (HS O L) H) (hide (HS O L) (upd H p o)) := hide_mono (fun _ z => z) fun a u n e => by
    rw [upd_ne (fun z : a = p => n (by rw [z]; exact hp))]
    exact e
  have hi : i < ρ.length := by
    obtain ⟨d, e⟩ := hd
    exact (List.getElem?_eq_some_iff.mp e).1
  refine ⟨same_upd S.same nb, S.dom, by rw [List.length_set, S.len], fun j e h1 h2 => ?_, fun j k as h' => ?_, S.nodup, S.sep, fun j k as e h' h2 hi2 => by
    by_cases q : i = j
    · subst q
      rw [h] at h'
      cases h'
      rfl
    · rw [List.getElem?_set_ne q] at h2
      exact S.one j k as e h' h2 hi2, S.pin⟩
  · have n : i ≠ j := fun q => by
      subst q
      rw [h] at h1
      cases h1
    rw [List.getElem?_set_ne n] at h2
    obtain ⟨v, h3, h4⟩ := S.vars j e h1 h2
    exact ⟨v, h3, h4.mono le⟩
  · by_cases q : i = j
    · subst q
      rw [h] at h'
      cases h'
      exact ⟨_, d', hs, List.getElem?_set_self hi, own_top upd_same (t.mono le)⟩
    · rw [List.getElem?_set_ne q]
      obtain ⟨v, e, h1, h2, h3⟩ := S.owns j k as h'
      exact ⟨v, e, h1, h2, h3.mono le fun a ha => upd_ne fun z => by
        subst z
        exact S.sep i j 1 [a] k as q h h' a List.mem_cons_self ha⟩
end
end DL
set_option Elab.async false
set_option linter.all false
set_option maxRecDepth 100000
namespace DL
open PySem L2

/-! ### answers -/
structure XN where
  C : Addr
  fs : List Str
  vs : List D
inductive R (α : Type) where
  | ok (a : α) | exc (x : XN) | stuck
def R.bind {α β : Type} : R α → (α → R β) → R β
  | .ok a, f => f a
  | .exc x, _ => .exc x
  | .stuck, _ => .stuck
theorem R.ok_bind {α β : Type} {a : α} {f : α → R β} : (R.ok a).bind f = f a := rfl
theorem R.exc_bind {α β : Type} {x : XN} {f : α → R β} : (R.exc x).bind f = .exc x := rfl
theorem R.stuck_bind {α β : Type} {f : α → R β} : (R.stuck : R α).bind f = .stuck := rfl
def R.ofO {α : Type} : Option α → R α
  | some a => .ok a
  | none => .stuck
theorem R.ofO_some {α : Type} {a : α} : R.ofO (some a) = .ok a := rfl
theorem R.ofO_none {α : Type} : R.ofO (none : Option α) = .stuck := rfl

def RepX (K : PySem.W.Frag) (G H : Hp) (c : Value) (dd : Option Addr) (x : XN) : Prop :=
  c = .ref x.C ∧ ∃ a us, dd = some a ∧ H a = some (.xd us) ∧ us.map (·.1) = x.fs ∧ RepL K G (us.map (·.2)) x.vs

def PostG {α β : Type} (K : PySem.W.Frag) (O : Addr → Prop) (W : WX) (rel : Hp → β → α → Prop) (r : R α) (σ : St) (H : Hp) (Q : β → Hp → Prop) : Prop :=
  match r with
  | .ok a => ∀ b H', Same H H' → rel H' b a → Q b H'
  | .exc x => ∀ c dd H', Same H H' → RepX K (hide O H') H' c dd x → W c dd σ H'
  | .stuck => False
section
variable {K : PySem.W.Frag} {O : Addr → Prop} {W : WX} {σ : St} {H H1 : Hp} {α β γ δ : Type} {rel : Hp → β → α → Prop} {rel' : Hp → δ → γ → Prop}
theorem PostG.ext {r : R α} {Q : β → Hp → Prop} (P : PostG K O W rel r σ H Q) (e : Same H H1) : PostG K O W rel r σ H1 Q := by
  cases r with
  | ok a => exact fun b H' e' h => P b H' (e.trans e') h
  | exc x => exact fun c dd H' e' h => P c dd H' (e.trans e') h
  | stuck => exact P
theorem PostG.bind {r : R α} {k : α → R γ} {Q : δ → Hp → Prop} {Q' : β → Hp → Prop} (P : PostG K O W rel' (r.bind k) σ H Q)
    (h : ∀ a b H1, Same H H1 → rel H1 b a → PostG K O W rel' (k a) σ H1 Q → Q' b H1) : PostG K O W rel r σ H Q' := by
  cases r with
  | ok a => exact fun b H' e' hr => h a b H' e' hr (PostG.ext P e')
  | exc x => exact P
  | stuck => exact P
theorem PostG.ofO {o : Option α} {Q : β → Hp → Prop} (P : PostG K O W rel (R.ofO o) σ H Q) : ∃ a, o = some a ∧ ∀ b H', Same H H' → rel H' b a → Q b H' := by
  cases o with
  | none => exact P.elim
  | some a => exact ⟨a, rfl, P⟩
end

def rV (K : PySem.W.Frag) (O : Ob) (L : Lm) : Hp → V → D → Prop := fun H v d => Rep K (hide (HS O L) H) v d
def rA (K : PySem.W.Frag) (O : Ob) (L : Lm) : Hp → List V → List D → Prop := fun H v d => RepL K (hide (HS O L) H) v d
def rB : Hp → Bool → Bool → Prop := fun _ b a => b = a
def tD (K : PySem.W.Frag) (W : WX) (es : List Nat) (fe : Env → R D) : TE := fun σ H Q => ∃ B O L ρ, SR K B O L σ H ρ ∧ PostG K O W (rV K O (dropL es L)) (fe ρ) σ H Q
def tDT (K : PySem.W.Frag) (W : WX) (fe : Env → R Bool) : TT := fun σ H Q => ∃ B O L ρ, SR K B O L σ H ρ ∧ PostG K O W rB (fe ρ) σ H Q
def tDA (K : PySem.W.Frag) (W : WX) (es : List Nat) (fe : Env → R (List D)) : TA := fun σ H Q => ∃ B O L ρ, SR K B O L σ H ρ ∧ PostG K O W (rA K O (dropL es L)) (fe ρ) σ H Q
def PD (X : Cx) (W : WX) (e : Expr) (es : List Nat) (fe : Env → R D) : Prop := PE X e (tD X.K W es fe)
def PDT (X : Cx) (W : WX) (e : Expr) (fe : Env → R Bool) : Prop := PT X e (tDT X.K W fe)
def PDW (X : Cx) (W : WX) (e : Expr) (fe : Env → R Bool) : Prop := PW X e (tDT X.K W fe)
def PDA (X : Cx) (W : WX) (e : List Expr) (es : List Nat) (fe : Env → R (List D)) : Prop := PA X e (tDA X.K W es fe)

theorem PE.imp {X : Cx} {e : Expr} {t t' : TE} (h : PE X e t) (f : ∀ σ H Q, t' σ H Q → t σ H Q) : PE X e t' := ⟨fun pins s σ H Q I q => h.run pins s σ H Q I (f σ H Q q)⟩
theorem PT.imp {X : Cx} {e : Expr} {t t' : TT} (h : PT X e t) (f : ∀ σ H Q, t' σ H Q → t σ H Q) : PT X e t' := ⟨fun pins s σ H Q I q => h.run pins s σ H Q I (f σ H Q q)⟩
theorem PW.imp {X : Cx} {e : Expr} {t t' : TT} (h : PW X e t) (f : ∀ σ H Q, t' σ H Q → t σ H Q) : PW X e t' := ⟨fun wh pins s σ H Q I q => h.run wh pins s σ H Q I (f σ H Q q)⟩
theorem PA.imp {X : Cx} {e : List Expr} {t t' : TA} (h : PA X e t) (f : ∀ σ H Q, t' σ H Q → t σ H Q) : PA X e t' := ⟨fun pos pins s σ H Q I q => h.run pos pins s σ H Q I (f σ H Q q)⟩
theorem PS.imp {X : Cx} {e : Stmt} {t t' : TS} (h : PS X e t) (f : ∀ D σ H, t' D σ H → t D σ H) : PS X e t' := ⟨fun pins s σ H D I q => h.run pins s σ H D I (f D σ H q)⟩
theorem PSs.imp {X : Cx} {e : List Stmt} {t t' : TS} (h : PSs X e t) (f : ∀ D σ H, t' D σ H → t D σ H) : PSs X e t' := ⟨fun pins s σ H D I q => h.run pins s σ H D I (f D σ H q)⟩

/-! ### names and constants -/
def getE (ρ : Env) (i : Nat) : R D :=
  match ρ[i]? with
  | some (some d) => .ok d
  | _ => .stuck
section
variable {X : Cx} {W : WX}
theorem pd_var {i : Nat} {e : Expr} (h : PE X e (tVar i)) : PD X W e [i] (fun ρ => getE ρ i) := PE.imp h fun σ H Q ⟨B, O, L, ρ, S, P⟩ => by
  have P : PostG X.K O W (rV X.K O (dropL [i] L)) (getE ρ i) σ H Q := P
  unfold getE at P
  split at P
  · rename_i d e
    obtain ⟨v, h1, h2⟩ := S.read e
    exact ⟨v, h1, P v H (Same.refl H) h2⟩
  · exact P.elim
theorem pd_int {i : Int} {j pos} : PD X W (.Constant (.int i) j pos) [] (fun _ => .ok (.int i)) := PE.imp pe_int fun σ H Q ⟨B, O, L, ρ, S, P⟩ => P _ H (Same.refl H) rfl
theorem pd_bl {b : Bool} {j pos} : PD X W (.Constant (.bool b) j pos) [] (fun _ => .ok (.bl b)) := PE.imp pe_bl fun σ H Q ⟨B, O, L, ρ, S, P⟩ => P _ H (Same.refl H) rfl
theorem pd_non {j pos} : PD X W (.Constant .none j pos) [] (fun _ => .ok .non) := PE.imp pe_non fun σ H Q ⟨B, O, L, ρ, S, P⟩ => P _ H (Same.refl H) rfl
theorem pd_str {x : Str} {j pos} (l : List Nat) (hl : x = mkS l := by decide +kernel) (ho : l.all (fun c => decide (c < 0x110000)) = true := by decide +kernel) : PD X W (.Constant (.str x) j pos) [] (fun _ => .ok (.str l)) := PE.imp pe_str fun σ H Q ⟨B, O, L, ρ, S, P⟩ =>
  P _ H (Same.refl H) ⟨by rw [hl], fun c hc => of_decide_eq_true (List.all_eq_true.mp ho c hc)⟩
/-- a module's constant: an int, a text -/
theorem pd_gint {x : Str} {i : Int} {pos : Pos} (hg : Gl X x) (hm : ∃ t, X.mg x = some (.int i t)) (hd : (x == ("__debug__" : Str)) = false := by decide) : PD X W (.Name x pos) [] (fun _ => .ok (.int i)) := by
  obtain ⟨t, hm⟩ := hm
  exact PE.imp (pe_glob (v := .int i) hg hm ⟨_, rfl⟩ hd) fun σ H Q ⟨B, O, L, ρ, S, P⟩ => P (.int i) H (Same.refl H) rfl
theorem pd_gstr {x : Str} {pos : Pos} (l : List Nat) (hg : Gl X x) (hm : ∃ t, X.mg x = some (.str (mkS l) t)) (ho : l.all (fun c => decide (c < 0x110000)) = true := by decide +kernel) (hd : (x == ("__debug__" : Str)) = false := by decide) :
    PD X W (.Name x pos) [] (fun _ => .ok (.str l)) := by
  obtain ⟨t, hm⟩ := hm
  exact PE.imp (pe_glob (v := .str (mkS l)) hg hm ⟨_, rfl⟩ hd) fun σ H Q ⟨B, O, L, ρ, S, P⟩ => P (.str (mkS l)) H (Same.refl H) ⟨rfl, fun c hc => of_decide_eq_true (List.all_eq_true.mp ho c hc)⟩
/-- the value is no object: nothing is given up -/
def isS : D → Bool
  | .non => true
  | .bl _ => true
  | .int _ => true
  | .str _ => true
  | .cl _ => true
  | _ => false
def scalR (r : R D) : R D := r.bind fun d => if isS d = true then .ok d else .stuck
theorem Rep.scal {K : PySem.W.Frag} {G G' : Hp} {v : V} {d : D} (h : Rep K G v d) (s : isS d = true) : Rep K G' v d := by
  cases d <;> first | exact h | cases s
theorem pd_scal {e : Expr} {es : List Nat} {fe : Env → R D} (h : PD X W e es fe) : PD X W e [] (fun ρ => scalR (fe ρ)) := PE.imp h fun σ H Q ⟨B, O, L, ρ, S, P⟩ => ⟨B, O, L, ρ, S, PostG.bind P fun d v H1 e r P1 => by
  by_cases q : isS d = true
  · rw [if_pos q] at P1
    exact P1 v H1 (Same.refl H1) (r.scal q)
  · rw [if_neg q] at P1
    exact P1.elim⟩

/-! ### operators -/
def OpD (K : PySem.W.Frag) (r : R2) (g : D → D → Option D) : Prop := ∀ (O : Addr → Prop) (H : Hp) (x y : V) (a b d : D) (Q : VK), (∀ p, O p → H p ≠ none) → Rep K (hide O H) x a → Rep K (hide O H) y b → g a b = some d →
  (∀ v H', Same H H' → Rep K (hide O H') v d → Q v H') → r x y H Q
def UnD (K : PySem.W.Frag) (r : V → Hp → VK → Prop) (g : D → Option D) : Prop := ∀ (O : Addr → Prop) (H : Hp) (x : V) (a d : D) (Q : VK), (∀ p, O p → H p ≠ none) → Rep K (hide O H) x a → g a = some d →
  (∀ v H', Same H H' → Rep K (hide O H') v d → Q v H') → r x H Q
def CallD (K : PySem.W.Frag) (r : List V → Hp → VK → Prop) (g : List D → Option D) : Prop := ∀ (O : Addr → Prop) (H : Hp) (xs : List V) (as : List D) (d : D) (Q : VK), (∀ p, O p → H p ≠ none) → RepL K (hide O H) xs as → g as = some d →
  (∀ v H', Same H H' → Rep K (hide O H') v d → Q v H') → r xs H Q
def fOp (g : D → D → Option D) (fa fb : Env → R D) : Env → R D := fun ρ => (fa ρ).bind fun a => (fb ρ).bind fun b => R.ofO (g a b)
theorem drop_mono {K : PySem.W.Frag} {O : Ob} {L : Lm} {es es' : List Nat} {H H' : Hp} {v : V} {d : D} (h : ∀ i ∈ es, i ∈ es') (e : Same H H') (r : rV K O (dropL es L) H v d) : rV K O (dropL es' L) H' v d := Rep.mono (hide_same (hs_dropLe h) e) r
theorem tD_op {r : R2} {g : D → D → Option D} {ea eb : List Nat} {fa fb : Env → R D} (hg : OpD X.K r g) : ∀ σ H Q, tD X.K W (ea ++ eb) (fOp g fa fb) σ H Q → tOp r (tD X.K W ea fa) (tD X.K W eb fb) σ H Q := fun σ H Q ⟨B, O, L, ρ, S, P⟩ =>
  ⟨B, O, L, ρ, S, PostG.bind P fun a x H1 e1 r1 P1 => ⟨B, O, L, ρ, S.ext e1, PostG.bind P1 fun b y H2 e2 r2 P2 => by
    obtain ⟨d, hd, P3⟩ := P2.ofO
    exact hg (HS O (dropL (ea ++ eb) L)) H2 x y a b d Q (((S.ext e1).ext e2).drop _).hdom (drop_mono (fun i h => List.mem_append_left _ h) e2 r1) (drop_mono (fun i h => List.mem_append_right _ h) (Same.refl H2) r2) hd P3⟩⟩
theorem pd_op {op : Operator} {r : R2} {g : D → D → Option D} {a b : Expr} {pos : Pos} {ea eb : List Nat} {fa fb : Env → R D} (ho : OpR X (binaryOp op) r) (hg : OpD X.K r g) (ha : PD X W a ea fa) (hb : PD X W b eb fb) :
    PD X W (.BinOp a op b pos) (ea ++ eb) (fOp g fa fb) := PE.imp (pe_op ho ha hb) (tD_op hg)
theorem pd_cmp {op : CmpOp} {r : R2} {g : D → D → Option D} {a b : Expr} {pos : Pos} {ea eb : List Nat} {fa fb : Env → R D} (ho : OpR X (compareOp op) r) (hg : OpD X.K r g) (ha : PD X W a ea fa) (hb : PD X W b eb fb)
    (hm : behindInMarks op b = false) : PD X W (.Compare a [op] [b] pos) (ea ++ eb) (fOp g fa fb) := PE.imp (pe_cmpR ho ha hb hm) (tD_op hg)
def asB : D → R Bool
  | .bl b => .ok b
  | _ => .stuck
def fB (fe : Env → R D) : Env → R Bool := fun ρ => (fe ρ).bind asB
theorem tD_B {es : List Nat} {fe : Env → R D} : ∀ σ H Q, tDT X.K W (fB fe) σ H Q → tD X.K W es fe σ H fun x H1 => ∃ k, x = .bl k ∧ Q k H1 := fun σ H Q ⟨B, O, L, ρ, S, P⟩ =>
  ⟨B, O, L, ρ, S, PostG.bind P fun d v H1 e r P1 => by
    cases d <;> first
      | (obtain rfl := (show v = _ from r)
         exact ⟨_, rfl, P1 _ H1 (Same.refl H1) rfl⟩)
      | exact P1.elim⟩
theorem pdt_cmp {op : CmpOp} {r : R2} {g : D → D → Option D} {a b : Expr} {pos : Pos} {ea eb : List Nat} {fa fb : Env → R D} (ho : OpR X (compareOp op) r) (hg : OpD X.K r g) (ha : PD X W a ea fa) (hb : PD X W b eb fb)
    (hm : behindInMarks op b = false) : PDT X W (.Compare a [op] [b] pos) (fB (fOp g fa fb)) := PT.imp (pt_cmpR ho ha hb hm) fun σ H Q h => by
  have q := tD_B (es := ea ++ eb) σ H Q h
  exact tD_op hg σ H _ q
theorem pdt_val {e : Expr} {es : List Nat} {fe : Env → R D} (h : PD X W e es fe) (he : ∀ whole, isTrue e X.env whole = (do let v ← whole; standAt e.pos; holding [v] (truthy v)) := by intro _; rfl) : PDT X W e (fB fe) :=
  PT.imp (pt_val h he) fun σ H Q q => tD_B σ H Q q

/-! ### and, or, not -/
def fAnd (fa fb : Env → R Bool) : Env → R Bool := fun ρ => (fa ρ).bind fun a => if a = true then fb ρ else .ok false
def fOr (fa fb : Env → R Bool) : Env → R Bool := fun ρ => (fa ρ).bind fun a => if a = true then .ok true else fb ρ
def fNot (fa : Env → R Bool) : Env → R Bool := fun ρ => (fa ρ).bind fun a => .ok (!a)
variable {a b c : Expr} {rest : List Expr} {pos : Pos} {ta tb tc : Env → R Bool}
theorem tDT_and : ∀ σ H Q, tDT X.K W (fAnd ta tb) σ H Q → tAnd (tDT X.K W ta) (tDT X.K W tb) σ H Q := fun σ H Q ⟨B, O, L, ρ, S, P⟩ =>
  ⟨B, O, L, ρ, S, PostG.bind P fun k k' H1 e r P1 => by
    obtain rfl : k' = k := r
    cases k' with
    | true => exact ⟨B, O, L, ρ, S.ext e, P1⟩
    | false => exact P1 false H1 (Same.refl H1) rfl⟩
theorem tDT_or : ∀ σ H Q, tDT X.K W (fOr ta tb) σ H Q → tOr (tDT X.K W ta) (tDT X.K W tb) σ H Q := fun σ H Q ⟨B, O, L, ρ, S, P⟩ =>
  ⟨B, O, L, ρ, S, PostG.bind P fun k k' H1 e r P1 => by
    obtain rfl : k' = k := r
    cases k' with
    | false => exact ⟨B, O, L, ρ, S.ext e, P1⟩
    | true => exact P1 true H1 (Same.refl H1) rfl⟩
theorem pdw_and1 (h : PDT X W a ta) : PDW X W (.BoolOp .And [a] pos) ta := pw_and1 h
theorem pdw_or1 (h : PDT X W a ta) : PDW X W (.BoolOp .Or [a] pos) ta := pw_or1 h
theorem pdw_and (h : PDT X W a ta) (k : PDW X W (.BoolOp .And (b :: rest) pos) tb) : PDW X W (.BoolOp .And (a :: b :: rest) pos) (fAnd ta tb) := PW.imp (pw_and h k) tDT_and
theorem pdw_or (h : PDT X W a ta) (k : PDW X W (.BoolOp .Or (b :: rest) pos) tb) : PDW X W (.BoolOp .Or (a :: b :: rest) pos) (fOr ta tb) := PW.imp (pw_or h k) tDT_or
theorem pdt_w (h : PDW X W a ta) : PDT X W a ta := PW.pt h
theorem pdt_not (h : PDT X W a ta) : PDT X W (.UnaryOp .Not a pos) (fNot ta) := PT.imp (pt_not h) fun σ H Q ⟨B, O, L, ρ, S, P⟩ =>
  ⟨B, O, L, ρ, S, PostG.bind P fun k k' H1 e r P1 => by
    obtain rfl : k' = k := r
    exact P1 _ H1 (Same.refl H1) rfl⟩
/-- .. as values -/
def fV (fb : Env → R Bool) : Env → R D := fun ρ => (fb ρ).bind fun k => .ok (.bl k)
theorem pd_one {op} {es : List Nat} {fe : Env → R D} (h : PD X W a es fe) : PD X W (.BoolOp op [a] pos) es fe := pe_one h
def fAndV (fa fb : Env → R D) : Env → R D := fun ρ => (fa ρ).bind fun a => (asB a).bind fun k => if k = true then fb ρ else .ok (.bl false)
def fOrV (fa fb : Env → R D) : Env → R D := fun ρ => (fa ρ).bind fun a => (asB a).bind fun k => if k = true then .ok (.bl true) else fb ρ
def fNotV (fa : Env → R D) : Env → R D := fun ρ => (fa ρ).bind fun a => (asB a).bind fun k => .ok (.bl (!k))
theorem pd_and {ea eb : List Nat} {fa fb : Env → R D} (h : PD X W a ea fa) (k : PD X W (.BoolOp .And (b :: rest) pos) eb fb) : PD X W (.BoolOp .And (a :: b :: rest) pos) eb (fAndV fa fb) := PE.imp (pe_and h k) fun σ H Q ⟨B, O, L, ρ, S, P⟩ =>
  ⟨B, O, L, ρ, S, PostG.bind P fun d v H1 e r P1 => by
    cases d <;> first
      | exact P1.elim
      | (rename_i c
         obtain rfl := (show v = _ from r)
         refine ⟨c, rfl, ?_⟩
         cases c with
         | true => exact ⟨B, O, L, ρ, S.ext e, P1⟩
         | false => exact P1 (.bl false) H1 (Same.refl H1) rfl)⟩
theorem pd_or {ea eb : List Nat} {fa fb : Env → R D} (h : PD X W a ea fa) (k : PD X W (.BoolOp .Or (b :: rest) pos) eb fb) : PD X W (.BoolOp .Or (a :: b :: rest) pos) eb (fOrV fa fb) := PE.imp (pe_or h k) fun σ H Q ⟨B, O, L, ρ, S, P⟩ =>
  ⟨B, O, L, ρ, S, PostG.bind P fun d v H1 e r P1 => by
    cases d <;> first
      | exact P1.elim
      | (rename_i c
         obtain rfl := (show v = _ from r)
         refine ⟨c, rfl, ?_⟩
         cases c with
         | false => exact ⟨B, O, L, ρ, S.ext e, P1⟩
         | true => exact P1 (.bl true) H1 (Same.refl H1) rfl)⟩
theorem pd_not {ea : List Nat} {fa : Env → R D} (h : PD X W a ea fa) : PD X W (.UnaryOp .Not a pos) [] (fNotV fa) := PE.imp (pe_not h) fun σ H Q ⟨B, O, L, ρ, S, P⟩ =>
  ⟨B, O, L, ρ, S, PostG.bind P fun d v H1 e r P1 => by
    cases d <;> first
      | exact P1.elim
      | (rename_i c
         obtain rfl := (show v = _ from r)
         exact ⟨c, rfl, P1 _ H1 (Same.refl H1) rfl⟩)⟩
def fIfE (t : Env → R Bool) (fa fb : Env → R D) : Env → R D := fun ρ => (t ρ).bind fun k => if k = true then fa ρ else fb ρ
theorem pd_ifE {ea eb : List Nat} {fa fb : Env → R D} (ht : PDT X W c tc) (ha : PD X W a ea fa) (hb : PD X W b eb fb) : PD X W (.IfExp c a b pos) (ea ++ eb) (fIfE tc fa fb) := PE.imp (pe_ifExp ht ha hb) fun σ H Q ⟨B, O, L, ρ, S, P⟩ =>
  ⟨B, O, L, ρ, S, PostG.bind P fun k k' H1 e r P1 => by
    obtain rfl : k' = k := r
    have weak : ∀ {es : List Nat} {r : R D}, (∀ i ∈ es, i ∈ ea ++ eb) → PostG X.K O W (rV X.K O (dropL (ea ++ eb) L)) r σ H1 Q → PostG X.K O W (rV X.K O (dropL es L)) r σ H1 Q := fun {es r} hs p => by
      cases r with
      | ok d => exact fun v H2 e2 r2 => p v H2 e2 (drop_mono hs (Same.refl H2) r2)
      | exc x => exact p
      | stuck => exact p
    cases k' with
    | true => exact ⟨B, O, L, ρ, S.ext e, weak (fun i h => List.mem_append_left _ h) P1⟩
    | false => exact ⟨B, O, L, ρ, S.ext e, weak (fun i h => List.mem_append_right _ h) P1⟩⟩

/-! ### arguments, displays -/
def fNil : Env → R (List D) := fun _ => .ok []
def fCons (fa : Env → R D) (fs : Env → R (List D)) : Env → R (List D) := fun ρ => (fa ρ).bind fun a => (fs ρ).bind fun l => .ok (a :: l)
variable {e : Expr} {es : List Expr} {ea eb : List Nat} {fa : Env → R D} {fs : Env → R (List D)}
theorem pda_nil : PDA X W [] [] fNil := PA.imp pa_nil fun σ H Q ⟨B, O, L, ρ, S, P⟩ => P [] H (Same.refl H) rfl
theorem pda_cons (h : PD X W e ea fa) (k : PDA X W es eb fs) (hs : starEach (e :: es) X.env = (false, eval e X.env) :: starEach es X.env := by rfl) : PDA X W (e :: es) (ea ++ eb) (fCons fa fs) := PA.imp (pa_cons h k hs) fun σ H Q ⟨B, O, L, ρ, S, P⟩ =>
  ⟨B, O, L, ρ, S, PostG.bind P fun d v H1 e1 r1 P1 => ⟨B, O, L, ρ, S.ext e1, PostG.bind P1 fun ds vs H2 e2 r2 P2 =>
    P2 (v :: vs) H2 (Same.refl H2) ⟨v, vs, rfl, drop_mono (fun i h => List.mem_append_left _ h) e2 r1, RepL.mono (hide_same (hs_dropLe fun i h => List.mem_append_right _ h) (Same.refl H2)) r2⟩⟩⟩
def lenOk {α : Type} (l : List α) (r : R D) : R D := if l.length ≤ sizeLine then r else .stuck
def fTup (fs : Env → R (List D)) : Env → R D := fun ρ => (fs ρ).bind fun l => lenOk l (.ok (.tup l))
def fLst (fs : Env → R (List D)) : Env → R D := fun ρ => (fs ρ).bind fun l => lenOk l (.ok (.lst l))
/-- a new object, seen by nobody -/
theorem fresh_rep {K : PySem.W.Frag} {O : Addr → Prop} {H H' : Hp} {p : Addr} {vs : List V} {ds : List D} (hd : ∀ p, O p → H p ≠ none) (hp : H p = none) (e : Same H H') (r : RepL K (hide O H) vs ds) : ¬ O p ∧ RepL K (hide O H') vs ds :=
  ⟨fun z => hd p z hp, r.mono (hide_same (fun _ z => z) e)⟩
theorem pd_tup {x1} (h : PDA X W es ea fs) : PD X W (.Tuple es x1 pos) ea (fTup fs) := PE.imp (pe_tup h) fun σ H Q ⟨B, O, L, ρ, S, P⟩ =>
  ⟨B, O, L, ρ, S, PostG.bind P fun ds vs H1 e r P1 => by
    have hl := RepL.length r
    unfold lenOk at P1
    split at P1
    · rename_i hz
      refine ⟨by omega, fun p hp => P1 _ _ (same_new hp) ?_⟩
      obtain ⟨n, r2⟩ := fresh_rep ((S.ext e).drop ea).hdom hp (same_new (o := .tup vs) hp) r
      exact ⟨p, vs, rfl, by rw [hide_no n, upd_same], r2⟩
    · exact P1.elim⟩
/-- new objects: the address, what it holds -/
def PostF (K : PySem.W.Frag) (O : Ob) (W : WX) (L : Lm) (r : R D) (σ : St) (H : Hp) (Q : V → Hp → Prop) : Prop :=
  match r with
  | .ok d => ∀ p o H', H p = none → Same H H' → H' p = some o → Top K (hide (fun a => HS O L a ∨ a = p) H') o d → Q (.ref p) H'
  | .exc x => ∀ c dd H', Same H H' → RepX K (hide O H') H' c dd x → W c dd σ H'
  | .stuck => False
def tDF (K : PySem.W.Frag) (W : WX) (es : List Nat) (fe : Env → R D) : TE := fun σ H Q => ∃ B O L ρ, SR K B O L σ H ρ ∧ PostF K O W (dropL es L) (fe ρ) σ H Q
def PDF (X : Cx) (W : WX) (e : Expr) (es : List Nat) (fe : Env → R D) : Prop := PE X e (tDF X.K W es fe)
theorem Top.rep {K : PySem.W.Frag} {G G' : Hp} {p : Addr} {o : HO} {d : D} (t : Top K G o d) (e : RdLe G G') (hp : G' p = some o) : Rep K G' (.ref p) d := by
  have t := t.mono e
  cases o <;> cases d <;> first
    | exact t.elim
    | exact ⟨p, _, rfl, .inl hp, t⟩
    | exact ⟨p, _, rfl, .inl hp, t⟩
    | (obtain ⟨t1, t2, t3⟩ := t
       subst t1
       exact ⟨p, _, _, rfl, hp, t2, t3⟩)
theorem PDF.pd (h : PDF X W e ea fa) : PD X W e ea fa := PE.imp h fun σ H Q ⟨B, O, L, ρ, S, P⟩ => ⟨B, O, L, ρ, S, by
  cases q : fa ρ with
  | ok d =>
    rw [q] at P
    refine fun p o H' hp e' ho t => P (.ref p) H' e' ?_
    have n : ¬ HS O (dropL ea L) p := fun z => (S.drop ea).hdom p z hp
    exact t.rep (hide_same (fun a z => .inl z) (Same.refl H')) (by rw [hide_no n, ho])
  | exc x => rw [q] at P; exact P
  | stuck => rw [q] at P; exact P⟩
theorem PostF.bind {K : PySem.W.Frag} {O : Ob} {L : Lm} {α β : Type} {rel : Hp → β → α → Prop} {r : R α} {k : α → R D} {σ : St} {H : Hp} {Q : VK} {Q' : β → Hp → Prop} (P : PostF K O W L (r.bind k) σ H Q)
    (h : ∀ a b H1, Same H H1 → rel H1 b a → (∀ p, H1 p = none → H p = none) → PostF K O W L (k a) σ H1 Q → Q' b H1) : PostG K O W rel r σ H Q' := by
  cases r with
  | ok a =>
    refine fun b H' e' hr => h a b H' e' hr (fun p => e'.free) ?_
    have P : PostF K O W L (k a) σ H Q := P
    cases q : k a with
    | ok d => rw [q] at P; exact fun p o H2 hp e2 => P p o H2 (e'.free hp) (e'.trans e2)
    | exc x => rw [q] at P; exact fun c dd H2 e2 => P c dd H2 (e'.trans e2)
    | stuck => rw [q] at P; exact P
  | exc x => exact P
  | stuck => exact P
theorem pdf_lst (h : PDA X W es ea fs) : PDF X W (.List es pos) ea (fLst fs) := PE.imp (pe_lst h) fun σ H Q ⟨B, O, L, ρ, S, P⟩ =>
  ⟨B, O, L, ρ, S, PostF.bind P fun ds vs H1 e r fr P1 => by
    have hl := RepL.length r
    unfold lenOk at P1
    split at P1
    · rename_i hz
      refine ⟨by omega, fun p hp => P1 p (.lst vs) _ hp (same_new hp) upd_same ?_⟩
      have r : RepL X.K (hide (HS O (dropL ea L)) H1) vs ds := r
      refine RepL.mono ?_ r
      have key : ∀ a u, hide (HS O (dropL ea L)) H1 a = some u → hide (fun a => HS O (dropL ea L) a ∨ a = p) (upd H1 p (.lst vs)) a = some u := fun a u z => by
        obtain ⟨n, z⟩ := hide_some z
        have np : a ≠ p := ne_of_none z hp
        rw [hide_no (fun y => y.elim n np), upd_ne np]
        exact z
      exact RdLe.ofKey key
    · exact P1.elim⟩
end
end DL
set_option Elab.async false
set_option linter.all false
set_option maxRecDepth 100000
namespace DL
open PySem L2

/-! ### statements -/
inductive Out where
  | nx (ρ : Env) | rt (d : D) (ρ : Env) | bk (ρ : Env) | ct (ρ : Env) | exc (x : XN) (ρ : Env) | stuck
abbrev Ow := List (Nat × Nat)
/-- what is owned where a loop is left or begun again; where the def is left -/
structure Ox where
  lp : Ow
  rx : Ow
def OwOk (ow : Ow) (L : Lm) : Prop := ∀ p ∈ ow, ∃ as, L p.1 = some (p.2, as)
theorem OwOk.nil {L : Lm} : OwOk [] L := fun _ h => by cases h
theorem OwOk.sub {ow ow' : Ow} {L : Lm} (h : OwOk ow L) (s : ∀ p ∈ ow', p ∈ ow) : OwOk ow' L := fun p q => h p (s p q)
theorem OwOk.drop {ow ow' : Ow} {L : Lm} {es : List Nat} (h : OwOk ow L) (s : ∀ p ∈ ow', p ∈ ow ∧ p.1 ∉ es) : OwOk ow' (dropL es L) := fun p q => by
  rw [dropL_no (s p q).2]
  exact h p (s p q).1
def PostS (K : PySem.W.Frag) (B : Hp) (O : Ob) (W : WX) (ow : Ow) (owl : Ox) (r : Out) (D : Ends) : Prop :=
  match r with
  | .nx ρ => ∀ σ H L, SR K B O L σ H ρ → OwOk ow L → D.nx σ H
  | .rt d ρ => ∀ v σ H L, SR K B O L σ H ρ → OwOk owl.rx L → Rep K (hide (HS O L) H) v d → D.rt v H
  | .bk ρ => ∀ σ H L, SR K B O L σ H ρ → OwOk owl.lp L → D.bk σ H
  | .ct ρ => ∀ σ H L, SR K B O L σ H ρ → OwOk owl.lp L → D.ct σ H
  | .exc x ρ => ∀ c dd σ H L, SR K B O L σ H ρ → OwOk owl.rx L → RepX K (hide O H) H c dd x → W c dd σ H
  | .stuck => False
def tDS (K : PySem.W.Frag) (W : WX) (ow ow' : Ow) (owl : Ox) (fs : Env → Out) : TS := fun D σ H => ∃ B O L ρ, SR K B O L σ H ρ ∧ OwOk ow L ∧ PostS K B O W ow' owl (fs ρ) D
def PDS (X : Cx) (W : WX) (ow ow' : Ow) (owl : Ox) (st : Stmt) (fs : Env → Out) : Prop := PS X st (tDS X.K W ow ow' owl fs)
def PDB (X : Cx) (W : WX) (ow ow' : Ow) (owl : Ox) (st : List Stmt) (fs : Env → Out) : Prop := PSs X st (tDS X.K W ow ow' owl fs)

/-- an expression's answer, then the statement -/
def stE {α : Type} (r : R α) (ρ : Env) (k : α → Out) : Out :=
  match r with
  | .ok a => k a
  | .exc x => .exc x ρ
  | .stuck => .stuck
theorem stE_ok {α : Type} {a : α} {ρ : Env} {k : α → Out} : stE (.ok a) ρ k = k a := rfl
theorem stE_exc {α : Type} {x : XN} {ρ : Env} {k : α → Out} : stE (.exc x : R α) ρ k = .exc x ρ := rfl
section
variable {K : PySem.W.Frag} {B H : Hp} {O : Ob} {W : WX} {ow ow' : Ow} {owl : Ox} {L : Lm} {σ : St} {ρ : Env} {D : Ends} {α β : Type}
theorem PostS.bind {rel : Hp → β → α → Prop} {r : R α} {k : α → Out} {Q : β → Hp → Prop} (P : PostS K B O W ow owl (stE r ρ k) D) (S : SR K B O L σ H ρ) (w : OwOk owl.rx L)
    (h : ∀ a b H1, Same H H1 → rel H1 b a → PostS K B O W ow owl (k a) D → Q b H1) : PostG K O W rel r σ H Q := by
  cases r with
  | ok a => exact fun b H1 e hr => h a b H1 e hr P
  | exc x => exact fun c dd H1 e hr => P c dd σ H1 L (S.ext e) w hr
  | stuck => exact P
theorem PostS.rebase {B' : Hp} {r : Out} (P : PostS K B O W ow owl r D) (e : Same B B') (dom : ∀ p, O p → B p ≠ none) : PostS K B' O W ow owl r D := by
  cases r with
  | nx ρ => exact fun σ H L S w => P σ H L (S.unbase e dom) w
  | rt d ρ => exact fun v σ H L S w r => P v σ H L (S.unbase e dom) w r
  | bk ρ => exact fun σ H L S w => P σ H L (S.unbase e dom) w
  | ct ρ => exact fun σ H L S w => P σ H L (S.unbase e dom) w
  | exc x ρ => exact fun c dd σ H L S w => P c dd σ H L (S.unbase e dom) w
  | stuck => exact P
end
section
variable {X : Cx} {W : WX} {ow ow' ow1 ow2 : Ow} {owl : Ox} {st : Stmt} {sts rest : List Stmt} {f g : Env → Out} {e c : Expr} {es : List Nat} {fe : Env → R D} {fc : Env → R Bool} {pos : Pos}
def fNext : Env → Out := fun ρ => .nx ρ
def fSeq (f g : Env → Out) : Env → Out := fun ρ =>
  match f ρ with
  | .nx ρ' => g ρ'
  | o => o
theorem pdb_nil (h : ∀ p ∈ ow', p ∈ ow := by decide) : PDB X W ow ow' owl [] fNext := PSs.imp pss_nil fun D σ H ⟨B, O, L, ρ, S, w, P⟩ => P σ H L S (w.sub h)
theorem pdb_cons (h : PDS X W ow ow1 owl st f) (k : PDB X W ow1 ow2 owl rest g) : PDB X W ow ow2 owl (st :: rest) (fSeq f g) := PSs.imp (pss_cons h k) fun D σ H ⟨B, O, L, ρ, S, w, P⟩ => ⟨B, O, L, ρ, S, w, by
  have P : PostS X.K B O W ow2 owl (match f ρ with | .nx ρ' => g ρ' | o => o) D := P
  cases q : f ρ with
  | nx ρ' => rw [q] at P; exact fun σ' H' L' S' w' => ⟨B, O, L', ρ', S', w', P⟩
  | rt d ρ' => rw [q] at P; exact P
  | bk ρ' => rw [q] at P; exact P
  | ct ρ' => rw [q] at P; exact P
  | exc x ρ' => rw [q] at P; exact P
  | stuck => rw [q] at P; exact P⟩
theorem pdb_one (h : PDS X W ow ow' owl st f) : PDB X W ow ow' owl [st] f := pss_one h
theorem tDS_weak (h : ∀ p ∈ ow2, p ∈ ow1) : ∀ D σ H, tDS X.K W ow ow2 owl f D σ H → tDS X.K W ow ow1 owl f D σ H := fun D σ H ⟨B, O, L, ρ, S, w, P⟩ => ⟨B, O, L, ρ, S, w, by
  cases q : f ρ with
  | nx ρ' => rw [q] at P; exact fun σ' H' L' S' w' => P σ' H' L' S' (w'.sub h)
  | rt d ρ' => rw [q] at P; exact P
  | bk ρ' => rw [q] at P; exact P
  | ct ρ' => rw [q] at P; exact P
  | exc x ρ' => rw [q] at P; exact P
  | stuck => rw [q] at P; exact P⟩
theorem PDB.weak (h : PDB X W ow ow1 owl sts f) (s : ∀ p ∈ ow2, p ∈ ow1 := by decide) : PDB X W ow ow2 owl sts f := PSs.imp h (tDS_weak s)
theorem PDS.weak (h : PDS X W ow ow1 owl st f) (s : ∀ p ∈ ow2, p ∈ ow1 := by decide) : PDS X W ow ow2 owl st f := PS.imp h (tDS_weak s)
def fAsg (i : Nat) (fe : Env → R D) : Env → Out := fun ρ => stE (fe ρ) ρ fun d => .nx (ρ.set i (some d))
theorem mem_cons2 {i : Nat} {es : List Nat} {j : Nat} (h : j ∉ es) (h2 : j ≠ i) : j ∉ i :: es := fun z => (List.mem_cons.mp z).elim h2 h
theorem dropL_dropL {es es' : List Nat} {L : Lm} : dropL es (dropL es' L) = dropL (es ++ es') L := by
  funext i
  unfold dropL
  by_cases h : i ∈ es
  · rw [if_pos h, if_pos (List.mem_append_left _ h)]
  · rw [if_neg h]
    by_cases h2 : i ∈ es'
    · rw [if_pos h2, if_pos (List.mem_append_right _ h2)]
    · rw [if_neg h2, if_neg fun z => (List.mem_append.mp z).elim h h2]
theorem pds_asg {i : Nat} (h : PS X st (tAsg (tD X.K W es fe) (gName i))) (ho : ∀ p ∈ ow', p ∈ ow ∧ p.1 ∉ i :: es := by decide) (hx : ∀ p ∈ owl.rx, p ∈ ow := by decide) : PDS X W ow ow' owl st (fAsg i fe) := PS.imp h fun D σ H ⟨B, O, L, ρ, S, w, P⟩ => ⟨B, O, L, ρ, S, PostS.bind P S (w.sub hx) fun d v H1 e r P1 => by
  refine P1 _ _ _ (((S.ext e).drop es).set r) ?_
  rw [dropL_dropL]
  exact w.drop ho⟩
def fAsgF (i : Nat) (fe : Env → R D) : Env → Out := fun ρ => if i < ρ.length then stE (fe ρ) ρ fun d => .nx (ρ.set i (some d)) else .stuck
theorem pds_asgF {i : Nat} (h : PS X st (tAsg (tDF X.K W es fe) (gName i))) (ho : ∀ p ∈ ow', p = (i, 1) ∨ (p ∈ ow ∧ p.1 ∉ i :: es) := by decide) (hx : ∀ p ∈ owl.rx, p ∈ ow := by decide) : PDS X W ow ow' owl st (fAsgF i fe) := PS.imp h fun D σ H ⟨B, O, L, ρ, S, w, P⟩ => ⟨B, O, L, ρ, S, by
  have P : PostS X.K B O W ow' owl (if i < ρ.length then stE (fe ρ) ρ fun d => .nx (ρ.set i (some d)) else .stuck) D := P
  split at P
  · rename_i hi
    cases q : fe ρ with
    | ok d =>
      rw [q] at P
      intro p o H' hp e ho' t
      refine P _ _ _ ((S.drop es).fresh e (by rw [S.len]; exact hi) hp ho' t) fun z hz => ?_
      rcases ho z hz with rfl | ⟨h1, h2⟩
      · exact ⟨_, putL_same⟩
      · rw [putL_ne (fun y => h2 (by rw [y]; exact List.mem_cons_self)), dropL_no fun y => h2 (List.mem_cons_of_mem _ y)]
        exact w z h1
    | exc x => rw [q] at P; exact fun c dd H' e r => P c dd σ H' L (S.ext e) (w.sub hx) r
    | stuck => rw [q] at P; exact P
  · exact P.elim⟩
def fRet (fe : Env → R D) : Env → Out := fun ρ => stE (fe ρ) ρ fun d => .rt d ρ
theorem hs_le {K : PySem.W.Frag} {O : Ob} {L : Lm} {H : Hp} {v : V} {d : D} (r : Rep K (hide (HS O L) H) v d) : Rep K (hide O H) v d := r.mono (hide_same hs_0 (Same.refl H))
theorem pds_ret (h : PD X W e es fe) (hx : ∀ p ∈ owl.rx, p ∈ ow ∧ p.1 ∉ es := by decide) : PDS X W ow ow' owl (.Return (some e) pos) (fRet fe) := PS.imp (ps_ret h) fun D σ H ⟨B, O, L, ρ, S, w, P⟩ => ⟨B, O, L, ρ, S, PostS.bind P S (w.sub fun p hp => (hx p hp).1) fun d v H1 e r P1 => P1 v σ H1 _ ((S.ext e).drop es) (w.drop hx) r⟩
def fRetN : Env → Out := fun ρ => .rt .non ρ
theorem pds_retN (hx : ∀ p ∈ owl.rx, p ∈ ow := by decide) : PDS X W ow ow' owl (.Return none pos) fRetN := PS.imp ps_retN fun D σ H ⟨B, O, L, ρ, S, w, P⟩ => P .non σ H L S (w.sub hx) rfl
def fDrop (fe : Env → R D) : Env → Out := fun ρ => stE (fe ρ) ρ fun _ => .nx ρ
theorem pds_drop (h : PS X st (tDrop (tD X.K W es fe))) (ho : ∀ p ∈ ow', p ∈ ow := by decide) (hx : ∀ p ∈ owl.rx, p ∈ ow := by decide) : PDS X W ow ow' owl st (fDrop fe) := PS.imp h fun D σ H ⟨B, O, L, ρ, S, w, P⟩ => ⟨B, O, L, ρ, S, PostS.bind P S (w.sub hx) fun d v H1 e r P1 => P1 σ H1 L (S.ext e) (w.sub ho)⟩
theorem pds_pass (h : ∀ p ∈ ow', p ∈ ow := by decide) : PDS X W ow ow' owl (.Pass pos) fNext := PS.imp ps_pass fun D σ H ⟨B, O, L, ρ, S, w, P⟩ => P σ H L S (w.sub h)
theorem pds_doc {x j pos pos'} (h : ∀ p ∈ ow', p ∈ ow := by decide) : PDS X W ow ow' owl (.Expr (.Constant (.str x) j pos) pos') fNext := PS.imp ps_doc fun D σ H ⟨B, O, L, ρ, S, w, P⟩ => P σ H L S (w.sub h)
def fBrk : Env → Out := fun ρ => .bk ρ
def fCont : Env → Out := fun ρ => .ct ρ
theorem pds_brk (h : ∀ p ∈ owl.lp, p ∈ ow := by decide) : PDS X W ow ow' owl (.Break pos) fBrk := PS.imp ps_break fun D σ H ⟨B, O, L, ρ, S, w, P⟩ => P σ H L S (w.sub h)
theorem pds_cont (h : ∀ p ∈ owl.lp, p ∈ ow := by decide) : PDS X W ow ow' owl (.Continue pos) fCont := PS.imp ps_continue fun D σ H ⟨B, O, L, ρ, S, w, P⟩ => P σ H L S (w.sub h)
def fIf (c : Env → R Bool) (f g : Env → Out) : Env → Out := fun ρ => stE (c ρ) ρ fun b => if b = true then f ρ else g ρ
theorem pds_if {a b : List Stmt} (hc : PDT X W c fc) (ha : PDB X W ow ow' owl a f) (hb : PDB X W ow ow' owl b g) (hx : ∀ p ∈ owl.rx, p ∈ ow := by decide) : PDS X W ow ow' owl (.If c a b pos) (fIf fc f g) := PS.imp (ps_if hc ha hb) fun D σ H ⟨B, O, L, ρ, S, w, P⟩ =>
  ⟨B, O, L, ρ, S, PostS.bind P S (w.sub hx) fun k k' H1 e r P1 => by
    obtain rfl : k' = k := r
    cases k' with
    | true => exact ⟨B, O, L, ρ, S.ext e, w, P1⟩
    | false => exact ⟨B, O, L, ρ, S.ext e, w, P1⟩⟩
end

/-! ### what is walked -/
def JD (K : PySem.W.Frag) (G : Hp) (J : It) (ds : List D) : Prop := ∀ (i : Nat) (H : Hp) (O : Addr → Prop), RdLe G (hide O H) → (∀ p, O p → H p ≠ none) →
  (∀ d, ds[i]? = some d → J.go i H ∧ ∀ x H', J.yld i H x H' → Same H H' ∧ Rep K (hide O H') x d) ∧ (ds.length ≤ i → J.stop i H)
def rJ (K : PySem.W.Frag) (O : Ob) (L : Lm) : Hp → It → List D → Prop := fun H J ds => JD K (hide (HS O L) H) J ds
def tDI (K : PySem.W.Frag) (W : WX) (es : List Nat) (fi : Env → R (List D)) : TI := fun σ H Q => ∃ B O L ρ, SR K B O L σ H ρ ∧ PostG K O W (rJ K O (dropL es L)) (fi ρ) σ H Q
def PDI (X : Cx) (W : WX) (tg iter : Expr) (es : List Nat) (fi : Env → R (List D)) : Prop := PI X tg iter (tDI X.K W es fi)
theorem PI.imp {X : Cx} {tg e : Expr} {t t' : TI} (h : PI X tg e t) (f : ∀ σ H Q, t' σ H Q → t σ H Q) : PI X tg e t' := ⟨fun pins s σ H Q I q => h.run pins s σ H Q I (f σ H Q q)⟩
/-- a target -/
def TgD (K : PySem.W.Frag) (g : TG) (ts : List Nat) (ft : D → Env → Option Env) : Prop := ∀ (B : Hp) (O : Ob) (L : Lm) (σ : St) (H : Hp) (ρ ρ' : Env) (v : V) (d : D) (Q : St → Hp → Prop), SR K B O L σ H ρ → Rep K (hide (HS O L) H) v d → ft d ρ = some ρ' →
  (∀ σ', SR K B O (dropL ts L) σ' H ρ' → (∀ vs : List Nat, (∀ t ∈ ts, t ∈ vs) → wipe σ' vs = wipe σ vs) → Q σ' H) → g v σ H Q
theorem wipe_in {σ : St} {i : Nat} : ∀ {vs : List Nat}, i ∈ vs → i < σ.length → (wipe σ vs)[i]? = some none
  | [], h, _ => by cases h
  | v :: vs, h, hl => by
    unfold wipe
    by_cases e : v = i
    · subst e
      exact List.getElem?_set_self (by rw [wipe_length]; exact hl)
    · rw [List.getElem?_set_ne e]
      exact wipe_in ((List.mem_cons.mp h).elim (fun z => absurd z.symm e) id) hl
theorem wipe_eq {σ τ : St} {vs : List Nat} (hl : σ.length = τ.length) (h : ∀ i, i ∉ vs → σ[i]? = τ[i]?) : wipe σ vs = wipe τ vs := by
  refine List.ext_getElem? fun i => ?_
  by_cases m : i ∈ vs
  · by_cases l : i < σ.length
    · rw [wipe_in m l, wipe_in m (by omega)]
    · rw [List.getElem?_eq_none (by rw [wipe_length]; omega), List.getElem?_eq_none (by rw [wipe_length]; omega)]
  · rw [wipe_out m, wipe_out m, h i m]
theorem wipe_set {σ : St} {i : Nat} {x : Option V} {vs : List Nat} (h : i ∈ vs) : wipe (σ.set i x) vs = wipe σ vs :=
  wipe_eq (by rw [List.length_set]) fun j n => List.getElem?_set_ne (fun z : i = j => n (by rw [← z]; exact h))
theorem wipe_wipe {σ : St} {vs : List Nat} : wipe (wipe σ vs) vs = wipe σ vs := wipe_eq (wipe_length _ _) fun i n => wipe_out n
def gtName (i : Nat) : D → Env → Option Env := fun d ρ => some (ρ.set i (some d))
def gtPair (i j : Nat) : D → Env → Option Env
  | .tup [a, b], ρ => some ((ρ.set i (some a)).set j (some b))
  | _, _ => none
theorem tg_name {K : PySem.W.Frag} {i : Nat} : TgD K (gName i) [i] (gtName i) := fun B O L σ H ρ ρ' v d Q S r h k => by
  cases h
  exact k _ (S.set r) fun vs hv => wipe_set (hv i List.mem_cons_self)
theorem tg_pair {K : PySem.W.Frag} {i j : Nat} : TgD K (gTup K 2 (gCons (gName i) (gCons (gName j) gNil))) [j, i] (gtPair i j) := fun B O L σ H ρ ρ' v d Q S r h k => by
  cases d <;> first | (cases h; done) | skip
  rename_i ds
  match ds, h, r with
  | [a, b], h, r =>
    cases h
    obtain ⟨p, vs, e, hs, x, xs, e1, r1, y, ys, e2, r2, e3⟩ := r
    have e3 : ys = [] := e3
    subst e e1 e2 e3
    refine ⟨p, _, rfl, .inl (.inl (hide_some hs).2), rfl, x, _, rfl, y, _, rfl, rfl, ?_⟩
    have q := (S.set (i := i) r1).set (i := j) (r2.mono (hide_same hs_drop (Same.refl H)))
    rw [dropL_dropL] at q
    exact k _ q fun vs hv => (wipe_set (hv j List.mem_cons_self)).trans (wipe_set (hv i (List.mem_cons_of_mem _ List.mem_cons_self)))
def forL (ft : D → Env → Option Env) (fb : Env → Out) : List D → Env → Out
  | [], ρ => .nx ρ
  | d :: ds, ρ =>
    match ft d ρ with
    | none => .stuck
    | some ρ1 =>
      match fb ρ1 with
      | .nx ρ2 => forL ft fb ds ρ2
      | .ct ρ2 => forL ft fb ds ρ2
      | .bk ρ2 => .nx ρ2
      | o => o
def fFor (fi : Env → R (List D)) (ft : D → Env → Option Env) (fb : Env → Out) : Env → Out := fun ρ => stE (fi ρ) ρ fun ds => forL ft fb ds ρ
section
variable {X : Cx} {W : WX} {ow ow' lo : Ow} {owl : Ox} {tg iter : Expr} {body : List Stmt} {es ts : List Nat} {fi : Env → R (List D)} {g : TG} {ft : D → Env → Option Env} {fb : Env → Out} {pos : Pos}
theorem pds_for (hp : PassesOwn (model X.prog X.w) X.A X.env X.xe) (hc : X.calm = true) (hi : PDI X W tg iter es fi) (hg : PG X tg g) (ht : TgD X.K g ts ft) (hb : PDB X W lo lo ⟨lo, owl.rx⟩ body fb)
    (hlo : ∀ p ∈ lo, p ∈ ow ∧ p.1 ∉ es ∧ p.1 ∉ ts := by decide) (how : ∀ p ∈ ow', p ∈ lo := by decide) (hx : ∀ p ∈ owl.rx, p ∈ ow := by decide) (hs : ∀ x, foldedSetIterable iter X.env x = pure x := by intro _; rfl) : PDS X W ow ow' owl (.For tg iter body [] pos) (fFor fi ft fb) :=
  PS.imp (ps_for hp hc hi hg hb hs) fun D σ H ⟨B, O, L, ρ, S, w, P⟩ => ⟨B, O, L, ρ, S, PostS.bind P S (w.sub hx) fun ds J H1 e hJ P1 => by
    have S1 := (S.ext e).drop es
    have S2 := S1.rebase
    have eB := S1.nbSame
    have P2 : PostS X.K (nb (dropL es L) H1) O W ow' owl (forL ft fb ds ρ) D := P1.rebase eB S.dom
    generalize hB1 : nb (dropL es L) H1 = B1 at P2 S2 eB
    have seen : ∀ {L' : Lm} {σ' : St} {H' : Hp} {ρ' : Env}, SR X.K B1 O L' σ' H' ρ' → RdLe (hide (HS O (dropL es L)) H1) (hide (HS O L') H') := fun {L' σ' H' ρ'} S' => by
      have key : ∀ a u, hide (HS O (dropL es L)) H1 a = some u → hide (HS O L') H' a = some u := fun a u z => by
        obtain ⟨n, z⟩ := hide_some z
        have b1 : B1 a = some u := by
          rw [← hB1]
          unfold nb
          rw [hide_no fun y => n (.inr y)]
          exact z
        rw [hide_no]
        · exact S'.same a u b1
        · rintro (y | ⟨i, k, as, y, m⟩)
          · exact n (.inl y)
          · rw [(S'.nodup i k as y).2 a m] at b1
            cases b1
      exact RdLe.ofKey key
    refine ⟨fun i m σ H => m = ds.length - i ∧ i ≤ ds.length ∧ ∃ L' ρ', SR X.K B1 O L' σ H ρ' ∧ OwOk lo L' ∧ PostS X.K B1 O W ow' owl (forL ft fb (ds.drop i) ρ') D,
      ⟨ds.length, by simp, Nat.zero_le _, dropL es L, ρ, S2, w.drop fun p hp => ⟨(hlo p hp).1, (hlo p hp).2.1⟩, P2⟩, ?_⟩
    rintro i m σ' H' ⟨rfl, hi, L', ρ', S', w', P'⟩
    obtain ⟨j1, j2⟩ := hJ i H' (HS O L') (seen S') S'.hdom
    by_cases hlt : i < ds.length
    · obtain ⟨d, hd⟩ : ∃ d, ds[i]? = some d := ⟨ds[i], List.getElem?_eq_getElem hlt⟩
      obtain ⟨g1, g2⟩ := j1 d hd
      refine .inr ⟨g1, fun σ H => ∃ L' ρ', SR X.K B1 O L' σ H ρ' ∧ OwOk lo L' ∧ PostS X.K B1 O W ow' owl (forL ft fb (ds.drop (i + 1)) ρ') D, fun σ2 H2 q => ⟨ds.length - (i + 1), by omega, rfl, hlt, q⟩, fun x H2 y => ?_⟩
      obtain ⟨e2, r2⟩ := g2 x H2 y
      have hdr : ds.drop i = d :: ds.drop (i + 1) := by
        rw [List.drop_eq_getElem_cons hlt]
        rw [List.getElem?_eq_getElem hlt] at hd
        cases hd
        rfl
      rw [hdr] at P'
      have P' : PostS X.K B1 O W ow' owl (match ft d ρ' with | none => .stuck | some ρ1 => match fb ρ1 with | .nx ρ2 => forL ft fb (ds.drop (i + 1)) ρ2 | .ct ρ2 => forL ft fb (ds.drop (i + 1)) ρ2 | .bk ρ2 => .nx ρ2 | o => o) D := P'
      cases hft : ft d ρ' with
      | none =>
        rw [hft] at P'
        exact P'.elim
      | some ρ1 =>
        rw [hft] at P'
        have P' : PostS X.K B1 O W ow' owl (match fb ρ1 with | .nx ρ2 => forL ft fb (ds.drop (i + 1)) ρ2 | .ct ρ2 => forL ft fb (ds.drop (i + 1)) ρ2 | .bk ρ2 => .nx ρ2 | o => o) D := P'
        refine ht B1 O L' σ' H2 ρ' ρ1 x d _ (S'.ext e2) r2 hft fun σ3 S3 _ => ?_
        refine ⟨B1, O, _, ρ1, S3, w'.drop fun p hp => ⟨hp, (hlo p hp).2.2⟩, ?_⟩
        cases q : fb ρ1 with
        | nx ρ2 => rw [q] at P'; exact fun σ4 H4 L4 S4 w4 => ⟨L4, ρ2, S4, w4, P'⟩
        | ct ρ2 => rw [q] at P'; exact fun σ4 H4 L4 S4 w4 => ⟨L4, ρ2, S4, w4, P'⟩
        | bk ρ2 => rw [q] at P'; exact fun σ4 H4 L4 S4 w4 => P' σ4 H4 L4 S4 (w4.sub how)
        | rt d ρ2 => rw [q] at P'; exact P'
        | exc x ρ2 => rw [q] at P'; exact P'
        | stuck => rw [q] at P'; exact P'
    · have hi2 : i = ds.length := by omega
      subst hi2
      rw [List.drop_length] at P'
      exact .inl ⟨j2 (Nat.le_refl _), P' σ' H' L' S' (w'.sub how)⟩⟩
end
end DL
set_option Elab.async false
set_option linter.all false
set_option maxRecDepth 100000
namespace DL
open PySem L2

/-! ### comprehensions -/
def wipeE (ρ : Env) : List Nat → Env
  | [] => ρ
  | v :: vs => (wipeE ρ vs).set v none
def R.toO {α : Type} : R α → Option α
  | .ok a => some a
  | _ => none
abbrev W0 : WX := fun _ _ _ _ => False
theorem PostG.toO {α β : Type} {K : PySem.W.Frag} {O : Addr → Prop} {W : WX} {rel : Hp → β → α → Prop} {r : R α} {a : α} {σ : St} {H : Hp} {Q : β → Hp → Prop} (e : r.toO = some a) (h : ∀ b H', Same H H' → rel H' b a → Q b H') : PostG K O W rel r σ H Q := by
  cases r with
  | ok a' => cases e; exact h
  | exc x => cases e
  | stuck => cases e
section
variable {K : PySem.W.Frag} {B H H1 : Hp} {O : Ob} {L : Lm} {σ : St} {ρ : Env}
theorem SR.wipe1 (S : SR K B O L σ H ρ) : ∀ vs : List Nat, (∀ v ∈ vs, L v = none) → SR K B O L (wipe σ vs) H (wipeE ρ vs)
  | [], _ => S
  | v :: vs, h => (SR.wipe1 S vs fun u hu => h u (List.mem_cons_of_mem _ hu)).unset v (h v List.mem_cons_self)
/-- within a comprehension: the new list at D is hidden; it is part of the base -/
theorem SR.inComp (S : SR K B O L σ H1 ρ) {Dl : Addr} {o : HO} (hD : H1 Dl = none) (e : Same H1 H) (hq : H Dl = some o) : SR K (upd (nb L H1) Dl o) (O.or Dl) L σ H ρ := by
  have S' := S.rebase
  have nh : ¬ HS O L Dl := fun z => S.hdom Dl z hD
  have hs : ∀ a, HS (O.or Dl) L a → HS O L a ∨ a = Dl := fun a z => by
    rcases z with (z | z) | z
    · exact .inl (.inl z)
    · exact .inr z
    · exact .inl (.inr z)
  have le : RdLe (hide (HS O L) H1) (hide (HS (O.or Dl) L) H) := by
    have key : ∀ a u, hide (HS O L) H1 a = some u → hide (HS (O.or Dl) L) H a = some u := fun a u z => by
      obtain ⟨n, z⟩ := hide_some z
      rw [hide_no fun y => (hs a y).elim n (ne_of_none z hD)]
      exact e a u z
    exact RdLe.ofKey key
  refine ⟨fun a u z => ?_, fun p hp => ?_, S.len, fun i d h1 h2 => ?_, fun i k as h => ?_, fun i k as h => ⟨(S.nodup i k as h).1, fun p hp => ?_⟩, S.sep, S.one, S.pin⟩
  · by_cases q : a = Dl
    · subst q
      rw [upd_same] at z
      cases z
      exact hq
    · rw [upd_ne q] at z
      exact e a u (S'.same a u z)
  · by_cases q : p = Dl
    · subst q
      rw [upd_same]
      exact fun z => by cases z
    · rw [upd_ne q]
      exact S'.dom p (hp.elim id fun z => absurd z q)
  · obtain ⟨v, h3, h4⟩ := S.vars i d h1 h2
    exact ⟨v, h3, h4.mono le⟩
  · obtain ⟨v, d, h1, h2, h3⟩ := S.owns i k as h
    refine ⟨v, d, h1, h2, h3.mono le fun p hp => ?_⟩
    cases q : H1 p with
    | none => exact absurd q (h3.dom p hp)
    | some u => exact e p u q
  · have q : p ≠ Dl := fun z => nh (.inr ⟨i, k, as, h, z ▸ hp⟩)
    rw [upd_ne q]
    exact (S'.nodup i k as h).2 p hp
end
def compL (ft : D → Env → Option Env) (tt : Env → R Bool) (fe : Env → R D) (ρ : Env) : List D → Option (List D)
  | [] => some []
  | d :: ds => (ft d ρ).bind fun ρ1 => (tt ρ1).toO.bind fun b => if b = true then (fe ρ1).toO.bind fun y => (compL ft tt fe ρ ds).bind fun ys => some (y :: ys) else compL ft tt fe ρ ds
def fLc (fi : Env → R (List D)) (ft : D → Env → Option Env) (tt : Env → R Bool) (fe : Env → R D) (vs : List Nat) : Env → R D := fun ρ =>
  (fi ρ).bind fun ds => (R.ofO (compL ft tt fe (wipeE ρ vs) ds)).bind fun ys => lenOk ys (.ok (.lst ys))
def PDTs (X : Cx) (W : WX) (ifs : List Expr) (ft : Env → R Bool) : Prop := PTs X ifs (tDT X.K W ft)
theorem PTs.imp {X : Cx} {e : List Expr} {t t' : TT} (h : PTs X e t) (f : ∀ σ H Q, t' σ H Q → t σ H Q) : PTs X e t' := ⟨fun pins s σ H Q I q => h.run pins s σ H Q I (f σ H Q q)⟩
def fYes : Env → R Bool := fun _ => .ok true
theorem pdts_nil {X : Cx} {W : WX} : PDTs X W [] fYes := PTs.imp pts_nil fun σ H Q ⟨B, O, L, ρ, S, P⟩ => P true H (Same.refl H) rfl
theorem pdts_one {X : Cx} {W : WX} {c : Expr} {ft : Env → R Bool} (h : PDT X W c ft) : PDTs X W [c] ft := pts_one h

section
variable {K : PySem.W.Frag} {W : WX} {es ee vs ts : List Nat} {fi : Env → R (List D)} {g : TG} {ft : D → Env → Option Env} {tt : Env → R Bool} {fe : Env → R D}
theorem PostF.ofO {O : Ob} {L : Lm} {o : Option α} {k : α → R D} {σ : St} {H : Hp} {Q : VK} (P : PostF K O W L ((R.ofO o).bind k) σ H Q) : ∃ a, o = some a ∧ PostF K O W L (k a) σ H Q := by
  cases o with
  | none => exact P.elim
  | some a => exact ⟨a, rfl, P⟩
/-- one clause -/
theorem tDF_lc (ht : TgD K g ts ft) (hts : ∀ t ∈ ts, t ∈ vs) : ∀ σ H Q, tDF K W (es ++ (ee ++ vs)) (fLc fi ft tt fe vs) σ H Q → tLc (tDI K W es fi) g (tDT K W0 tt) (tD K W0 ee fe) vs σ H Q := by
  intro σ H Q ⟨B, O, L, ρ, S, P⟩
  refine ⟨B, O, L, ρ, S, PostF.bind P fun ds J H1 e hJ fr P1 => ?_⟩
  intro Dl hD
  obtain ⟨ya, hya, P2⟩ := P1.ofO
  have hJ : JD K (hide (HS O (dropL es L)) H1) J ds := hJ
  unfold lenOk at P2
  split at P2
  case isFalse => exact P2.elim
  rename_i hz
  have P2 : ∀ p o H', H1 p = none → Same H1 H' → H' p = some o → Top K (hide (fun a => HS O (dropL (es ++ (ee ++ vs)) L) a ∨ a = p) H') o (.lst ya) → Q (.ref p) H' := P2
  have S1 : SR K B O (dropL (es ++ (ee ++ vs)) L) σ H1 ρ := (S.ext e).drop _
  generalize hL2 : dropL (es ++ (ee ++ vs)) L = L2 at P2 S1
  have hn : ∀ v ∈ vs, L2 v = none := fun v hv => by
    rw [← hL2]
    exact dropL_yes (List.mem_append_right _ (List.mem_append_right _ hv))
  have hsub : ∀ {es' : List Nat}, (∀ i ∈ es', i ∈ es ++ (ee ++ vs)) → ∀ i x, L2 i = some x → dropL es' L2 i = some x := fun {es'} hs i x h => by
    have h' := h
    rw [← hL2] at h'
    rw [dropL_no fun z => (dropL_some h').1 (hs i z)]
    exact h
  refine ⟨fun i m H => m = ds.length - i ∧ i ≤ ds.length ∧ Same H1 H ∧ ∃ us acc rest, H Dl = some (.lst us) ∧ RepL K (hide (fun a => HS O L2 a ∨ a = Dl) H) us acc ∧ compL ft tt fe (wipeE ρ vs) (ds.drop i) = some rest ∧ ya = acc ++ rest,
    ⟨ds.length, by simp, Nat.zero_le _, same_new hD, [], [], ya, upd_same, rfl, hya, rfl⟩, ?_⟩
  rintro i m H ⟨rfl, hi, sH, us, acc, rest, hDl, hr, hc, hy⟩
  have ST := ((S1.inComp hD sH hDl).wipe1 vs hn)
  obtain ⟨j1, j2⟩ := hJ i H (HS (O.or Dl) L2) (by
    have key : ∀ a u, hide (HS O (dropL es L)) H1 a = some u → hide (HS (O.or Dl) L2) H a = some u := fun a u z => by
      obtain ⟨n, z⟩ := hide_some z
      rw [hide_no]
      · exact sH a u z
      · rintro ((y | y) | ⟨j, k, as, y, q⟩)
        · exact n (.inl y)
        · exact ne_of_none z hD y
        · rw [← hL2] at y
          obtain ⟨y1, y2⟩ := dropL_some y
          exact n (.inr ⟨j, k, as, by rw [dropL_no fun w => y1 (List.mem_append_left _ w)]; exact y2, q⟩)
    exact RdLe.ofKey key) ST.hdom
  by_cases hlt : i < ds.length
  · obtain ⟨d, hd⟩ : ∃ d, ds[i]? = some d := ⟨ds[i], List.getElem?_eq_getElem hlt⟩
    obtain ⟨g1, g2⟩ := j1 d hd
    have hdr : ds.drop i = d :: ds.drop (i + 1) := by
      rw [List.drop_eq_getElem_cons hlt]
      rw [List.getElem?_eq_getElem hlt] at hd
      cases hd
      rfl
    rw [hdr] at hc
    unfold compL at hc
    obtain ⟨ρ1, h1, hc⟩ := Option.bind_eq_some_iff.mp hc
    obtain ⟨b, h2, hc⟩ := Option.bind_eq_some_iff.mp hc
    refine .inr ⟨g1, fun H => Same H1 H ∧ ∃ us acc rest, H Dl = some (.lst us) ∧ RepL K (hide (fun a => HS O L2 a ∨ a = Dl) H) us acc ∧ compL ft tt fe (wipeE ρ vs) (ds.drop (i + 1)) = some rest ∧ ya = acc ++ rest, fun H2 q => ⟨ds.length - (i + 1), by omega, rfl, hlt, q⟩, fun x H2 y => ?_⟩
    obtain ⟨e2, r2⟩ := g2 x H2 y
    refine ht _ _ L2 (wipe σ vs) H2 (wipeE ρ vs) ρ1 x d _ (ST.ext e2) r2 h1 fun σ3 S3 wp => ⟨(wp vs hts).trans wipe_wipe, ?_⟩
    refine ⟨_, _, _, ρ1, S3, PostG.toO h2 fun b' H3 e3 hb => ?_⟩
    obtain rfl : b' = b := hb
    cases b' with
    | false =>
      rw [if_neg Bool.false_ne_true] at hc ⊢
      refine ⟨sH.trans (e2.trans e3), us, acc, rest, (S3.ext e3).same Dl _ upd_same, ?_, hc, hy⟩
      exact hr.mono (hide_same (fun _ z => z) (e2.trans e3))
    | true =>
      rw [if_pos rfl] at hc ⊢
      obtain ⟨yd, h3, hc⟩ := Option.bind_eq_some_iff.mp hc
      obtain ⟨ys, h4, hc⟩ := Option.bind_eq_some_iff.mp hc
      cases hc
      refine ⟨_, _, _, ρ1, S3.ext e3, PostG.toO h3 fun yv H4 e4 ry => ?_⟩
      have hD4 : H4 Dl = some (.lst us) := (S3.ext (e3.trans e4)).same Dl _ upd_same
      have hl := hr.length
      have hz' : acc.length + (ys.length + 1) ≤ sizeLine := by
        rw [hy, List.length_append, List.length_cons] at hz
        exact hz
      have lift : RdLe (hide (fun a => HS O L2 a ∨ a = Dl) H4) (hide (fun a => HS O L2 a ∨ a = Dl) (upd H4 Dl (.lst (us ++ [yv])))) := hide_mono (fun _ z => z) fun a u n z => by
        rw [upd_ne fun y => n (.inr y)]
        exact z
      refine ⟨us, hD4, by omega, ?_, us ++ [yv], acc ++ [yd], ys, upd_same, ?_, h4, by rw [hy, List.append_assoc]; rfl⟩
      · exact fun a u z => by
          rw [upd_ne (ne_of_none z hD)]
          exact (sH.trans (e2.trans (e3.trans e4))) a u z
      · refine RepL.append ((hr.mono (hide_same (fun _ z => z) (e2.trans (e3.trans e4)))).mono lift) (.one (Rep.mono ?_ ry))
        refine RdLe.trans (hide_same (fun a z => ?_) (Same.refl H4)) lift
        rcases z with (z | ⟨j, k, as, z, q⟩) | z
        · exact .inl (.inl z)
        · refine .inr ⟨j, k, as, ?_, q⟩
          rw [dropL_dropL]
          exact hsub (fun i hi => (List.mem_append.mp hi).elim (fun z => List.mem_append_right _ (List.mem_append_left _ z)) fun z => List.mem_append_right _ (List.mem_append_right _ (hts i z))) j (k, as) z
        · exact .inl (.inr z)
  · have hi2 : i = ds.length := by omega
    subst hi2
    rw [List.drop_length] at hc
    cases hc
    rw [List.append_nil] at hy
    subst hy
    exact .inl ⟨j2 (Nat.le_refl _), P2 Dl (.lst us) H hD sH hDl hr⟩
end
section
variable {X : Cx} {W : WX} {elt tg iter : Expr} {ifs : List Expr} {scope : Scope} {own : List (Str × Nat)} {pos : Pos} {es ee ts : List Nat} {fi : Env → R (List D)} {g : TG} {ft : D → Env → Option Env} {tt : Env → R Bool} {fe : Env → R D}
theorem pdf_lc (hc : X.calm = true) (hN : X.N.Nodup) (hi : PDI X W tg iter es fi) (ok : BlkOk X.N X.env.scope scope own) (ht : TgD X.K g ts ft)
    (hg : ∀ (s : Shared) (H : Hp) (C : Addr) (cl : List (Str × Addr)) (fp : List Addr), PG (X.blk s H scope (compEnvC scope cl C X.env) fp) tg g)
    (hh : ∀ (s : Shared) (H : Hp) (C : Addr) (cl : List (Str × Addr)) (fp : List Addr), PDTs (X.blk s H scope (compEnvC scope cl C X.env) fp) W0 ifs tt)
    (he : ∀ (s : Shared) (H : Hp) (C : Addr) (cl : List (Str × Addr)) (fp : List Addr), PD (X.blk s H scope (compEnvC scope cl C X.env) fp) W0 elt ee fe)
    (hts : ∀ t ∈ ts, t ∈ own.map (·.2) := by decide) (hs : ∀ x, foldedSetIterable iter X.env x = pure x := by intro _; rfl) : PDF X W (.ListComp elt [⟨tg, iter, ifs, 0⟩] scope pos) (es ++ (ee ++ own.map (·.2))) (fLc fi ft tt fe (own.map (·.2))) :=
  PE.imp (pe_lc (tt := tDT X.K W0 tt) (te := tD X.K W0 ee fe) hc hN hi ok hg hh he hs) (tDF_lc ht hts)
/-- name = [..] -/
theorem ps_setLcD {i : Nat} {y : Str} {py spos : Pos} (hc : X.calm = true) (hN : X.N.Nodup) (hy : X.N[i]? = some y) (hyl : X.env.scope.names.lookup y = some .local)
    (hsw : swapsWith (.ListComp elt [⟨tg, iter, ifs, 0⟩] scope pos) (some (.Name y py)) spos.line X.env = pure true) (hi : PDI X W tg iter es fi) (ok : BlkOk X.N X.env.scope scope own) (ht : TgD X.K g ts ft)
    (hg : ∀ (s : Shared) (H : Hp) (C : Addr) (cl : List (Str × Addr)) (fp : List Addr), PG (X.blk s H scope (compEnvC scope cl C X.env) fp) tg g)
    (hh : ∀ (s : Shared) (H : Hp) (C : Addr) (cl : List (Str × Addr)) (fp : List Addr), PDTs (X.blk s H scope (compEnvC scope cl C X.env) fp) W0 ifs tt)
    (he : ∀ (s : Shared) (H : Hp) (C : Addr) (cl : List (Str × Addr)) (fp : List Addr), PD (X.blk s H scope (compEnvC scope cl C X.env) fp) W0 elt ee fe)
    (hts : ∀ t ∈ ts, t ∈ own.map (·.2) := by decide) (hs : ∀ x, foldedSetIterable iter X.env x = pure x := by intro _; rfl) :
    PS X (.Assign [.Name y py] (.ListComp elt [⟨tg, iter, ifs, 0⟩] scope pos) spos) (tAsg (tDF X.K W (es ++ (ee ++ own.map (·.2))) (fLc fi ft tt fe (own.map (·.2)))) (gName i)) :=
  PS.imp (ps_setLc (tt := tDT X.K W0 tt) (te := tD X.K W0 ee fe) hc hN hy hyl hsw hi ok hg hh he hs) fun D σ H h => tDF_lc ht hts σ H _ h
end
end DL
set_option Elab.async false
set_option linter.all false
set_option maxRecDepth 100000
namespace DL
open PySem PySem.Spec PyProof.Rows L2

/-! ### defs -/
def spD (K : PySem.W.Frag) (n : Nat) (F : List D → R D) : Sp := fun vs H Q E => ∃ (O : Addr → Prop) (ds : List D), (∀ p, O p → H p ≠ none) ∧ RepL K (hide O H) vs ds ∧ ds.length = n ∧
  match F ds with
  | .ok d => ∀ v H', Same H H' → Rep K (hide O H') v d → Q v H'
  | .exc x => ∀ c dd H', Same H H' → RepX K (hide O H') H' c dd x → E c dd H'
  | .stuck => False
theorem spD_len {K : PySem.W.Frag} {n : Nat} {F : List D → R D} {vs : List V} {H : Hp} {Q : VK} {E : XK} (h : spD K n F vs H Q E) : vs.length = n := by
  obtain ⟨O, ds, _, r, e, _⟩ := h
  rw [← e]
  exact r.length
def runF (N n : Nat) (fs : Env → Out) (ds : List D) : R D :=
  match fs (ds.map some ++ List.replicate (N - n) none) with
  | .nx _ => .ok .non
  | .rt d _ => .ok d
  | .exc x _ => .exc x
  | _ => .stuck
theorem SR.begin {K : PySem.W.Frag} {H : Hp} {O : Addr → Prop} {vs : List V} {ds : List D} {N : List Str} (dom : ∀ p, O p → H p ≠ none) (r : RepL K (hide O H) vs ds) :
    SR K H (Ob.no O) L0 (L2.start N vs) H (ds.map some ++ List.replicate (N.length - ds.length) none) := by
  have hl := r.length
  have hO : ∀ p, HS (Ob.no O) L0 p → O p := fun p h => h.elim id fun ⟨_, _, _, e, _⟩ => by cases e
  refine ⟨Same.refl H, dom, (by unfold L2.start; simp [hl]), fun i d _ h => ?_, fun i k as h => (by cases h), fun i k as h => (by cases h), fun i j k as k' as' _ h => (by cases h), fun i k as d h => (by cases h), fun i k as h => (by cases h)⟩
  by_cases hi : i < ds.length
  · rw [List.getElem?_append_left (by rw [List.length_map]; exact hi), List.getElem?_map] at h
    cases q : ds[i]? with
    | none => rw [q] at h; cases h
    | some e =>
      rw [q] at h
      cases h
      obtain ⟨v, hv, rv⟩ := r.get q
      refine ⟨v, ?_, rv.mono (hide_same hO (Same.refl H))⟩
      unfold L2.start
      rw [List.getElem?_append_left (by rw [List.length_map]; omega), List.getElem?_map, hv]
      rfl
  · rw [List.getElem?_append_right (by rw [List.length_map]; omega), List.getElem?_replicate] at h
    split at h <;> cases h
section
variable {P : Program} {w : World} {K : PySem.W.Frag} {mg : Str → Option Value} {base : Heap}
/-- THE RULE for a def: F is what it computes -/
theorem okD {x qual : Str} {st : Stmt} {f : Addr} {fd : FuncData} {N ps : List Str} {k : Nat} (F : List D → R D) (Fn : Fun K x qual st f fd) (S : FnScope N ps (defScope st))
    (body : ∀ (cdv : Value) (A : Around) (outer : List PySem.Env) (s : Shared) (H : Hp) (E : XK), Room k (A.deeper (envOfC qual (defScope st) s.heap.objs.size f cdv)) →
      ∃ fs, PDB (cxOf (L2.CX P w) P w K mg base N qual (defScope st) f cdv A outer s H E) (fun c d _ H => E c d H) [] [] ⟨[], []⟩ (defBody st) fs ∧ ∀ ds, ds.length = ps.length → F ds = .stuck ∨ runF N.length ps.length fs ds = F ds) :
    FnOk P w K mg base (L2.CX P w) (k + 1) f fd ps (spD K ps.length F) := by
  refine Fn.okX S (fun vs H Q E h => spD_len h) (fun cdv A outer s H vs Q E hr h => ?_)
  obtain ⟨fs, hb, he⟩ := body cdv A outer s H E hr
  refine ⟨_, hb, ?_⟩
  obtain ⟨O, ds, dom, r, hl, h⟩ := h
  have e : runF N.length ps.length fs ds = F ds := by
    rcases he ds hl with z | z
    · rw [z] at h
      exact h.elim
    · exact z
  have SS := SR.begin (N := N) dom r
  refine ⟨H, Ob.no O, L0, _, SS, OwOk.nil, ?_⟩
  have e : runF N.length ds.length fs ds = F ds := by rw [hl]; exact e
  unfold runF at e
  have hO : ∀ p, HS (Ob.no O) L0 p → O p := fun p h => h.elim id fun ⟨_, _, _, e, _⟩ => by cases e
  cases q : fs (ds.map some ++ List.replicate (N.length - ds.length) none) with
  | nx ρ =>
    rw [q] at e
    rw [← e] at h
    exact fun σ H' L S' _ => h .non H' S'.same rfl
  | rt d ρ =>
    rw [q] at e
    rw [← e] at h
    exact fun v σ H' L S' _ r' => h v H' S'.same (hs_le r')
  | exc x ρ =>
    rw [q] at e
    rw [← e] at h
    exact fun c dd σ H' L S' _ r' => h c dd H' S'.same r'
  | bk ρ => rw [q] at e; rw [← e] at h; exact h.elim
  | ct ρ => rw [q] at e; rw [← e] at h; exact h.elim
  | stuck => rw [q] at e; rw [← e] at h; exact h.elim
end
/-! ### calls -/
def fCall (F : List D → R D) (dds : List D) (fa : Env → R (List D)) : Env → R D := fun ρ => (fa ρ).bind fun l => F (l ++ dds)
section
variable {X : Cx} {W : WX} {k n : Nat} {f : Addr} {fd : FuncData} {ps : List Str} {F : List D → R D} {x : Str} {p pos : Pos} {e : Expr} {es : List Expr} {ea : List Nat} {fa : Env → R (List D)} {dvs : List V} {ds : List Value} {dds : List D}
theorem pd_call (G : FnOk X.prog X.w X.K X.mg X.base (L2.CX X.prog X.w) k f fd ps (spD X.K n F)) (tk : Takes X W) (hr : Room k X.A) (hg : Gl X x) (hm : X.mg x = some (.ref f)) (hk : PySem.W.keepIn X.K (.ref f) = true) (hb : Binds X.K fd ps ds) (hd : Vals dvs ds) (hdd : ∀ G, RepL X.K G dvs dds)
    (ha : PDA X W (e :: es) ea fa) (hn : ∀ ρ l, fa ρ = .ok l → (l ++ dds).length = n) (hdb : (x == ("__debug__" : Str)) = false := by decide) (he : starEach (e :: es) X.env = (false, eval e X.env) :: starEach es X.env := by rfl) (hpl : (backTo pos (starEach es X.env)).any (·.1) = false := by rfl) :
    PD X W (.Call (.Name x p) (e :: es) [] pos) ea (fCall F dds fa) := PE.imp (pe_callSD G hr hg hm hk hb hd (fun σ => passAt tk σ) ha hdb he hpl) fun σ H Q ⟨B, O, L, ρ, S, P⟩ => ⟨B, O, L, ρ, S, by
  have P : PostG X.K O W (rV X.K O (dropL ea L)) ((fa ρ).bind fun l => F (l ++ dds)) σ H Q := P
  cases q : fa ρ with
  | stuck => rw [q] at P; exact P
  | exc y => rw [q] at P; exact P
  | ok l =>
    rw [q] at P
    intro vs H1 e1 r1
    have P : PostG X.K O W (rV X.K O (dropL ea L)) (F (l ++ dds)) σ H Q := P
    refine ⟨HS O (dropL ea L), l ++ dds, ((S.ext e1).drop ea).hdom, RepL.append r1 (hdd _), hn ρ l q, ?_⟩
    cases z : F (l ++ dds) with
    | stuck => rw [z] at P; exact P
    | ok d => rw [z] at P; exact fun v H' e2 r2 => P v H' (e1.trans e2) r2
    | exc y =>
      rw [z] at P
      refine fun c dd H' e2 r2 => P c dd H' (e1.trans e2) ?_
      obtain ⟨h1, a, us, h2, h3, h4, h5⟩ := r2
      exact ⟨h1, a, us, h2, h3, h4, h5.mono (hide_same hs_0 (Same.refl H'))⟩⟩
/-- a try around: what is let out is taken -/
theorem takesD {X : Cx} {E : XK} (hs : X.stack = X.env :: X.outer) (hf : X.env.frame = some X.env.locals) (hex : X.ex = []) {E₁ : Value → Shared → Prop}
    (hx : X.xe = fun e s' => wpAny (model X.prog X.w) X.A (leaving X.env e) (fun _ s'' => L2.CX X.prog X.w X.outer X.H_0 X.s_0 E e s'') E₁ s') : Takes X (fun c d _ H => E c d H) := takes_of hs hf hex hx
end
theorem fNil_len {n : Nat} (h : n = 0) (ρ : Env) (l : List D) (e : fNil ρ = .ok l) : l.length = n := by
  cases e
  exact h.symm
theorem fCons_len {fa : Env → R D} {fs : Env → R (List D)} {n : Nat} (h : ∀ ρ l, fs ρ = .ok l → l.length = n) : ∀ ρ l, fCons fa fs ρ = .ok l → l.length = n + 1 := fun ρ l e => by
  unfold fCons at e
  cases q : fa ρ with
  | ok a =>
    rw [q] at e
    have e : (fs ρ).bind (fun l => R.ok (a :: l)) = .ok l := e
    cases z : fs ρ with
    | ok m =>
      rw [z] at e
      cases e
      rw [List.length_cons, h ρ m z]
    | exc x => rw [z] at e; cases e
    | stuck => rw [z] at e; cases e
  | exc x => rw [q] at e; cases e
  | stuck => rw [q] at e; cases e
end DL
set_option Elab.async false
set_option linter.all false
set_option maxRecDepth 100000
namespace DL
open PySem PySem.Spec PyProof.Rows L2

/-! ### texts -/
theorem mkS_len (x : List Nat) : (mkS x).length = x.length := by
  show x.toArray.size = x.length
  exact List.size_toArray
theorem mkS_list (x : List Nat) : (mkS x).cps.toList = x := rfl
theorem mkS_app (x y : List Nat) : mkS x ++ mkS y = mkS (x ++ y) := by
  show (⟨x.toArray ++ y.toArray⟩ : Str) = ⟨(x ++ y).toArray⟩
  rw [List.append_toArray]
theorem mkS_inj {x y : List Nat} (h : mkS x = mkS y) : x = y := by
  have e : (mkS x).cps.toList = (mkS y).cps.toList := by rw [h]
  exact e
theorem okT.sub {x y : List Nat} (a : okT x) (h : ∀ c ∈ y, c ∈ x) : okT y := fun c hc => a c (h c hc)

/-! ### operators -/
section
variable {K : PySem.W.Frag} {O : Addr → Prop} {H : Hp} {vs us : List V} {ds es : List D} {Q : VK}
theorem new_tup (hO : ∀ p, O p → H p ≠ none) (r : RepL K (hide O H) vs ds) (k : ∀ v H', Same H H' → Rep K (hide O H') v (.tup ds) → Q v H') : ∀ p, H p = none → Q (.ref p) (upd H p (.tup vs)) := fun p hp => by
  obtain ⟨n, r2⟩ := fresh_rep hO hp (same_new (o := .tup vs) hp) r
  exact k _ _ (same_new hp) ⟨p, vs, rfl, by rw [hide_no n, upd_same], r2⟩
theorem new_lst (hO : ∀ p, O p → H p ≠ none) (r : RepL K (hide O H) vs ds) (k : ∀ v H', Same H H' → Rep K (hide O H') v (.lst ds) → Q v H') : ∀ p, H p = none → Q (.ref p) (upd H p (.lst vs)) := fun p hp => by
  obtain ⟨n, r2⟩ := fresh_rep hO hp (same_new (o := .lst vs) hp) r
  exact k _ _ (same_new hp) ⟨p, vs, rfl, .inl (by rw [hide_no n, upd_same]), r2⟩
theorem hide_rd {a : Addr} {u : HO} (h : Rd (hide O H) a u) : Rd H a u := hide_le.rd _ _ h
end
/-- xs + ys, of lists that are read -/
def rCatG : R2 := fun x y H Q => ∃ l b xs zs, x = .ref l ∧ y = .ref b ∧ Rd H l (.lst xs) ∧ Rd H b (.lst zs) ∧ xs.length + zs.length ≤ sizeLine ∧ ∀ p, H p = none → Q (.ref p) (upd H p (.lst (xs ++ zs)))
theorem op_catG {X : Cx} : OpR X (binaryOp .Add) rCatG := by
  intro pins s σ H x y v u Q I rx ry h
  obtain ⟨l, b, xs, zs, rfl, rfl, hH, hB, hz, q⟩ := h
  cases rx
  cases ry
  obtain ⟨z, its, n, r, e⟩ := hH.ok I.hok
  obtain ⟨z2, its2, n2, r2, e2⟩ := hB.ok I.hok
  have l1 := r.length
  have l2 := r2.length
  refine PySem.P.add_list e e2 ?_ (by rw [List.size_toArray, List.size_toArray]; omega)
  have ea : its.toArray ++ its2.toArray = (its ++ its2).toArray := by simp
  rw [ea]
  exact ⟨.ref _, _, I.lnew (t' := s.toks) (r.append r2) (by rw [List.length_append]; omega), rfl, q _ I.fresh⟩
def rAddS : R2 := fun x y H Q => ∃ i j, x = .str i ∧ y = .str j ∧ i.length + j.length ≤ sizeLine ∧ Q (.str (i ++ j)) H
def rAdd (K : PySem.W.Frag) : R2 := fun x y H Q => rI0 (fun i j => .int (i + j)) x y H Q ∨ (rAddS x y H Q ∨ (rCatG x y H Q ∨ rCatA K x y H Q))
theorem op_addD {X : Cx} : OpR X (binaryOp .Add) (rAdd X.K) := op_add.or (OpR.or (r := rAddS) op_add_str (op_catG.or op_catA))
def gAdd : D → D → Option D
  | .int a, .int b => some (.int (a + b))
  | .str a, .str b => if a.length + b.length ≤ sizeLine then some (.str (a ++ b)) else none
  | .lst a, .lst b => if a.length + b.length ≤ sizeLine then some (.lst (a ++ b)) else none
  | .tup a, .tup b => if a.length + b.length ≤ sizeLine then some (.tup (a ++ b)) else none
  | _, _ => none
theorem gd_add {K : PySem.W.Frag} : OpD K (rAdd K) gAdd := by
  intro O H x y a b d Q hO ra rb hg k
  unfold gAdd at hg
  split at hg
  · cases hg
    exact .inl ⟨_, _, ra, rb, k _ H (Same.refl H) rfl⟩
  · split at hg
    case isFalse => cases hg
    rename_i a b hz
    cases hg
    exact .inr (.inl ⟨_, _, ra.1, rb.1, by rw [mkS_len, mkS_len]; exact hz, by rw [mkS_app]; exact k _ H (Same.refl H) ⟨rfl, ra.2.app rb.2⟩⟩)
  · split at hg
    case isFalse => cases hg
    rename_i a b hz
    cases hg
    obtain ⟨p, vs, e1, h1, r1⟩ := ra
    obtain ⟨q, us, e2, h2, r2⟩ := rb
    exact .inr (.inr (.inl ⟨p, q, vs, us, e1, e2, hide_rd h1, hide_rd h2, by rw [r1.length, r2.length]; exact hz, new_lst hO (r1.append r2) k⟩))
  · split at hg
    case isFalse => cases hg
    rename_i a b hz
    cases hg
    obtain ⟨p, vs, e1, h1, r1⟩ := ra
    obtain ⟨q, us, e2, h2, r2⟩ := rb
    refine .inr (.inr (.inr ⟨p, q, vs, us, e1, e2, SqT.of (hide_some h1).2, SqT.of (hide_some h2).2, by rw [r1.length, r2.length]; exact hz, fun e => ?_, fun _ e => ?_, fun _ _ => new_tup hO (r1.append r2) k⟩))
    · subst e
      have l := r1.length
      have e : a = [] := List.eq_nil_of_length_eq_zero l.symm
      subst e
      exact k _ H (Same.refl H) ⟨q, us, rfl, h2, r2⟩
    · subst e
      have l := r2.length
      have e : b = [] := List.eq_nil_of_length_eq_zero l.symm
      subst e
      rw [List.append_nil] at k
      exact k _ H (Same.refl H) ⟨p, vs, rfl, h1, r1⟩
  · cases hg
def gMinus : D → D → Option D
  | .int a, .int b => some (.int (a - b))
  | _, _ => none
theorem gd_sub {K : PySem.W.Frag} : OpD K (rI0 fun i j => .int (i - j)) gMinus := by
  intro O H x y a b d Q hO ra rb hg k
  unfold gMinus at hg
  split at hg
  · cases hg
    exact ⟨_, _, ra, rb, k _ H (Same.refl H) rfl⟩
  · cases hg
/-! times -/
theorem foldl_flat (x : List Nat) : ∀ (n : Nat) (acc : Array Nat), ((List.replicate n (mkS x).cps).foldl (· ++ ·) acc).toList = acc.toList ++ (List.replicate n x).flatten
  | 0, acc => by simp
  | n + 1, acc => by
    rw [List.replicate_succ, List.foldl_cons, foldl_flat x n, List.replicate_succ, List.flatten_cons, Array.toList_append, List.append_assoc]
    rfl
def rMulS : R2 := fun x y H Q => ∃ (l : List Nat) (n : Int), x = .str (mkS l) ∧ y = .int n ∧ 0 ≤ n ∧ n ≤ 1000 ∧ l.length ≤ 1000 ∧ Q (.str (mkS (List.replicate n.toNat l).flatten)) H
theorem op_mulS {X : Cx} : OpR X (binaryOp .Mult) rMulS := by
  intro pins s σ H x y v u Q I rx ry h
  obtain ⟨l, n, rfl, rfl, h0, h1, h2, q⟩ := h
  obtain ⟨t, rfl⟩ := rx
  obtain ⟨t', rfl⟩ := ry
  have hl : (mkS l).length = l.length := mkS_len l
  have hm : (mkS l).length * n.toNat ≤ 1000 * 1000 := by
    rw [hl]
    exact Nat.mul_le_mul h2 (by omega)
  refine PySem.P.mul_str (by
      rw [decide_eq_false (by omega), decide_eq_false (by omega)]
      rfl) (fun a _ => ?_) (fun a _ => ?_) ?_
  · have h3 : ((mkS l).length : Int) * n ≤ 1000 * 1000 := Int.mul_le_mul (by rw [hl]; omega) h1 h0 (by decide)
    have h4 : ((mkS l).length : Int) ≤ (2 ^ 63 - 1) / n := Int.le_ediv_of_mul_le (by omega) (by omega)
    omega
  · unfold Builtin.Str.tooLong
    rw [decide_eq_false]
    have : (sizeLine : Nat) = 16777216 := sizeLine_eq
    omega
  · by_cases c : n < 1
    · rw [if_pos c]
      have e : n = 0 := by omega
      subst e
      exact ⟨by decide, .str _, H, I.tok _, ⟨_, rfl⟩, q⟩
    · rw [if_neg c]
      split
      · rename_i c2
        refine ⟨.str (mkS l), H, I, ⟨t, rfl⟩, ?_⟩
        rw [Bool.or_eq_true, beq_iff_eq, beq_iff_eq] at c2
        rcases c2 with e | e
        · subst e
          have q := q
          rw [show (List.replicate (1 : Int).toNat l).flatten = l by simp] at q
          exact q
        · rw [hl] at e
          have e : l = [] := List.eq_nil_of_length_eq_zero e
          subst e
          rw [show (List.replicate n.toNat ([] : List Nat)).flatten = [] by simp] at q
          exact q
      · have e : (⟨(List.replicate n.toNat (mkS l).cps).foldl (· ++ ·) #[]⟩ : Str) = mkS (List.replicate n.toNat l).flatten := by
          have f := foldl_flat l n.toNat #[]
          show Str.mk _ = Str.mk _
          congr 1
          rw [← Array.toArray_toList (xs := (List.replicate n.toNat (mkS l).cps).foldl (· ++ ·) #[]), f]
          rfl
        rw [e]
        refine ⟨?_, .str _, H, I.tok _, ⟨_, rfl⟩, q⟩
        rw [mkS_len, List.length_flatten, List.map_replicate, List.sum_replicate_nat, ← hl, Nat.mul_comm]
        have : (sizeLine : Nat) = 16777216 := sizeLine_eq
        omega

def rMul : R2 := fun x y H Q => rI CMul (fun i j => .int (i * j)) x y H Q ∨ rMulS x y H Q
theorem op_mulD {X : Cx} : OpR X (binaryOp .Mult) rMul := op_mul.or op_mulS
def gMul : D → D → Option D
  | .int a, .int b => if (-(2 ^ 64) < a ∧ a < 2 ^ 64) ∨ (-(2 ^ 64) < b ∧ b < 2 ^ 64) then some (.int (a * b)) else none
  | .str a, .int n => if 0 ≤ n ∧ n ≤ 1000 ∧ a.length ≤ 1000 then some (.str (List.replicate n.toNat a).flatten) else none
  | _, _ => none
theorem gd_mul {K : PySem.W.Frag} : OpD K rMul gMul := by
  intro O H x y a b d Q hO ra rb hg k
  unfold gMul at hg
  split at hg
  · split at hg
    case isFalse => cases hg
    rename_i hz
    cases hg
    exact .inl ⟨_, _, ra, rb, hz, k _ H (Same.refl H) rfl⟩
  · split at hg
    case isFalse => cases hg
    rename_i a n hz
    cases hg
    refine .inr ⟨a, n, ra.1, rb, hz.1, hz.2.1, hz.2.2, k _ H (Same.refl H) ⟨rfl, fun c hc => ?_⟩⟩
    obtain ⟨l, hl, hc⟩ := List.mem_flatten.mp hc
    exact ra.2 c (List.eq_of_mem_replicate hl ▸ hc)
  · cases hg
def gDiv : D → D → Option D
  | .int a, .int b => if 0 < b ∧ b < 1073741824 then some (.int (a / b)) else none
  | _, _ => none
theorem gd_div {K : PySem.W.Frag} : OpD K (rI CDiv fun i j => .int (i / j)) gDiv := by
  intro O H x y a b d Q hO ra rb hg k
  unfold gDiv at hg
  split at hg
  · split at hg
    case isFalse => cases hg
    rename_i hz
    cases hg
    exact ⟨_, _, ra, rb, hz, k _ H (Same.refl H) rfl⟩
  · cases hg
def gMod : D → D → Option D
  | .int a, .int b => if 0 < b then some (.int (a % b)) else none
  | _, _ => none
theorem gd_mod {K : PySem.W.Frag} : OpD K (rI (fun _ j => 0 < j) fun i j => .int (i % j)) gMod := by
  intro O H x y a b d Q hO ra rb hg k
  unfold gMod at hg
  split at hg
  · split at hg
    case isFalse => cases hg
    rename_i hz
    cases hg
    exact ⟨_, _, ra, rb, hz, k _ H (Same.refl H) rfl⟩
  · cases hg
def gPow : D → D → Option D
  | .int a, .int b => if 0 ≤ b ∧ b ≤ 1000000 ∧ a.natAbs < 2 ^ 64 then some (.int (a ^ b.toNat)) else none
  | _, _ => none
theorem gd_pow {K : PySem.W.Frag} : OpD K (rI CPow fun i j => .int (i ^ j.toNat)) gPow := by
  intro O H x y a b d Q hO ra rb hg k
  unfold gPow at hg
  split at hg
  · split at hg
    case isFalse => cases hg
    rename_i hz
    cases hg
    exact ⟨_, _, ra, rb, hz, k _ H (Same.refl H) rfl⟩
  · cases hg
def gCmpI (p : Int → Int → Bool) : D → D → Option D
  | .int a, .int b => some (.bl (p a b))
  | _, _ => none
theorem gd_cmpI {K : PySem.W.Frag} {p : Int → Int → Bool} : OpD K (rI0 fun i j => .bl (p i j)) (gCmpI p) := by
  intro O H x y a b d Q hO ra rb hg k
  unfold gCmpI at hg
  split at hg
  · cases hg
    exact ⟨_, _, ra, rb, k _ H (Same.refl H) rfl⟩
  · cases hg
abbrev gLt := gCmpI fun i j => decide (i < j)
abbrev gLe := gCmpI fun i j => decide (i ≤ j)
abbrev gGt := gCmpI fun i j => decide (j < i)
abbrev gGe := gCmpI fun i j => decide (j ≤ i)
def fUn (g : D → Option D) (fa : Env → R D) : Env → R D := fun ρ => (fa ρ).bind fun a => R.ofO (g a)
theorem pd_un {X : Cx} {W : WX} {op : UnaryOp} {r : V → Hp → VK → Prop} {g : D → Option D} {a : Expr} {pos : Pos} {ea : List Nat} {fa : Env → R D} (ho : UnR X (unaryOp op) r) (hg : UnD X.K r g) (ha : PD X W a ea fa) : PD X W (.UnaryOp op a pos) ea (fUn g fa) :=
  PE.imp (pe_un ho ha) fun σ H Q ⟨B, O, L, ρ, S, P⟩ => ⟨B, O, L, ρ, S, PostG.bind P fun a x H1 e1 r1 P1 => by
    obtain ⟨d, hd, P3⟩ := P1.ofO
    exact hg (HS O (dropL ea L)) H1 x a d Q ((S.ext e1).drop _).hdom r1 hd P3⟩
def gNeg : D → Option D
  | .int a => some (.int (-a))
  | _ => none
theorem gd_neg {K : PySem.W.Frag} : UnD K (rU fun i => .int (-i)) gNeg := by
  intro O H x a d Q hO ra hg k
  unfold gNeg at hg
  split at hg
  · cases hg
    exact ⟨_, ra, k _ H (Same.refl H) rfl⟩
  · cases hg

/-! ### data as the library has it -/
mutual
def D.pd : D → PyData
  | .non => .none
  | .bl b => .bool b
  | .int i => .int i
  | .str x => .str (mkS x)
  | .lst ds => .list (D.pdL ds)
  | .tup ds => .tuple (D.pdL ds)
  | .dk _ _ => .none
  | .dt _ _ => .none
  | .ins _ _ _ => .none
  | .cl _ => .none
  | .scr _ => .none
  | .etup => .none
  | .fk _ _ => .none
  | .ft _ _ => .none
def D.pdL : List D → List PyData
  | [] => []
  | d :: ds => d.pd :: D.pdL ds
end
mutual
/-- data that == is told of; not deeper than n -/
def isData : Nat → D → Bool
  | _, .non => true
  | _, .bl _ => true
  | _, .int _ => true
  | _, .str _ => true
  | n + 1, .lst ds => isDataL n ds
  | n + 1, .tup ds => isDataL n ds
  | _, _ => false
def isDataL : Nat → List D → Bool
  | _, [] => true
  | n, d :: ds => isData n d && isDataL n ds
end
theorem pdL_map : ∀ ds : List D, D.pdL ds = ds.map D.pd
  | [] => rfl
  | d :: ds => by
    show d.pd :: D.pdL ds = _
    rw [pdL_map ds]
    rfl
theorem isDataL_all : ∀ (n : Nat) (ds : List D), isDataL n ds = ds.all (isData n)
  | n, [] => by unfold isDataL; rfl
  | n, d :: ds => by
    unfold isDataL
    rw [isDataL_all n ds, List.all_cons]
section
variable {K : PySem.W.Frag} {G : Hp}
mutual
theorem dp_of : ∀ {n : Nat} {d : D} {v : V}, isData n d = true → Rep K G v d → Dp K G v d.pd ∧ d.pd.canLay0 = true ∧ d.pd.depth ≤ n
  | n, .non, v, _, h => by
    obtain rfl : v = .non := h
    exact ⟨.non, by simp [D.pd, PyData.canLay0], by simp [D.pd, PyData.depth]⟩
  | n, .bl b, v, _, h => by
    obtain rfl : v = .bl b := h
    exact ⟨.bl b, by simp [D.pd, PyData.canLay0], by simp [D.pd, PyData.depth]⟩
  | n, .int i, v, _, h => by
    obtain rfl : v = .int i := h
    exact ⟨.int i, by simp [D.pd, PyData.canLay0], by simp [D.pd, PyData.depth]⟩
  | n, .str x, v, _, h => by
    obtain ⟨rfl, ho⟩ := h
    refine ⟨.str _, ?_, by simp [D.pd, PyData.depth]⟩
    have e : PySem.PyData.strOk (mkS x) = true := by
      unfold PySem.PyData.strOk
      rw [← Array.all_toList, mkS_list]
      exact List.all_eq_true.mpr fun c hc => decide_eq_true (ho c hc)
    simpa [D.pd, PyData.canLay0] using e
  | 0, .lst ds, v, hd, h => by cases hd
  | 0, .tup ds, v, hd, h => by cases hd
  | n + 1, .lst ds, v, hd, h => by
    obtain ⟨a, vs, rfl, h1, h2⟩ := h
    obtain ⟨q1, q2, q3⟩ := dpL_of (n := n) (by simpa [isData] using hd) h2
    exact ⟨.lst (.inl h1) q1, by simpa [D.pd, PyData.canLay0] using q2, by simpa [D.pd, PyData.depth] using q3⟩
  | n + 1, .tup ds, v, hd, h => by
    obtain ⟨a, vs, rfl, h1, h2⟩ := h
    obtain ⟨q1, q2, q3⟩ := dpL_of (n := n) (by simpa [isData] using hd) h2
    exact ⟨.tup (SqT.of h1) q1, by simpa [D.pd, PyData.canLay0] using q2, by simpa [D.pd, PyData.depth] using q3⟩
  | 0, .dk _ _, v, hd, h => by cases hd
  | _ + 1, .dk _ _, v, hd, h => by cases hd
  | 0, .dt _ _, v, hd, h => by cases hd
  | _ + 1, .dt _ _, v, hd, h => by cases hd
  | 0, .ins _ _ _, v, hd, h => by cases hd
  | _ + 1, .ins _ _ _, v, hd, h => by cases hd
  | 0, .cl _, v, hd, h => by cases hd
  | _ + 1, .cl _, v, hd, h => by cases hd
  | 0, .scr _, v, hd, h => by cases hd
  | _ + 1, .scr _, v, hd, h => by cases hd
  | 0, .etup, v, hd, h => by cases hd
  | _ + 1, .etup, v, hd, h => by cases hd
theorem dpL_of : ∀ {n : Nat} {ds : List D} {vs : List V}, isDataL n ds = true → RepL K G vs ds → DpAll K G vs (D.pdL ds) ∧ PyData.canLayAll0 (D.pdL ds) = true ∧ PyData.depthAll (D.pdL ds) ≤ n
  | n, [], vs, _, h => by
    obtain rfl : vs = [] := h
    exact ⟨.nil, by simp [D.pdL, PyData.canLayAll0], by simp [D.pdL, PyData.depthAll]⟩
  | n, d :: ds, vs, hd, h => by
    obtain ⟨x, xs, rfl, h1, h2⟩ := h
    have hd : isData n d = true ∧ isDataL n ds = true := by simpa [isDataL] using hd
    obtain ⟨a1, a2, a3⟩ := dp_of hd.1 h1
    obtain ⟨b1, b2, b3⟩ := dpL_of hd.2 h2
    exact ⟨.cons a1 b1, by simp [D.pdL, PyData.canLayAll0, a2, b2], by simp only [D.pdL, PyData.depthAll]; omega⟩
end
theorem shaped_of {n : Nat} {d : D} {v : V} (hn : n ≤ 64) (h : isData n d = true) (r : Rep K G v d) : Dp K G v d.pd ∧ SeqAt.shaped d.pd = true := by
  obtain ⟨a, b, c⟩ := dp_of h r
  refine ⟨a, ?_⟩
  unfold SeqAt.shaped
  rw [b, Bool.true_and]
  exact decide_eq_true (Nat.le_trans c hn)
end
theorem Dp.le {K : PySem.W.Frag} {H H' : Hp} (e : RdLe H H') : ∀ {d : PyData} {v : V}, Dp K H v d → Dp K H' v d := by
  intro d v h
  exact Dp.rec (motive_1 := fun v d _ => Dp K H' v d) (motive_2 := fun vs ds _ => DpAll K H' vs ds) .non .bl .int .str (fun h _ ih => .lst (e.sqL h) ih) (fun h _ ih => .tup (e.sqT h) ih) .nil (fun _ _ a b => .cons a b) h
/-- Python's == of data -/
def deq (a b : D) : Bool := PyData.eqv a.pd b.pd
def gEq : D → D → Option D := fun a b => if isData 60 a = true ∧ isData 60 b = true then some (.bl (deq a b)) else none
def gNe : D → D → Option D := fun a b => if isData 60 a = true ∧ isData 60 b = true then some (.bl (!deq a b)) else none
theorem gd_eq {K : PySem.W.Frag} : OpD K (rEqD K) gEq := by
  intro O H x y a b d Q hO ra rb hg k
  unfold gEq at hg
  split at hg
  case isFalse => cases hg
  rename_i hz
  cases hg
  obtain ⟨a1, a2⟩ := shaped_of (by decide) hz.1 ra
  obtain ⟨b1, b2⟩ := shaped_of (by decide) hz.2 rb
  exact ⟨_, _, Dp.le hide_le a1, Dp.le hide_le b1, a2, b2, k _ H (Same.refl H) rfl⟩
theorem gd_ne {K : PySem.W.Frag} : OpD K (rNeD K) gNe := by
  intro O H x y a b d Q hO ra rb hg k
  unfold gNe at hg
  split at hg
  case isFalse => cases hg
  rename_i hz
  cases hg
  obtain ⟨a1, a2⟩ := shaped_of (by decide) hz.1 ra
  obtain ⟨b1, b2⟩ := shaped_of (by decide) hz.2 rb
  exact ⟨_, _, Dp.le hide_le a1, Dp.le hide_le b1, a2, b2, k _ H (Same.refl H) rfl⟩
/-! in -/
def isFlat : D → Bool
  | .non => true
  | .bl _ => true
  | .int _ => true
  | .str _ => true
  | _ => false
theorem flat_of {K : PySem.W.Frag} {G : Hp} {v : V} {d : D} (h : isFlat d = true) (r : Rep K G v d) : flatV v = true := by
  cases d <;> first
    | (obtain rfl := (show v = _ from r); rfl)
    | (obtain rfl := r.1; rfl)
    | cases h
theorem flatL_of {K : PySem.W.Frag} {G : Hp} : ∀ {vs : List V} {ds : List D}, ds.all isFlat = true → RepL K G vs ds → vs.all flatV = true
  | _, [], _, h => by
    have h : _ = [] := h
    rw [h]
    rfl
  | _, d :: ds, hf, ⟨x, xs, h1, h2, h3⟩ => by
    subst h1
    rw [List.all_cons, Bool.and_eq_true] at hf ⊢
    exact ⟨flat_of hf.1 h2, flatL_of hf.2 h3⟩
theorem eqV_of {K : PySem.W.Frag} {G : Hp} {v u : V} {d e : D} (h : isFlat d = true) (h' : isFlat e = true) (r : Rep K G v d) (r' : Rep K G u e) : eqV v u = deq d e := by
  cases d <;> first | (cases h; done) | skip
  all_goals (cases e <;> first | (cases h'; done) | skip)
  all_goals first
    | (obtain rfl := (show v = _ from r); obtain rfl := (show u = _ from r'); first | rfl | (simp [eqV, deq, D.pd, PyData.eqv]; done))
    | (obtain rfl := (show v = _ from r); obtain rfl := r'.1; first | rfl | (simp [eqV, deq, D.pd, PyData.eqv]; done))
    | (obtain rfl := r.1; obtain rfl := (show u = _ from r'); first | rfl | (simp [eqV, deq, D.pd, PyData.eqv]; done))
    | (obtain rfl := r.1; obtain rfl := r'.1; first | rfl | (simp [eqV, deq, D.pd, PyData.eqv]; done))
def memD (x : D) (ds : List D) : Bool := ds.any fun z => deq z x
theorem inV_of {K : PySem.W.Frag} {G : Hp} {u : V} {e : D} (h' : isFlat e = true) (r' : Rep K G u e) : ∀ {vs : List V} {ds : List D}, ds.all isFlat = true → RepL K G vs ds → inV u vs = memD e ds
  | _, [], _, h => by
    have h : _ = [] := h
    rw [h]
    rfl
  | _, d :: ds, hf, ⟨x, xs, h1, h2, h3⟩ => by
    subst h1
    rw [List.all_cons, Bool.and_eq_true] at hf
    have ih := inV_of h' r' hf.2 h3
    unfold inV memD at ih ⊢
    rw [List.any_cons, List.any_cons, ih, eqV_of hf.1 h' h2 r']
def rInS (neg : Bool) : R2 := fun x y H Q => ∃ (c : Nat) (z : Str), x = .str ⟨#[c]⟩ ∧ y = .str z ∧ Q (.bl (if neg then !decide (c ∈ z.cps.toList) else decide (c ∈ z.cps.toList))) H
def rInDD (K : PySem.W.Frag) (neg : Bool) : R2 := fun x y H Q => ∃ d ds, Dp K H x d ∧ Dp K H y (.list ds) ∧ SeqAt.shaped d = true ∧ SeqAt.shaped (.list ds) = true ∧ Q (.bl (if neg then !(ds.any fun z => PyData.eqv z d) else ds.any fun z => PyData.eqv z d)) H
def rInAll (K : PySem.W.Frag) (neg : Bool) : R2 := fun x y H Q => rIn K neg x y H Q ∨ (rInS neg x y H Q ∨ rInDD K neg x y H Q)
theorem op_inAll {X : Cx} (hu : X.A.units + 65 < cLine) : OpR X (compareOp .In) (rInAll X.K false) := op_in_seq.or (OpR.or (r := rInS false) op_in_sign (op_inD hu))
theorem op_ninAll {X : Cx} (hu : X.A.units + 65 < cLine) : OpR X (compareOp .NotIn) (rInAll X.K true) := op_notIn_seq.or (OpR.or (r := rInS true) op_notIn_sign (op_notInD hu))
def inD : D → D → Option Bool
  | .str [c], .str z => some (decide (c ∈ z))
  | x, .lst ds => if isFlat x = true ∧ ds.all isFlat = true then some (memD x ds) else if isData 50 x = true ∧ isDataL 50 ds = true then some (memD x ds) else none
  | x, .tup ds => if isFlat x = true ∧ ds.all isFlat = true then some (memD x ds) else none
  | _, _ => none
def gIn (neg : Bool) : D → D → Option D := fun a b => (inD a b).map fun k => .bl (if neg then !k else k)
theorem gd_in {K : PySem.W.Frag} {neg : Bool} : OpD K (rInAll K neg) (gIn neg) := by
  intro O H x y a b d Q hO ra rb hg k
  unfold gIn at hg
  obtain ⟨w, hw, hg⟩ := Option.map_eq_some_iff.mp hg
  subst hg
  unfold inD at hw
  split at hw
  · cases hw
    exact .inr (.inl ⟨_, _, ra.1, rb.1, k _ H (Same.refl H) rfl⟩)
  · split at hw
    · rename_i hz
      cases hw
      obtain ⟨p, vs, e, h1, h2⟩ := rb
      refine .inl ⟨p, vs, e, .inl (.inl (hide_rd h1)), flat_of hz.1 ra, flatL_of hz.2 h2, ?_⟩
      rw [inV_of hz.1 ra hz.2 h2]
      exact k _ H (Same.refl H) rfl
    · split at hw
      case isFalse => cases hw
      rename_i hz
      cases hw
      obtain ⟨a1, a2⟩ := shaped_of (by decide) hz.1 ra
      obtain ⟨b1, b2⟩ := shaped_of (n := 51) (d := .lst _) (by decide) (by simpa [isData] using hz.2) rb
      have e : ∀ l : List D, (D.pdL l).any (fun z => PyData.eqv z a.pd) = memD a l := fun l => by
        rw [pdL_map, List.any_map]
        rfl
      refine .inr (.inr ⟨_, _, Dp.le hide_le a1, Dp.le hide_le b1, a2, b2, ?_⟩)
      rw [e]
      exact k _ H (Same.refl H) rfl
  · split at hw
    case isFalse => cases hw
    rename_i hz
    cases hw
    obtain ⟨p, vs, e, h1, h2⟩ := rb
    refine .inl ⟨p, vs, e, .inr (SqT.of (hide_some h1).2), flat_of hz.1 ra, flatL_of hz.2 h2, ?_⟩
    rw [inV_of hz.1 ra hz.2 h2]
    exact k _ H (Same.refl H) rfl
  · cases hw
/-! is None -/
def gIsN (neg : Bool) : D → D → Option D
  | a, .non => some (.bl (match a with | .non => !neg | _ => neg))
  | _, _ => none
theorem non_of {K : PySem.W.Frag} {G : Hp} {v : V} {d : D} (r : Rep K G v d) : decide (v = .non) = (match d with | .non => true | _ => false) := by
  cases d <;> first
    | (obtain rfl := (show v = _ from r); rfl)
    | (obtain rfl := r.1; rfl)
    | (obtain ⟨a, rfl, _⟩ := r; rfl)
    | (obtain ⟨a, b, rfl, _⟩ := r; rfl)
    | (obtain ⟨a, b, c, rfl, _⟩ := r; rfl)
theorem gd_isN {K : PySem.W.Frag} : OpD K (fun x y H Q => y = .non ∧ Q (.bl (decide (x = .non))) H) (gIsN false) := by
  intro O H x y a b d Q hO ra rb hg k
  unfold gIsN at hg
  split at hg
  · cases hg
    refine ⟨rb, ?_⟩
    rw [non_of ra]
    refine k _ H (Same.refl H) ?_
    cases a <;> rfl
  · cases hg
theorem gd_notN {K : PySem.W.Frag} : OpD K (fun x y H Q => y = .non ∧ Q (.bl (!decide (x = .non))) H) (gIsN true) := by
  intro O H x y a b d Q hO ra rb hg k
  unfold gIsN at hg
  split at hg
  · cases hg
    refine ⟨rb, ?_⟩
    rw [non_of ra]
    refine k _ H (Same.refl H) ?_
    cases a <;> rfl
  · cases hg
end DL
set_option Elab.async false
set_option linter.all false
set_option maxRecDepth 100000
namespace DL
open PySem PySem.Spec PyProof.Rows L2

/-! ### dicts, read -/
def lookD {κ : Type} [DecidableEq κ] : List κ → List D → κ → Option D
  | k :: ks, d :: ds, x => if k = x then some d else lookD ks ds x
  | _, _, _ => none
def RelD (K : PySem.W.Frag) (G : Hp) : Option V → Option D → Prop
  | some v, some d => Rep K G v d
  | none, none => True
  | _, _ => False
theorem look_rel {K : PySem.W.Frag} {G : Hp} {κ : Type} [DecidableEq κ] (x : κ) : ∀ {us : List (κ × V)} {ds : List D}, RepL K G (us.map (·.2)) ds → RelD K G (valV us x) (lookD (us.map (·.1)) ds x)
  | [], [], _ => trivial
  | [], _ :: _, ⟨_, _, h, _⟩ => by cases h
  | _ :: _, [], h => by
    have h : _ = [] := h
    cases h
  | (k, v) :: us, d :: ds, ⟨y, ys, h1, h2, h3⟩ => by
    cases h1
    show RelD K G (((((k, v) :: us).find? fun kv => decide (kv.1 = x)).map (·.2))) (if k = x then some d else lookD (us.map (·.1)) ds x)
    by_cases e : k = x
    · rw [if_pos e, List.find?_cons_of_pos (by simpa using e)]
      exact h2
    · rw [if_neg e, List.find?_cons_of_neg (by simpa using e)]
      exact look_rel x h3
def keyOf : D → Option Key
  | .int i => some (.inl i)
  | .str x => some (.inr (mkS x))
  | _ => none
def keysOf : List D → Option (List Key)
  | [] => some []
  | d :: ds => (keyOf d).bind fun k => (keysOf ds).bind fun r => some (k :: r)
theorem key_rep {K : PySem.W.Frag} {G : Hp} {v : V} {d : D} {k : Key} (h : keyOf d = some k) (r : Rep K G v d) : v = kV k := by
  cases d <;> first | (cases h; done) | skip
  · cases h
    exact r
  · cases h
    exact r.1
theorem keys_rep {K : PySem.W.Frag} {G : Hp} : ∀ {vs : List V} {ds : List D} {ks : List Key}, keysOf ds = some ks → RepL K G vs ds → vs = ks.map kV
  | vs, [], ks, h, r => by
    cases h
    exact r
  | vs, d :: ds, ks, h, ⟨x, xs, h1, h2, h3⟩ => by
    obtain ⟨k, a, h⟩ := Option.bind_eq_some_iff.mp h
    obtain ⟨r, b, h⟩ := Option.bind_eq_some_iff.mp h
    cases h
    rw [h1, key_rep a h2, keys_rep b h3]
    rfl
/-- what a dict holds at a key: none where it is no dict or no key -/
def dgetD : D → D → Option (Option D)
  | .dk ks vs, x => (keyOf x).map fun k => lookD ks vs k
  | .dt ks vs, .tup ds => (keysOf ds).map fun k => lookD ks vs k
  | .fk ks vs, x => (keyOf x).map fun k => lookD ks vs k
  | .ft ks vs, .tup ds => (keysOf ds).map fun k => lookD ks vs k
  | _, _ => none
theorem dget_rep {K : PySem.W.Frag} {O : Addr → Prop} {H : Hp} {x y : V} {a b : D} {o : Option D} (ra : Rep K (hide O H) x a) (rb : Rep K (hide O H) y b) (h : dgetD a b = some o) : ∃ p w, x = .ref p ∧ DGet H p y w ∧ RelD K (hide O H) w o := by
  unfold dgetD at h
  split at h
  · obtain ⟨k, hk, h⟩ := Option.map_eq_some_iff.mp h
    subst h
    obtain ⟨p, us, e, h1, h2, h3⟩ := ra
    subst h2
    exact ⟨p, _, e, .inl ⟨us, k, hide_rd h1, key_rep hk rb, rfl⟩, look_rel k h3⟩
  · obtain ⟨k, hk, h⟩ := Option.map_eq_some_iff.mp h
    subst h
    obtain ⟨p, us, e, h1, h2, h3⟩ := ra
    obtain ⟨q, vs, e2, g1, g2⟩ := rb
    subst h2 e2
    refine ⟨p, _, e, .inr ⟨us, k, q, hide_rd h1, rfl, ?_, rfl⟩, look_rel k h3⟩
    rw [← keys_rep hk g2]
    exact (hide_some g1).2
  · obtain ⟨k, hk, h⟩ := Option.map_eq_some_iff.mp h
    subst h
    obtain ⟨p, oo, us, e, h1, h2, h3⟩ := ra
    subst h2
    exact ⟨p, _, e, .inl ⟨us, k, .inr ⟨oo, (hide_some h1).2⟩, key_rep hk rb, rfl⟩, look_rel k h3⟩
  · obtain ⟨k, hk, h⟩ := Option.map_eq_some_iff.mp h
    subst h
    obtain ⟨p, oo, us, e, h1, h2, h3⟩ := ra
    obtain ⟨q, vs, e2, g1, g2⟩ := rb
    subst h2 e2
    refine ⟨p, _, e, .inr ⟨us, k, q, .inr ⟨oo, (hide_some h1).2⟩, rfl, ?_, rfl⟩, look_rel k h3⟩
    rw [← keys_rep hk g2]
    exact (hide_some g1).2
  · cases h
def rInK (neg : Bool) : R2 := fun x y H Q => ∃ a o, y = .ref a ∧ DGet H a x o ∧ Q (.bl (if neg then !o.isSome else o.isSome)) H
theorem op_inK {X : Cx} (hu : X.A.units + 1 < cLine) : OpR X (compareOp .In) (rInK false) := by
  intro pins s σ H x y v u Q I rx ry h
  obtain ⟨a, o, rfl, g, q⟩ := h
  obtain rfl : u = Value.ref a := ry
  exact d_in hu I g rx fun s3 I3 => ⟨.bl o.isSome, H, I3, rfl, q⟩
theorem op_ninK {X : Cx} (hu : X.A.units + 1 < cLine) : OpR X (compareOp .NotIn) (rInK true) := by
  intro pins s σ H x y v u Q I rx ry h
  obtain ⟨a, o, rfl, g, q⟩ := h
  obtain rfl : u = Value.ref a := ry
  exact d_notIn hu I g rx fun s3 I3 => ⟨.bl (!o.isSome), H, I3, rfl, q⟩
def rIn5 (K : PySem.W.Frag) (neg : Bool) : R2 := fun x y H Q => rInAll K neg x y H Q ∨ rInK neg x y H Q
theorem op_in5 {X : Cx} (hu : X.A.units + 65 < cLine) : OpR X (compareOp .In) (rIn5 X.K false) := (op_inAll hu).or (op_inK (by omega))
theorem op_nin5 {X : Cx} (hu : X.A.units + 65 < cLine) : OpR X (compareOp .NotIn) (rIn5 X.K true) := (op_ninAll hu).or (op_ninK (by omega))
/-- in, not in: of a list, a tuple, a text, a dict -/
def gIn5 (neg : Bool) : D → D → Option D := fun a b =>
  match b with
  | .dk ks vs => (dgetD (.dk ks vs) a).map fun o => .bl (if neg then !o.isSome else o.isSome)
  | .dt ks vs => (dgetD (.dt ks vs) a).map fun o => .bl (if neg then !o.isSome else o.isSome)
  | .fk ks vs => (dgetD (.fk ks vs) a).map fun o => .bl (if neg then !o.isSome else o.isSome)
  | .ft ks vs => (dgetD (.ft ks vs) a).map fun o => .bl (if neg then !o.isSome else o.isSome)
  | b => gIn neg a b
theorem RelD.some_iff {K : PySem.W.Frag} {G : Hp} {w : Option V} {o : Option D} (h : RelD K G w o) : w.isSome = o.isSome := by
  cases w <;> cases o <;> first | rfl | exact h.elim
theorem gd_in5 {K : PySem.W.Frag} {neg : Bool} : OpD K (rIn5 K neg) (gIn5 neg) := by
  intro O H x y a b d Q hO ra rb hg k
  unfold gIn5 at hg
  have dict : ∀ {b : D}, Rep K (hide O H) y b → (dgetD b a).map (fun o => D.bl (if neg then !o.isSome else o.isSome)) = some d → rIn5 K neg x y H Q := fun {b} rb hg => by
    obtain ⟨o, ho, hg⟩ := Option.map_eq_some_iff.mp hg
    subst hg
    obtain ⟨p, w, e, g, r⟩ := dget_rep rb ra ho
    refine .inr ⟨p, w, e, g, ?_⟩
    rw [r.some_iff]
    exact k _ H (Same.refl H) rfl
  split at hg
  · exact dict rb hg
  · exact dict rb hg
  · exact dict rb hg
  · exact dict rb hg
  · exact .inl (gd_in O H x y a _ d Q hO ra rb hg k)

/-! ### a[i] -/
def rIxD : R2 := fun x y H Q => ∃ a v, x = .ref a ∧ DGet H a y (some v) ∧ Q v H
theorem ix_dict {X : Cx} (hu : X.A.units + 1 < cLine) : IxR X rIxD := by
  intro value slice pins s σ H x y v u Q I rx ry h hs
  obtain ⟨a, w, rfl, g, q⟩ := h
  obtain rfl : v = Value.ref a := rx
  have hT := dict_typeIs I g
  unfold subscriptTail
  refine wpAny_bind ?_
  rw [getitemInPython_of_ne hT.not_modules]
  refine wpAny_bind (wpAny_specialOf hT PySem.F.slot_dict_getitem.lookup ?_)
  have fin : wpAny (model X.prog X.w) X.A (subscripted slice false (.ref a) u) (fun r s₃ => wpAny (model X.prog X.w) X.A (letTemporaryGo value (.ref a) r >>= fun _ => pure r) (EP X pins σ Q) X.xe s₃) X.xe s := by
    rw [hs]
    exact wpAny_operating (d_getItem hu I g ry fun w' s3 I3 rw' => wpAny_bind (wpAny_letTemporaryGo (wpAny_pure ⟨w, H, I3, rw', q⟩)))
  first
    | exact wpAny_pure (wpAny_bind fin)
    | exact wpAny_bind (wpAny_pure (wpAny_bind fin))
    | exact wpAny_bind fin
def rIxA (K : PySem.W.Frag) : R2 := fun x y H Q => rIxL K x y H Q ∨ (rIxT K x y H Q ∨ (rIxS x y H Q ∨ rIxD x y H Q))
theorem ix_all {X : Cx} (hu : X.A.units + 1 < cLine) : IxR X (rIxA X.K) := ix_list.or (ix_tup.or (ix_str.or (ix_dict hu)))
theorem atI_rep {K : PySem.W.Frag} {G : Hp} {vs : List V} {ds : List D} {i : Int} {d : D} (r : RepL K G vs ds) (h : atI ds i = some d) : ∃ v, atI vs i = some v ∧ Rep K G v d := by
  unfold atI at h ⊢
  rw [r.length]
  cases e : ixN ds.length i with
  | none => rw [e] at h; cases h
  | some j =>
    rw [e] at h
    exact r.get h
def gIx : D → D → Option D
  | .lst ds, .int i => atI ds i
  | .tup ds, .int i => atI ds i
  | .str x, .int i => if x.length ≤ sizeLine then (atI x i).map fun c => .str [c] else none
  | .scr ns, .int i => (atI ns i).map .int
  | .dk ks vs, k => (dgetD (.dk ks vs) k).join
  | .dt ks vs, k => (dgetD (.dt ks vs) k).join
  | .fk ks vs, k => (dgetD (.fk ks vs) k).join
  | .ft ks vs, k => (dgetD (.ft ks vs) k).join
  | _, _ => none
theorem gd_ix {K : PySem.W.Frag} : OpD K (rIxA K) gIx := by
  intro O H x y a b d Q hO ra rb hg k
  have dict : ∀ {a : D}, Rep K (hide O H) x a → (dgetD a b).join = some d → rIxA K x y H Q := fun {a} ra hg => by
    cases z : dgetD a b with
    | none => rw [z] at hg; cases hg
    | some o =>
      rw [z] at hg
      have hg : o = some d := hg
      subst hg
      obtain ⟨p, w, e, g, r⟩ := dget_rep ra rb z
      cases w with
      | none => exact r.elim
      | some w => exact .inr (.inr (.inr ⟨p, w, e, g, k w H (Same.refl H) r⟩))
  unfold gIx at hg
  split at hg
  · obtain ⟨p, vs, e, h1, h2⟩ := ra
    obtain ⟨v, hv, rv⟩ := atI_rep h2 hg
    exact .inl ⟨p, vs, _, v, e, rb, .inl (hide_rd h1), hv, k v H (Same.refl H) rv⟩
  · obtain ⟨p, vs, e, h1, h2⟩ := ra
    obtain ⟨v, hv, rv⟩ := atI_rep h2 hg
    exact .inr (.inl ⟨p, vs, _, v, e, rb, SqT.of (hide_some h1).2, hv, k v H (Same.refl H) rv⟩)
  · split at hg
    case isFalse => cases hg
    rename_i hz
    obtain ⟨c, hc, hg⟩ := Option.map_eq_some_iff.mp hg
    subst hg
    refine .inr (.inr (.inl ⟨_, _, c, ra.1, rb, by rw [mkS_len]; exact hz, by rw [mkS_list]; exact hc, k _ H (Same.refl H) ⟨rfl, fun e he => ?_⟩⟩))
    obtain ⟨j, _, h2, _⟩ := atI_get hc
    rw [List.mem_singleton.mp he]
    exact ra.2 c (List.mem_of_getElem? h2)
  · obtain ⟨i, hi, hg⟩ := Option.map_eq_some_iff.mp hg
    subst hg
    obtain ⟨p, e, h1⟩ := ra
    refine .inl ⟨p, _, _, .int i, e, rb, hide_le.sqL h1, ?_, k _ H (Same.refl H) rfl⟩
    unfold atI at hi ⊢
    rw [List.length_map]
    cases z : ixN _ _ with
    | none => rw [z] at hi; cases hi
    | some j =>
      rw [z] at hi
      have hi : _ = some i := hi
      show _ = _
      rw [Option.bind_some, List.getElem?_map]
      rw [Option.bind_some] at hi
      rw [hi]
      rfl
  · exact dict ra hg
  · exact dict ra hg
  · exact dict ra hg
  · exact dict ra hg
  · cases hg
theorem pd_ix {X : Cx} {W : WX} {a b : Expr} {pos : Pos} {ea eb : List Nat} {fa fb : Env → R D} (hu : X.A.units + 1 < cLine) (ha : PD X W a ea fa) (hb : PD X W b eb fb) (hs : PlainIx b) : PD X W (.Subscript a b pos) (ea ++ eb) (fOp gIx fa fb) :=
  PE.imp (pe_ix (ix_all hu) ha hb hs) (tD_op gd_ix)

/-! ### slices -/
def cutG {α : Type} (xs : List α) (lo hi : Option Int) : List α := (xs.drop (HT.sIx xs.length 0 lo)).take (HT.sIx xs.length xs.length hi - HT.sIx xs.length 0 lo)
def rSlP (K : PySem.W.Frag) : V → Option Int → Option Int → Hp → VK → Prop := fun x lo hi H Q => rSlL K x lo hi H Q ∨ (rSlS x lo hi H Q ∨ rSlA K x lo hi H Q)
theorem sl_all {X : Cx} : SlR X (rSlP X.K) := sl_list.or (sl_str.or sl_tupA)
def gSl (lo hi : Option Int) : D → Option D
  | .lst ds => some (.lst (cutG ds lo hi))
  | .str x => if x.length ≤ sizeLine then some (.str (cutG x lo hi)) else none
  | .tup ds => some (.tup (cutG ds lo hi))
  | _ => none
theorem RepL.cut {K : PySem.W.Frag} {G : Hp} {vs : List V} {ds : List D} (r : RepL K G vs ds) (lo hi : Option Int) : RepL K G (cutV vs lo hi) (cutG ds lo hi) := by
  unfold cutV cutG
  rw [r.length]
  exact (r.drop _).take _
theorem cutG_mem {α : Type} {xs : List α} {lo hi : Option Int} {c : α} (h : c ∈ cutG xs lo hi) : c ∈ xs := List.mem_of_mem_drop (List.mem_of_mem_take h)
theorem cutG_whole {α : Type} {xs : List α} {lo hi : Option Int} (h : HT.sIx xs.length 0 lo = 0 ∧ HT.sIx xs.length xs.length hi = xs.length) : cutG xs lo hi = xs := by
  unfold cutG
  rw [h.1, h.2]
  simp
theorem gd_sl {K : PySem.W.Frag} {O : Addr → Prop} {H : Hp} {x : V} {a d : D} {lo hi : Option Int} {Q : VK} (hO : ∀ p, O p → H p ≠ none) (ra : Rep K (hide O H) x a) (hg : gSl lo hi a = some d) (k : ∀ v H', Same H H' → Rep K (hide O H') v d → Q v H') : rSlP K x lo hi H Q := by
  unfold gSl at hg
  split at hg
  · cases hg
    obtain ⟨p, vs, e, h1, h2⟩ := ra
    exact .inl ⟨p, vs, e, .inl (hide_rd h1), new_lst hO (h2.cut lo hi) k⟩
  · split at hg
    case isFalse => cases hg
    rename_i hz
    cases hg
    refine .inr (.inl ⟨_, ra.1, by rw [mkS_len]; exact hz, ?_⟩)
    have e : ∀ l : List Nat, cutS (mkS l) lo hi = mkS (cutG l lo hi) := fun l => by
      unfold cutS cutG
      rw [mkS_len, mkS_list]
      rfl
    rw [e]
    exact k _ H (Same.refl H) ⟨rfl, ra.2.sub fun c hc => cutG_mem hc⟩
  · cases hg
    obtain ⟨p, vs, e, h1, h2⟩ := ra
    refine .inr (.inr ⟨p, vs, e, SqT.of (hide_some h1).2, fun hw => ?_, fun _ => new_tup hO (h2.cut lo hi) k⟩)
    rw [h2.length] at hw
    rw [cutG_whole hw] at k
    exact k _ H (Same.refl H) ⟨p, vs, rfl, h1, h2⟩
  · cases hg
def PDO (X : Cx) (W : WX) (e : Option Expr) (fo : Env → R (Option Int)) : Prop := PO X e (fun σ H Q => ∃ B O L ρ, SR X.K B O L σ H ρ ∧ PostG X.K O W (fun _ (b a : Option Int) => b = a) (fo ρ) σ H Q)
theorem PO.imp {X : Cx} {e : Option Expr} {t t' : TO} (h : PO X e t) (f : ∀ σ H Q, t' σ H Q → t σ H Q) : PO X e t' := ⟨fun pins s σ H Q I q => h.run pins s σ H Q I (f σ H Q q)⟩
def foNone : Env → R (Option Int) := fun _ => .ok none
def foSome (fe : Env → R D) : Env → R (Option Int) := fun ρ => (fe ρ).bind fun d => match d with | .int i => .ok (some i) | _ => .stuck
theorem pdo_none {X : Cx} {W : WX} : PDO X W none foNone := PO.imp po_none fun σ H Q ⟨B, O, L, ρ, S, P⟩ => P none H (Same.refl H) rfl
theorem pdo_some {X : Cx} {W : WX} {e : Expr} {es : List Nat} {fe : Env → R D} (h : PD X W e es fe) : PDO X W (some e) (foSome fe) := PO.imp (po_some h) fun σ H Q ⟨B, O, L, ρ, S, P⟩ => ⟨B, O, L, ρ, S, PostG.bind P fun d v H1 e1 r P1 => by
  cases d <;> first
    | exact P1.elim
    | (obtain rfl := (show v = _ from r)
       exact ⟨_, rfl, P1 _ H1 (Same.refl H1) rfl⟩)⟩
def fSl (fe : Env → R D) (fl fh : Env → R (Option Int)) : Env → R D := fun ρ => (fe ρ).bind fun d => (fl ρ).bind fun l => (fh ρ).bind fun h => R.ofO (gSl l h d)
theorem pd_sl {X : Cx} {W : WX} {e : Expr} {lo hi : Option Expr} {p2 pos : Pos} {es : List Nat} {fe : Env → R D} {fl fh : Env → R (Option Int)} (he : PD X W e es fe) (hl : PDO X W lo fl) (hh : PDO X W hi fh) : PD X W (.Subscript e (.Slice lo hi none p2) pos) es (fSl fe fl fh) :=
  PE.imp (pe_slice sl_all he hl hh) fun σ H Q ⟨B, O, L, ρ, S, P⟩ => ⟨B, O, L, ρ, S, PostG.bind P fun d x H1 e1 r1 P1 => ⟨B, O, L, ρ, S.ext e1, PostG.bind P1 fun l l' H2 e2 r2 P2 => ⟨B, O, L, ρ, (S.ext e1).ext e2, PostG.bind P2 fun h h' H3 e3 r3 P3 => by
    obtain rfl : l' = l := r2
    obtain rfl : h' = h := r3
    obtain ⟨d2, hd, P4⟩ := P3.ofO
    exact gd_sl ((((S.ext e1).ext e2).ext e3).drop es).hdom (drop_mono (fun _ h => h) (e2.trans e3) r1) hd P4⟩⟩⟩

/-! ### calls of built-ins -/
theorem CallR.or {X : Cx} {f : Value} {r r' : List V → Hp → VK → Prop} (h : CallR X f r) (h' : CallR X f r') : CallR X f (fun x H Q => r x H Q ∨ r' x H Q) := by
  intro pins s σ H xs us Q I rx q
  rcases q with q | q
  · exact h pins s σ H xs us Q I rx q
  · exact h' pins s σ H xs us Q I rx q
def fCB (g : List D → Option D) (fa : Env → R (List D)) : Env → R D := fun ρ => (fa ρ).bind fun l => R.ofO (g l)
section
variable {X : Cx} {W : WX} {x : Str} {p pos : Pos} {e : Expr} {es : List Expr} {ea : List Nat} {fa : Env → R (List D)} {r : List V → Hp → VK → Prop} {g : List D → Option D} {id T : String}
theorem tD_CB (hd : CallD X.K r g) : ∀ σ H Q, tD X.K W ea (fCB g fa) σ H Q → tCB r (tDA X.K W ea fa) σ H Q := fun σ H Q ⟨B, O, L, ρ, S, P⟩ => ⟨B, O, L, ρ, S, PostG.bind P fun ds vs H1 e1 r1 P1 => by
  obtain ⟨d, hd2, P2⟩ := P1.ofO
  exact hd _ H1 vs ds d Q ((S.ext e1).drop ea).hdom r1 hd2 P2⟩
theorem pd_callB (hd : CallD X.K r g) (hc : CallR X (.builtin id) r) (hg : Gl X x) (hm : X.mg x = none) (hv : bootBuiltins x = some (.builtin id)) (ha : PDA X W (e :: es) ea fa) (hn : x ≠ "__name__" := by decide) (hdb : (x == ("__debug__" : Str)) = false := by decide) (he : starEach (e :: es) X.env = (false, eval e X.env) :: starEach es X.env := by rfl) (hpl : (backTo pos (starEach es X.env)).any (·.1) = false := by rfl) :
    PD X W (.Call (.Name x p) (e :: es) [] pos) ea (fCB g fa) := PE.imp (pe_callB hc hg hm hv ha hn hdb he hpl) (tD_CB hd)
theorem pd_callTy (hd : CallD X.K r g) (hc : CallR X (.type T) r) (hg : Gl X x) (hm : X.mg x = none) (hv : bootBuiltins x = some (.type T)) (ha : PDA X W (e :: es) ea fa) (hn : x ≠ "__name__" := by decide) (hdb : (x == ("__debug__" : Str)) = false := by decide) (he : starEach (e :: es) X.env = (false, eval e X.env) :: starEach es X.env := by rfl) (hpl : (backTo pos (starEach es X.env)).any (·.1) = false := by rfl) :
    PD X W (.Call (.Name x p) (e :: es) [] pos) ea (fCB g fa) := PE.imp (pe_callTy hc hg hm hv ha hn hdb he hpl) (tD_CB hd)
end
/-! len -/
def rLenD : List V → Hp → VK → Prop := fun xs H Q => ∃ a kvs, xs = [V.ref a] ∧ Rd H a (.dK kvs) ∧ Q (.int (kvs.length : Nat)) H
theorem call_lenK {X : Cx} : CallR X (.builtin "len") rLenD := by
  intro pins s σ H xs us Q I r h
  obtain ⟨a, kvs, rfl, hk, q⟩ := h
  obtain ⟨u, rfl, rx⟩ := vals1 r
  obtain rfl : u = Value.ref a := rx
  exact d_len I hk fun t s' I' => ⟨.int (kvs.length : Nat), H, I', ⟨t, rfl⟩, q⟩
def rLen (K : PySem.W.Frag) : List V → Hp → VK → Prop := fun xs H Q => (∃ x n, xs = [x] ∧ LenV K x H n ∧ Q (.int n) H) ∨ rLenD xs H Q
theorem call_lenA {X : Cx} : CallR X (.builtin "len") (rLen X.K) := call_len.or call_lenK
def gLen : List D → Option D
  | [.lst ds] => some (.int ds.length)
  | [.tup ds] => some (.int ds.length)
  | [.scr ns] => some (.int ns.length)
  | [.str x] => if x.length ≤ sizeLine then some (.int x.length) else none
  | [.dk ks _] => some (.int ks.length)
  | _ => none
theorem one_rep {K : PySem.W.Frag} {G : Hp} {xs : List V} {d : D} (r : RepL K G xs [d]) : ∃ x, xs = [x] ∧ Rep K G x d := by
  obtain ⟨x, ys, h1, h2, h3⟩ := r
  have h3 : ys = [] := h3
  subst h1 h3
  exact ⟨x, rfl, h2⟩
theorem cd_len {K : PySem.W.Frag} : CallD K (rLen K) gLen := by
  intro O H xs as d Q hO r hg k
  unfold gLen at hg
  split at hg
  · cases hg
    obtain ⟨x, rfl, p, vs, rfl, h1, h2⟩ := one_rep r
    rw [← h2.length] at k
    exact .inl ⟨_, _, rfl, .inl ⟨vs, .inl (hide_rd h1), rfl⟩, k _ H (Same.refl H) rfl⟩
  · cases hg
    obtain ⟨x, rfl, p, vs, rfl, h1, h2⟩ := one_rep r
    rw [← h2.length] at k
    exact .inl ⟨_, _, rfl, .inr ⟨vs, SqT.of (hide_some h1).2, rfl⟩, k _ H (Same.refl H) rfl⟩
  · cases hg
    obtain ⟨x, rfl, p, rfl, h1⟩ := one_rep r
    exact .inl ⟨_, _, rfl, .inl ⟨_, hide_le.sqL h1, rfl⟩, by rw [List.length_map]; exact k _ H (Same.refl H) rfl⟩
  · split at hg
    case isFalse => cases hg
    rename_i hz
    cases hg
    obtain ⟨x, rfl, rfl, ho⟩ := one_rep r
    exact .inl ⟨_, _, rfl, ⟨by rw [mkS_len]; exact hz, rfl⟩, by rw [mkS_len]; exact k _ H (Same.refl H) rfl⟩
  · cases hg
    obtain ⟨x, rfl, p, us, rfl, h1, h2, h3⟩ := one_rep r
    refine .inr ⟨p, us, rfl, hide_rd h1, ?_⟩
    rw [← h2, List.length_map] at k
    exact k _ H (Same.refl H) rfl
  · cases hg
/-! int, str -/
theorem int_digit : ∀ c : Nat, 48 ≤ c → c ≤ 57 → PySem.intText? (mkS [c]) = some ((c : Int) - 48) := by
  intro c h1 h2
  have : c = 48 ∨ c = 49 ∨ c = 50 ∨ c = 51 ∨ c = 52 ∨ c = 53 ∨ c = 54 ∨ c = 55 ∨ c = 56 ∨ c = 57 := by omega
  rcases this with h | h | h | h | h | h | h | h | h | h <;> (subst h; decide +kernel)
theorem str_digit : ∀ i : Int, 0 ≤ i → i ≤ 9 → (Str.ofString (toString i)) = mkS [(i + 48).toNat] := by
  intro i h1 h2
  have : i = 0 ∨ i = 1 ∨ i = 2 ∨ i = 3 ∨ i = 4 ∨ i = 5 ∨ i = 6 ∨ i = 7 ∨ i = 8 ∨ i = 9 := by omega
  rcases this with h | h | h | h | h | h | h | h | h | h <;> (subst h; decide +kernel)
def rInt : List V → Hp → VK → Prop := fun xs H Q => ((∃ i, xs = [.int i] ∧ Q (.int i) H) ∨ ∃ k, xs = [.bl k] ∧ Q (.int (if k then 1 else 0)) H) ∨ ∃ a n, xs = [.str a] ∧ PySem.intText? a = some n ∧ a.length ≤ 640 ∧ Q (.int n) H
theorem call_intA {X : Cx} : CallR X (.type "int") rInt := call_int1.or call_int_str
def gInt : List D → Option D
  | [.int i] => some (.int i)
  | [.bl k] => some (.int (if k then 1 else 0))
  | [.str [c]] => if 48 ≤ c ∧ c ≤ 57 then some (.int ((c : Int) - 48)) else none
  | _ => none
theorem cd_int {K : PySem.W.Frag} : CallD K rInt gInt := by
  intro O H xs as d Q hO r hg k
  unfold gInt at hg
  split at hg
  · cases hg
    obtain ⟨x, rfl, rfl⟩ := one_rep r
    exact .inl (.inl ⟨_, rfl, k _ H (Same.refl H) rfl⟩)
  · cases hg
    obtain ⟨x, rfl, rfl⟩ := one_rep r
    exact .inl (.inr ⟨_, rfl, k _ H (Same.refl H) rfl⟩)
  · split at hg
    case isFalse => cases hg
    rename_i hz
    cases hg
    obtain ⟨x, rfl, rfl, ho⟩ := one_rep r
    exact .inr ⟨_, _, rfl, int_digit _ hz.1 hz.2, by rw [mkS_len]; exact Nat.le_of_ble_eq_true rfl, k _ H (Same.refl H) rfl⟩
  · cases hg
def rStr : List V → Hp → VK → Prop := fun xs H Q => ∃ i : Int, xs = [.int i] ∧ i.natAbs.log2 < 1920 ∧ Q (.str (toString i)) H
def gStr : List D → Option D
  | [.int i] => if 0 ≤ i ∧ i ≤ 9 then some (.str [(i + 48).toNat]) else none
  | _ => none
theorem cd_str {K : PySem.W.Frag} : CallD K rStr gStr := by
  intro O H xs as d Q hO r hg k
  unfold gStr at hg
  split at hg
  · split at hg
    case isFalse => cases hg
    rename_i i hz
    cases hg
    obtain ⟨x, rfl, rfl⟩ := one_rep r
    refine ⟨_, rfl, ?_, ?_⟩
    · have : i.natAbs < 2 ^ 10 := by omega
      by_cases z : i.natAbs = 0
      · rw [z]; decide
      · exact Nat.lt_trans ((Nat.log2_lt z).mpr this) (by decide)
    · show Q (.str (Str.ofString (toString i))) H
      rw [str_digit i hz.1 hz.2]
      refine k _ H (Same.refl H) ⟨rfl, fun c hc => ?_⟩
      rw [List.mem_singleton.mp hc]
      omega
  · cases hg
/-! list, tuple -/
def rList (K : PySem.W.Frag) : List V → Hp → VK → Prop := fun xs H Q => ∃ p ys, xs = [V.ref p] ∧ (SqL K H p ys ∨ SqT K H p ys) ∧ ∀ l, H l = none → Q (.ref l) (upd H l (.lst ys))
def gList : List D → Option D
  | [.lst ds] => some (.lst ds)
  | [.tup ds] => some (.lst ds)
  | [.etup] => some (.lst [])
  | _ => none
def rTuple (K : PySem.W.Frag) : List V → Hp → VK → Prop := fun xs H Q => ∃ p ys, xs = [V.ref p] ∧ ((SqL K H p ys ∧ ∀ l, H l = none → Q (.ref l) (upd H l (.tup ys))) ∨ (SqT K H p ys ∧ Q (.ref p) H))
def gTuple : List D → Option D
  | [.lst ds] => some (.tup ds)
  | [.tup ds] => some (.tup ds)
  | _ => none
theorem cd_tuple {K : PySem.W.Frag} : CallD K (rTuple K) gTuple := by
  intro O H xs as d Q hO r hg k
  unfold gTuple at hg
  split at hg
  · cases hg
    obtain ⟨x, rfl, p, vs, rfl, h1, h2⟩ := one_rep r
    exact ⟨p, vs, rfl, .inl ⟨.inl (hide_rd h1), new_tup hO h2 k⟩⟩
  · cases hg
    obtain ⟨x, rfl, p, vs, rfl, h1, h2⟩ := one_rep r
    exact ⟨p, vs, rfl, .inr ⟨SqT.of (hide_some h1).2, k _ H (Same.refl H) ⟨p, vs, rfl, h1, h2⟩⟩⟩
  · cases hg
/-! any, all -/
def boolsOf : List D → Option (List Bool)
  | [] => some []
  | .bl b :: ds => (boolsOf ds).map (b :: ·)
  | _ :: _ => none
theorem bools_rep {K : PySem.W.Frag} {G : Hp} : ∀ {vs : List V} {ds : List D} {bs : List Bool}, boolsOf ds = some bs → RepL K G vs ds → vs = bs.map V.bl
  | vs, [], bs, h, r => by
    cases h
    exact r
  | vs, d :: ds, bs, h, ⟨x, xs, h1, h2, h3⟩ => by
    cases d <;> first | (cases h; done) | skip
    obtain ⟨r, b, h⟩ := Option.map_eq_some_iff.mp h
    subst h
    obtain rfl := (show x = _ from h2)
    rw [h1, bools_rep b h3]
    rfl
def gAny : List D → Option D
  | [.lst ds] => (boolsOf ds).map fun bs => .bl (bs.any id)
  | _ => none
def gAll : List D → Option D
  | [.lst ds] => (boolsOf ds).map fun bs => .bl (bs.all id)
  | _ => none
theorem cd_any {K : PySem.W.Frag} : CallD K (rAny K) gAny := by
  intro O H xs as d Q hO r hg k
  unfold gAny at hg
  split at hg
  · obtain ⟨bs, hb, hg⟩ := Option.map_eq_some_iff.mp hg
    subst hg
    obtain ⟨x, rfl, p, vs, rfl, h1, h2⟩ := one_rep r
    have e := bools_rep hb h2
    subst e
    exact ⟨p, bs, rfl, .inl (hide_rd h1), k _ H (Same.refl H) rfl⟩
  · cases hg
theorem cd_all {K : PySem.W.Frag} : CallD K (rAll K) gAll := by
  intro O H xs as d Q hO r hg k
  unfold gAll at hg
  split at hg
  · obtain ⟨bs, hb, hg⟩ := Option.map_eq_some_iff.mp hg
    subst hg
    obtain ⟨x, rfl, p, vs, rfl, h1, h2⟩ := one_rep r
    have e := bools_rep hb h2
    subst e
    exact ⟨p, bs, rfl, .inl (hide_rd h1), k _ H (Same.refl H) rfl⟩
  · cases hg
end DL
set_option Elab.async false
set_option linter.all false
set_option maxRecDepth 100000
namespace DL
open PySem PySem.Spec PyProof.Rows L2

/-! ### what is walked: lists, tuples, texts, ranges, enumerate -/
theorem jd_list {K : PySem.W.Frag} {G : Hp} {a : Addr} {vs : List V} {ds : List D} (h : Rd G a (.lst vs)) (r : RepL K G vs ds) : JD K G (Itl K a) ds := fun i H O le dom => by
  have hq : SqL K H a vs := .inl (hide_le.rd _ _ (le.rd _ _ h))
  refine ⟨fun d hd => ?_, fun hl => ⟨vs, hq, by rw [r.length]; exact hl⟩⟩
  obtain ⟨v, hv, rv⟩ := r.get hd
  refine ⟨⟨vs, v, hq, hv⟩, fun x H' y => ?_⟩
  obtain ⟨e, y⟩ := y
  subst e
  have := y vs hq
  rw [hv] at this
  cases this
  exact ⟨Same.refl _, rv.mono le⟩
theorem jd_scr {K : PySem.W.Frag} {G : Hp} {a : Addr} {ns : List Int} (h : SqL K G a (ns.map V.int)) : JD K G (Itl K a) (ns.map D.int) := fun i H O le dom => by
  have hq : SqL K H a (ns.map V.int) := hide_le.sqL (le.sqL h)
  refine ⟨fun d hd => ?_, fun hl => ⟨_, hq, by rw [List.length_map] at hl ⊢; exact hl⟩⟩
  rw [List.getElem?_map] at hd
  obtain ⟨n, hn, hd⟩ := Option.map_eq_some_iff.mp hd
  subst hd
  have hv : (ns.map V.int)[i]? = some (.int n) := by rw [List.getElem?_map, hn]; rfl
  refine ⟨⟨_, _, hq, hv⟩, fun x H' y => ?_⟩
  obtain ⟨e, y⟩ := y
  subst e
  have := y _ hq
  rw [hv] at this
  cases this
  exact ⟨Same.refl _, rfl⟩
theorem jd_tup {K : PySem.W.Frag} {G : Hp} {a : Addr} {vs : List V} {ds : List D} (h : G a = some (.tup vs)) (r : RepL K G vs ds) : JD K G (Itt K a) ds := fun i H O le dom => by
  have hq : SqT K H a vs := SqT.of (hide_le.tup _ _ (le.tup _ _ h))
  refine ⟨fun d hd => ?_, fun hl => ⟨vs, hq, by rw [r.length]; exact hl⟩⟩
  obtain ⟨v, hv, rv⟩ := r.get hd
  refine ⟨⟨vs, v, hq, hv⟩, fun x H' y => ?_⟩
  obtain ⟨e, y⟩ := y
  subst e
  have := y vs hq
  rw [hv] at this
  cases this
  exact ⟨Same.refl _, rv.mono le⟩
theorem jd_str {K : PySem.W.Frag} {G : Hp} {z : List Nat} (ho : okT z) : JD K G (Its (mkS z)) (z.map fun c => .str [c]) := fun i H O le dom => by
  refine ⟨fun d hd => ?_, fun hl => ?_⟩
  · rw [List.getElem?_map] at hd
    obtain ⟨c, hc, hd⟩ := Option.map_eq_some_iff.mp hd
    subst hd
    refine ⟨?_, fun x H' y => ?_⟩
    · show i < z.toArray.size
      rw [List.size_toArray]
      exact (List.getElem?_eq_some_iff.mp hc).1
    · obtain ⟨e, c', h1, h2⟩ := y
      subst e
      have h1 : z.toArray[i]? = some c' := h1
      rw [List.getElem?_toArray, hc] at h1
      cases h1
      exact ⟨Same.refl _, h2, fun e he => by rw [List.mem_singleton.mp he]; exact ho c (List.mem_of_getElem? hc)⟩
  · show z.toArray.size ≤ i
    rw [List.size_toArray]
    rw [List.length_map] at hl
    exact hl
theorem jd_range {K : PySem.W.Frag} {G : Hp} {lo : Int} {n : Nat} : JD K G (Itr lo n) ((List.range n).map fun (i : Nat) => .int (lo + i)) := fun i H O le dom => by
  refine ⟨fun d hd => ?_, fun hl => by rw [List.length_map, List.length_range] at hl; exact hl⟩
  rw [List.getElem?_map] at hd
  obtain ⟨c, hc, hd⟩ := Option.map_eq_some_iff.mp hd
  subst hd
  obtain ⟨h1, h2⟩ := List.getElem?_eq_some_iff.mp hc
  rw [List.getElem_range] at h2
  subst h2
  rw [List.length_range] at h1
  refine ⟨h1, fun x H' y => ?_⟩
  obtain ⟨e, y⟩ := y
  subst e
  exact ⟨Same.refl _, y⟩
def pairsD : Nat → List D → List D
  | _, [] => []
  | n, d :: ds => .tup [.int (n : Int), d] :: pairsD (n + 1) ds
theorem pairsD_get : ∀ (ds : List D) (n i : Nat), (pairsD n ds)[i]? = (ds[i]?).map fun d => .tup [.int ((n + i : Nat) : Int), d]
  | [], n, i => rfl
  | d :: ds, n, 0 => rfl
  | d :: ds, n, i + 1 => by
    show (pairsD (n + 1) ds)[i]? = (ds[i]?).map _
    rw [pairsD_get ds (n + 1) i, show n + 1 + i = n + (i + 1) by omega]
theorem pairsD_length : ∀ (ds : List D) (n : Nat), (pairsD n ds).length = ds.length
  | [], _ => rfl
  | d :: ds, n => by
    show (pairsD (n + 1) ds).length + 1 = ds.length + 1
    rw [pairsD_length ds]
theorem jd_enum {K : PySem.W.Frag} {G : Hp} {a : Addr} {vs : List V} {ds : List D} (h : Rd G a (.lst vs)) (r : RepL K G vs ds) : JD K G (Ite K a) (pairsD 0 ds) := fun i H O le dom => by
  have hq : SqL K H a vs := .inl (hide_le.rd _ _ (le.rd _ _ h))
  refine ⟨fun d hd => ?_, fun hl => ⟨vs, hq, by rw [r.length]; rw [pairsD_length] at hl; exact hl⟩⟩
  rw [pairsD_get] at hd
  obtain ⟨d', hd', hd⟩ := Option.map_eq_some_iff.mp hd
  subst hd
  obtain ⟨v, hv, rv⟩ := r.get hd'
  refine ⟨⟨vs, v, hq, hv⟩, fun x H' y => ?_⟩
  obtain ⟨T, x', ex, hT, eH, y⟩ := y
  subst ex eH
  have := y vs hq
  rw [hv] at this
  cases this
  obtain ⟨n, r2⟩ := fresh_rep (vs := [.int (i : Nat), v]) (ds := [.int ((0 + i : Nat) : Int), d']) dom hT (same_new (o := .tup [.int (i : Nat), v]) hT) (.cons (by rw [Nat.zero_add]; rfl) (.one (rv.mono le)))
  exact ⟨same_new hT, T, _, rfl, by rw [hide_no n, upd_same], r2⟩
def iSeq (K : PySem.W.Frag) (tl : TE) : TI := fun σ H R => tl σ H fun x H1 => (∃ a, x = .ref a ∧ (∃ xs, SqL K H1 a xs) ∧ R (Itl K a) H1) ∨ ((∃ a, x = .ref a ∧ (∃ xs, SqT K H1 a xs) ∧ R (Itt K a) H1) ∨ ∃ z, x = .str z ∧ R (Its z) H1)
theorem pi_seq {X : Cx} {tg l : Expr} {tl : TE} (hl : PE X l tl) : PI X tg l (iSeq X.K tl) := by
  refine ⟨fun pins s σ H R I h => ?_⟩
  refine thn (hl.run pins s σ H _ I h) fun v s1 ⟨x, H1, I1, r1, q1⟩ => ?_
  rcases q1 with ⟨a, e, ⟨xs, hq⟩, q⟩ | ⟨a, e, ⟨xs, hq⟩, q⟩ | ⟨z, e, q⟩
  · subst e
    cases r1
    obtain ⟨its, rv, p, hz⟩ := I1.list hq
    refine wpAny_pyIter_list p.isList ?_
    refine ⟨s1.heap.objs.size, [s1.heap.objs.size], _, _, H1, rfl, I1.kept (t' := s1.toks) fun b o e => Heap.get?_push_of_some _ e, turn_list a _, ⟨_, Heap.get?_push_size _ rfl, rfl, rfl⟩, fun b hb => ?_, q⟩
    have e : b = s1.heap.objs.size := by simpa using hb
    subst e
    exact I1.fpOk (Nat.le_refl _) (I1.hok.fresh (Nat.le_refl _))
  · subst e
    cases r1
    obtain ⟨its, rv, p, hz⟩ := I1.tuple hq
    refine wpAny_pyIter_tuple (show s1.heap.IsTuple a its.toArray from p) ?_
    refine ⟨s1.heap.objs.size, [s1.heap.objs.size], _, _, H1, rfl, I1.kept (t' := s1.toks) fun b o e => Heap.get?_push_of_some _ e, turn_tuple a _, ⟨_, Heap.get?_push_size _ rfl, rfl, rfl⟩, fun b hb => ?_, q⟩
    have e : b = s1.heap.objs.size := by simpa using hb
    subst e
    exact I1.fpOk (Nat.le_refl _) (I1.hok.fresh (Nat.le_refl _))
  · subst e
    obtain ⟨t, rfl⟩ := r1
    cases ha : z.cps.all (· < 128)
    · exact wpAny_pyIter_wide ha (pi_one (tk := s1.toks) I1 _ (turn_str _ z t "str_iterator" (.inr rfl)) ⟨_, Heap.get?_push_size _ rfl, rfl, rfl⟩ q)
    · exact wpAny_pyIter_ascii ha (pi_one (tk := s1.toks) I1 _ (turn_str _ z t "str_ascii_iterator" (.inl rfl)) ⟨_, Heap.get?_push_size _ rfl, rfl, rfl⟩ q)
def gIter : D → Option (List D)
  | .lst ds => some ds
  | .tup ds => some ds
  | .str z => some (z.map fun c => .str [c])
  | .scr ns => some (ns.map .int)
  | .etup => some []
  | _ => none
def fIter (fe : Env → R D) : Env → R (List D) := fun ρ => (fe ρ).bind fun d => R.ofO (gIter d)
section
variable {X : Cx} {W : WX} {tg l : Expr} {es : List Nat} {fe : Env → R D} {fa : Env → R (List D)} {p pos : Pos}
theorem pdi_seq (h : PD X W l es fe) : PDI X W tg l es (fIter fe) := PI.imp (pi_seq h) fun σ H Q ⟨B, O, L, ρ, S, P⟩ => ⟨B, O, L, ρ, S, PostG.bind P fun d x H1 e1 r1 P1 => by
  obtain ⟨ds, hd, k⟩ := P1.ofO
  have r1 : Rep X.K (hide (HS O (dropL es L)) H1) x d := r1
  unfold gIter at hd
  split at hd
  · cases hd
    obtain ⟨a, vs, e, h1, h2⟩ := r1
    exact .inl ⟨a, e, ⟨vs, .inl (hide_rd h1)⟩, k _ H1 (Same.refl H1) (jd_list h1 h2)⟩
  · cases hd
    obtain ⟨a, vs, e, h1, h2⟩ := r1
    exact .inr (.inl ⟨a, e, ⟨vs, SqT.of (hide_some h1).2⟩, k _ H1 (Same.refl H1) (jd_tup h1 h2)⟩)
  · cases hd
    exact .inr (.inr ⟨_, r1.1, k _ H1 (Same.refl H1) (jd_str r1.2)⟩)
  · cases hd
    obtain ⟨a, e, h1⟩ := r1
    exact .inl ⟨a, e, ⟨_, hide_le.sqL h1⟩, k _ H1 (Same.refl H1) (jd_scr h1)⟩
  · cases hd
    obtain ⟨a, e, h1⟩ := r1
    refine .inr (.inl ⟨a, e, ⟨_, hide_le.sqT h1⟩, k _ H1 (Same.refl H1) fun i H O le dom => ⟨fun d hd => ?_, fun _ => ⟨[], hide_le.sqT (le.sqT h1), Nat.zero_le _⟩⟩⟩)
    rw [List.getElem?_nil] at hd
    cases hd
  · cases hd⟩
def gRng : List D → Option (List D)
  | [.int j] => if -(2 ^ 62) ≤ j ∧ j < 2 ^ 62 then some ((List.range j.toNat).map fun (i : Nat) => .int ((0 : Int) + i)) else none
  | [.int i, .int j] => if -(2 ^ 62) ≤ i ∧ i < 2 ^ 62 ∧ -(2 ^ 62) ≤ j ∧ j < 2 ^ 62 then some ((List.range (j - i).toNat).map fun (n : Nat) => .int (i + n)) else none
  | _ => none
def fRng (fa : Env → R (List D)) : Env → R (List D) := fun ρ => (fa ρ).bind fun l => R.ofO (gRng l)
theorem pdi_range1 {a : Expr} (hg : Gl X "range") (hm : X.mg "range" = none) (ha : PDA X W [a] es fa) (hn : ∀ ρ l, fa ρ = .ok l → l.length = 1) (hs : starEach [a] X.env = [(false, eval a X.env)] := by rfl) : PDI X W tg (.Call (.Name "range" p) [a] [] pos) es (fRng fa) :=
  PI.imp (pi_range1 hg hm ha hs) fun σ H Q ⟨B, O, L, ρ, S, P⟩ => ⟨B, O, L, ρ, S, by
    have P : PostG X.K O W (rJ X.K O (dropL es L)) ((fa ρ).bind fun l => R.ofO (gRng l)) σ H Q := P
    cases q : fa ρ with
    | stuck => rw [q] at P; exact P
    | exc x => rw [q] at P; exact P
    | ok l =>
      rw [q] at P
      intro vs H1 e1 r1
      have P : PostG X.K O W (rJ X.K O (dropL es L)) (R.ofO (gRng l)) σ H Q := P
      obtain ⟨ds, hd, k⟩ := P.ofO
      have hl := hn ρ l q
      match l, hl, hd, r1 with
      | [d], _, hd, r1 =>
        unfold gRng at hd
        split at hd
        · rename_i j hj
          cases hj
          split at hd
          case isFalse => cases hd
          rename_i hz
          cases hd
          obtain ⟨x, rfl, rfl⟩ := one_rep r1
          exact ⟨j, rfl, hz.1, hz.2, k _ H1 e1 jd_range⟩
        · rename_i h
          cases h
        · cases hd⟩
theorem pdi_range2 {a b : Expr} (hg : Gl X "range") (hm : X.mg "range" = none) (ha : PDA X W [a, b] es fa) (hn : ∀ ρ l, fa ρ = .ok l → l.length = 2) (hs : starEach [a, b] X.env = [(false, eval a X.env), (false, eval b X.env)] := by rfl) (hs2 : starEach [b] X.env = [(false, eval b X.env)] := by rfl) :
    PDI X W tg (.Call (.Name "range" p) [a, b] [] pos) es (fRng fa) :=
  PI.imp (pi_range2 hg hm ha hs hs2) fun σ H Q ⟨B, O, L, ρ, S, P⟩ => ⟨B, O, L, ρ, S, by
    have P : PostG X.K O W (rJ X.K O (dropL es L)) ((fa ρ).bind fun l => R.ofO (gRng l)) σ H Q := P
    cases q : fa ρ with
    | stuck => rw [q] at P; exact P
    | exc x => rw [q] at P; exact P
    | ok l =>
      rw [q] at P
      intro vs H1 e1 r1
      have P : PostG X.K O W (rJ X.K O (dropL es L)) (R.ofO (gRng l)) σ H Q := P
      obtain ⟨ds, hd, k⟩ := P.ofO
      have hl := hn ρ l q
      match l, hl, hd, r1 with
      | [d, d'], _, hd, r1 =>
        unfold gRng at hd
        split at hd
        · rename_i h
          cases h
        · rename_i i j hj
          cases hj
          split at hd
          case isFalse => cases hd
          rename_i hz
          cases hd
          obtain ⟨x, xs, h1, h2, h3⟩ := r1
          obtain ⟨y, h4, h5⟩ := one_rep h3
          have h2 : x = .int i := h2
          have h5 : y = .int j := h5
          subst h1 h2 h4 h5
          exact ⟨i, j, rfl, hz, k _ H1 e1 jd_range⟩
        · cases hd⟩
def gEnum : List D → Option (List D)
  | [.lst ds] => some (pairsD 0 ds)
  | _ => none
def fEnum (fa : Env → R (List D)) : Env → R (List D) := fun ρ => (fa ρ).bind fun l => R.ofO (gEnum l)
theorem pdi_enum {e : Expr} {tpos : Pos} {elts : List Expr} {kk : Nat} (hg : Gl X "enumerate") (hm : X.mg "enumerate" = none) (ha : PDA X W [e] es fa) (hs : starEach [e] X.env = [(false, eval e X.env)] := by rfl) :
    PDI X W (.Tuple elts kk tpos) (.Call (.Name "enumerate" p) [e] [] pos) es (fEnum fa) :=
  PI.imp (pi_enum hg hm ha hs) fun σ H Q ⟨B, O, L, ρ, S, P⟩ => ⟨B, O, L, ρ, S, PostG.bind P fun l vs H1 e1 r1 P1 => by
    obtain ⟨ds, hd, k⟩ := P1.ofO
    unfold gEnum at hd
    split at hd
    · cases hd
      obtain ⟨x, rfl, a, us, rfl, h1, h2⟩ := one_rep r1
      exact ⟨a, us, rfl, .inl (hide_rd h1), k _ H1 (Same.refl H1) (jd_enum h1 h2)⟩
    · cases hd⟩
end

/-! ### new lists and dicts -/
section
variable {X : Cx} {W : WX} {x : Str} {p pos : Pos} {e : Expr} {es : List Expr} {ea : List Nat} {fa : Env → R (List D)}
theorem top_fresh {K : PySem.W.Frag} {O : Addr → Prop} {H : Hp} {p : Addr} {o : HO} {vs : List V} {ds : List D} (hp : H p = none) (r : RepL K (hide O H) vs ds) : RepL K (hide (fun a => O a ∨ a = p) (upd H p o)) vs ds := by
  refine RepL.mono ?_ r
  have key : ∀ a u, hide O H a = some u → hide (fun a => O a ∨ a = p) (upd H p o) a = some u := fun a u z => by
    obtain ⟨n, z⟩ := hide_some z
    have np : a ≠ p := ne_of_none z hp
    rw [hide_no (fun y => y.elim n np), upd_ne np]
    exact z
  exact RdLe.ofKey key
/-- list(xs), list(t) -/
theorem pdf_list (hg : Gl X x) (hm : X.mg x = none) (hv : bootBuiltins x = some (.type "list")) (ha : PDA X W (e :: es) ea fa) (hn : x ≠ "__name__" := by decide) (hdb : (x == ("__debug__" : Str)) = false := by decide) (he : starEach (e :: es) X.env = (false, eval e X.env) :: starEach es X.env := by rfl) (hpl : (backTo pos (starEach es X.env)).any (·.1) = false := by rfl) :
    PDF X W (.Call (.Name x p) (e :: es) [] pos) ea (fCB gList fa) := PE.imp (pe_callTy call_list_of hg hm hv ha hn hdb he hpl) fun σ H Q ⟨B, O, L, ρ, S, P⟩ => ⟨B, O, L, ρ, S, PostF.bind P fun l vs H1 e1 r1 fr P1 => by
  have r1 : RepL X.K (hide (HS O (dropL ea L)) H1) vs l := r1
  cases q : gList l with
  | none => rw [q] at P1; exact P1.elim
  | some d =>
    rw [q] at P1
    have P1 : ∀ p o H', H1 p = none → Same H1 H' → H' p = some o → Top X.K (hide (fun a => HS O (dropL ea L) a ∨ a = p) H') o d → Q (.ref p) H' := P1
    unfold gList at q
    split at q
    · cases q
      obtain ⟨x, rfl, a, us, rfl, h1, h2⟩ := one_rep r1
      exact ⟨a, us, rfl, .inl (.inl (hide_rd h1)), fun p hp => P1 p (.lst us) _ hp (same_new hp) upd_same (top_fresh hp h2)⟩
    · cases q
      obtain ⟨x, rfl, a, us, rfl, h1, h2⟩ := one_rep r1
      exact ⟨a, us, rfl, .inr (SqT.of (hide_some h1).2), fun p hp => P1 p (.lst us) _ hp (same_new hp) upd_same (top_fresh hp h2)⟩
    · cases q
      obtain ⟨x, rfl, a, rfl, h1⟩ := one_rep r1
      exact ⟨a, [], rfl, .inr (hide_le.sqT h1), fun p hp => P1 p (.lst []) _ hp (same_new hp) upd_same rfl⟩
    · cases q⟩
/-- list(range(n)) -/
def gLRng : D → Option D
  | .int n => if n ≤ 16777216 ∧ -(2 ^ 62) ≤ n then some (.lst ((List.range n.toNat).map fun (i : Nat) => .int (i : Int))) else none
  | _ => none
def fLRng (fe : Env → R D) : Env → R D := fun ρ => (fe ρ).bind fun d => R.ofO (gLRng d)
theorem pdf_listRg {a : Expr} {fe : Env → R D} {p2 pos2 : Pos} (hc : X.calm = true) (hg : Gl X "list") (hm : X.mg "list" = none) (hg2 : Gl X "range") (hm2 : X.mg "range" = none) (ha : PD X W a ea fe)
    (na : starEach [a] X.env = (false, eval a X.env) :: starEach [] X.env := by rfl) (na2 : starEach [.Call (.Name "range" p2) [a] [] pos2] X.env = (false, eval (.Call (.Name "range" p2) [a] [] pos2) X.env) :: starEach [] X.env := by rfl) :
    PDF X W (.Call (.Name "list" p) [.Call (.Name "range" p2) [a] [] pos2] [] pos) ea (fLRng fe) := PE.imp (pe_listRg hc hg hm (prg_1 hg2 hm2 ha na) na2) fun σ H Q ⟨B, O, L, ρ, S, P⟩ => ⟨B, O, L, ρ, S, PostF.bind P fun d v H1 e1 r1 fr P1 => by
  cases q : gLRng d with
  | none => rw [q] at P1; exact P1.elim
  | some d2 =>
    rw [q] at P1
    have P1 : ∀ p o H', H1 p = none → Same H1 H' → H' p = some o → Top X.K (hide (fun a => HS O (dropL ea L) a ∨ a = p) H') o d2 → Q (.ref p) H' := P1
    unfold gLRng at q
    split at q
    · split at q
      case isFalse => cases q
      rename_i n hz
      cases q
      obtain rfl : v = .int n := r1
      refine ⟨n, rfl, ⟨by omega, by omega, by omega, by omega, by omega⟩, fun p hp => P1 p _ _ hp (same_new hp) upd_same ?_⟩
      have : ∀ (G : Hp) (m : Nat), RepL X.K G ((List.range m).map fun (i : Nat) => V.int ((0 : Int) + i)) ((List.range m).map fun (i : Nat) => D.int (i : Int)) := fun G m => by
        induction m with
        | zero => exact RepL.nil
        | succ m ih =>
          rw [List.range_succ, List.map_append, List.map_append]
          refine ih.append (.one ?_)
          show V.int _ = V.int _
          rw [Int.zero_add]
      show RepL X.K _ (rgV 0 n) _
      unfold rgV
      rw [Int.sub_zero]
      exact this _ _
    · cases q⟩
/-- {} -/
theorem pdf_dk : PDF X W (.Dict [] [] pos) [] (fun _ => .ok (.dk [] [])) := PE.imp pe_dnewK fun σ H Q ⟨B, O, L, ρ, S, P⟩ p hp => P p (.dK []) _ hp (same_new hp) upd_same ⟨rfl, rfl⟩
theorem pdf_dt : PDF X W (.Dict [] [] pos) [] (fun _ => .ok (.dt [] [])) := PE.imp pe_dnewT fun σ H Q ⟨B, O, L, ρ, S, P⟩ p hp => P p (.dT []) _ hp (same_new hp) upd_same ⟨rfl, rfl⟩
end

/-! ### owned lists and dicts are changed -/
section
variable {X : Cx} {W : WX} {ow ow' : Ow} {owl : Ox} {st : Stmt} {es ei : List Nat} {fe fi : Env → R D}
def fApp (i : Nat) (fe : Env → R D) : Env → Out := fun ρ =>
  match ρ[i]? with
  | some (some (.lst ds)) => stE (fe ρ) ρ fun d => if ds.length < sizeLine then .nx (ρ.set i (some (.lst (ds ++ [d])))) else .stuck
  | _ => .stuck
theorem pds_app {i : Nat} (h : PS X st (tDrop (tBM X.K "list" rAppend (tVar i) (tCons (tD X.K W es fe) tNil)))) (hi : (i, 1) ∈ ow := by decide) (hn : i ∉ es := by decide) (ho : ∀ p ∈ ow', p ∈ ow ∧ p.1 ∉ es := by decide) (hx : ∀ p ∈ owl.rx, p ∈ ow := by decide) :
    PDS X W ow ow' owl st (fApp i fe) := PS.imp h fun D σ H ⟨B, O, L, ρ, S, w, P⟩ => by
  have P : PostS X.K B O W ow' owl (match ρ[i]? with | some (some (.lst ds)) => stE (fe ρ) ρ fun d => if ds.length < sizeLine then .nx (ρ.set i (some (.lst (ds ++ [d])))) else .stuck | _ => .stuck) D := P
  split at P
  case h_2 => exact P.elim
  rename_i ds hd
  obtain ⟨as, hL⟩ := w (i, 1) hi
  obtain ⟨p, o, hs, ha, hb, hp, t⟩ := S.top hL hd rfl
  subst ha
  refine ⟨_, hs, ?_⟩
  have list_of : ∀ {H : Hp} {L : Lm} {o : HO}, H p = some o → Top X.K (hide (HS O L) H) o (.lst ds) → ∃ vs, o = .lst vs ∧ RepL X.K (hide (HS O L) H) vs ds := fun {H L o} hp t => by
    cases o <;> first | exact t.elim | exact ⟨_, rfl, t⟩
  obtain ⟨vs, rfl, rv⟩ := list_of hp t
  refine ⟨.inl ⟨rfl, vs, SqL.of hp⟩, B, O, L, ρ, S, PostS.bind P S (w.sub hx) fun d v H1 e r P1 => ?_⟩
  split at P1
  case isFalse => exact P1.elim
  rename_i hz
  have S1 := (S.ext e).drop es
  have hL1 : dropL es L i = some (1, [p]) := by rw [dropL_no hn]; exact hL
  obtain ⟨p', o', hs', ha', _, hp', t'⟩ := S1.top hL1 hd rfl
  rw [hs] at hs'
  cases hs'
  obtain ⟨us, rfl, ru⟩ := list_of hp' t'
  refine ⟨p, us, v, rfl, rfl, hp', by rw [ru.length]; exact hz, ?_⟩
  have S2 := S1.change (o := .lst (us ++ [v])) (d' := .lst (ds ++ [d])) hL1 hs ⟨_, hd⟩ (RepL.append ru (.one r))
  exact P1 σ _ _ S2 (w.drop ho)
/-- c[i] = v -/
def putKD {κ : Type} [DecidableEq κ] : List κ → List D → κ → D → List κ × List D
  | k :: ks, d :: ds, x, v => if k = x then (k :: ks, v :: ds) else let r := putKD ks ds x v; (k :: r.1, d :: r.2)
  | ks, ds, x, v => (ks ++ [x], ds ++ [v])
def putD : D → D → D → Option D
  | .lst ds, .int i, v => (ixN ds.length i).map fun j => .lst (ds.set j v)
  | .dk ks vs, k, v => (keyOf k).bind fun k => if ks.length < sizeLine ∧ ks.length = vs.length ∧ ks.Nodup then some (let r := putKD ks vs k v; .dk r.1 r.2) else none
  | .dt ks vs, .tup ds, v => (keysOf ds).bind fun k => if ks.length < sizeLine ∧ ks.length = vs.length ∧ ks.Nodup then some (let r := putKD ks vs k v; .dt r.1 r.2) else none
  | _, _, _ => none
theorem putKD_keys {κ : Type} [DecidableEq κ] {x : κ} {v : D} : ∀ {ks : List κ} {ds : List D}, ks.length = ds.length → (putKD ks ds x v).1 = if x ∈ ks then ks else ks ++ [x]
  | [], [], _ => rfl
  | [], _ :: _, h => by cases h
  | _ :: _, [], h => by cases h
  | k :: ks, d :: ds, h => by
    unfold putKD
    by_cases e : k = x
    · rw [if_pos e, if_pos (by rw [e]; exact List.mem_cons_self)]
    · rw [if_neg e]
      show k :: (putKD ks ds x v).1 = _
      rw [putKD_keys (by simpa using h)]
      by_cases m : x ∈ ks
      · rw [if_pos m, if_pos (List.mem_cons_of_mem _ m)]
      · rw [if_neg m, if_neg fun z => (List.mem_cons.mp z).elim (fun z => e z.symm) m]
        rfl
theorem put_rel {K : PySem.W.Frag} {G : Hp} {κ : Type} [DecidableEq κ] {x : κ} {v : V} {d : D} (r : Rep K G v d) : ∀ {us : List (κ × V)} {ds : List D}, (us.map (·.1)).Nodup → RepL K G (us.map (·.2)) ds →
    (putK us x v).map (·.1) = (putKD (us.map (·.1)) ds x d).1 ∧ RepL K G ((putK us x v).map (·.2)) (putKD (us.map (·.1)) ds x d).2
  | [], [], _, h => ⟨rfl, .one r⟩
  | [], _ :: _, _, ⟨_, _, h, _⟩ => by cases h
  | _ :: _, [], _, h => by
    have h : _ = [] := h
    cases h
  | (k, u) :: us, e :: ds, nd, ⟨y, ys, h1, h2, h3⟩ => by
    cases h1
    rw [List.map_cons, List.nodup_cons] at nd
    unfold putK
    by_cases c : k = x
    · rw [if_pos (by rw [List.any_cons]; simp [c])]
      have e1 : (us.map fun kv => if kv.1 = x then (kv.1, v) else kv) = us := by
        refine (List.map_congr_left fun kv hm => ?_).trans (List.map_id us)
        rw [if_neg]
        · rfl
        · intro z
          exact nd.1 (by rw [c, ← z]; exact List.mem_map_of_mem (f := fun p => p.1) hm)
      have e2 : putKD (((k, u) :: us).map (·.1)) (e :: ds) x d = (k :: us.map (·.1), d :: ds) := by
        show (if k = x then _ else _) = _
        rw [if_pos c]
      rw [e2, List.map_cons, e1]
      show List.map _ ((if k = x then (k, v) else (k, u)) :: us) = _ ∧ RepL K G (List.map _ ((if k = x then (k, v) else (k, u)) :: us)) _
      rw [if_pos c]
      exact ⟨rfl, v, _, rfl, r, h3⟩
    · have ih := put_rel (x := x) r nd.2 h3
      unfold putK at ih
      have e2 : putKD (((k, u) :: us).map (·.1)) (e :: ds) x d = (k :: (putKD (us.map (·.1)) ds x d).1, e :: (putKD (us.map (·.1)) ds x d).2) := by
        show (if k = x then _ else _) = _
        rw [if_neg c]
      rw [e2]
      have e3 : (((k, u) :: us).any fun kv => decide (kv.1 = x)) = (us.any fun kv => decide (kv.1 = x)) := by
        rw [List.any_cons]
        simp [c]
      rw [e3]
      split at ih
      · rename_i q
        rw [if_pos q, List.map_cons, if_neg c]
        exact ⟨by rw [List.map_cons, ih.1], u, _, rfl, h2, ih.2⟩
      · rename_i q
        rw [if_neg q]
        exact ⟨by rw [List.cons_append, List.map_cons, ih.1], u, _, rfl, h2, ih.2⟩
def rSetK : TSet := fun o i v H Q => ∃ a H2, o = .ref a ∧ DPut H a i v H2 ∧ Q H2
theorem set_dict (hu : X.A.units + 1 < cLine) : PSet X rSetK := by
  intro pins s σ H o i v ov iv u Q I ro ri rv h
  obtain ⟨a, H2, rfl, g, q⟩ := h
  obtain rfl : ov = Value.ref a := ro
  exact d_setItem hu I g ri rv fun s4 I4 => ⟨H2, I4, q⟩
def rSetA : TSet := fun o i v H Q => rSetL o i v H Q ∨ rSetK o i v H Q
theorem set_all (hu : X.A.units + 1 < cLine) : PSet X rSetA := by
  intro pins s σ H o i v ov iv u Q I ro ri rv h
  rcases h with h | h
  · exact set_list pins s σ H o i v ov iv u Q I ro ri rv h
  · exact set_dict hu pins s σ H o i v ov iv u Q I ro ri rv h
/-- a store into an owned thing -/
theorem put_top {O : Addr → Prop} {H : Hp} {p : Addr} {o : HO} {c c' a d : D} {x v : V} {Q : Hp → Prop} (hp : H p = some o) (t : Top X.K (hide O H) o c) (ra : Rep X.K (hide O H) x a) (rv : Rep X.K (hide O H) v d) (h : putD c a d = some c')
    (k : ∀ o', Top X.K (hide O H) o' c' → Q (upd H p o')) : rSetA (.ref p) x v H Q := by
  unfold putD at h
  split at h
  · obtain ⟨j, hj, h⟩ := Option.map_eq_some_iff.mp h
    subst h
    cases o <;> first | exact t.elim | skip
    rename_i vs
    have t : RepL X.K (hide O H) vs _ := t
    exact .inl ⟨p, vs, _, j, rfl, ra, hp, by rw [t.length]; exact hj, k (.lst (vs.set j v)) (RepL.set rv j t)⟩
  · obtain ⟨key, hk, h⟩ := Option.bind_eq_some_iff.mp h
    split at h
    case isFalse => cases h
    rename_i hz
    cases h
    cases o <;> first | exact t.elim | skip
    rename_i us
    obtain ⟨t1, t2⟩ := (show us.map (·.1) = _ ∧ RepL X.K (hide O H) (us.map (·.2)) _ from t)
    subst t1
    obtain ⟨q1, q2⟩ := put_rel (x := key) rv hz.2.2 t2
    exact .inr ⟨p, _, rfl, .inl ⟨us, key, hp, key_rep hk ra, by simpa using hz.1, rfl⟩, k (.dK (putK us key v)) ⟨q1, q2⟩⟩
  · obtain ⟨key, hk, h⟩ := Option.bind_eq_some_iff.mp h
    split at h
    case isFalse => cases h
    rename_i hz
    cases h
    cases o <;> first | exact t.elim | skip
    rename_i us
    obtain ⟨t1, t2⟩ := (show us.map (·.1) = _ ∧ RepL X.K (hide O H) (us.map (·.2)) _ from t)
    subst t1
    obtain ⟨q1, q2⟩ := put_rel (x := key) rv hz.2.2 t2
    obtain ⟨b, vs, e2, g1, g2⟩ := ra
    subst e2
    exact .inr ⟨p, _, rfl, .inr ⟨us, key, b, hp, rfl, by rw [← keys_rep hk g2]; exact (hide_some g1).2, by simpa using hz.1, rfl⟩, k (.dT (putK us key v)) ⟨q1, q2⟩⟩
  · cases h
def fPut (k : Nat) (fe fi : Env → R D) : Env → Out := fun ρ => stE (fe ρ) ρ fun d =>
  match ρ[k]? with
  | some (some c) => if isTop c = true then stE (fi ρ) ρ fun a => (match putD c a d with | some c' => .nx (ρ.set k (some c')) | none => .stuck) else .stuck
  | _ => .stuck
theorem pds_put {k : Nat} (h : PS X st (tAsg (tD X.K W es fe) (gSub (tVar k) (tD X.K W ei fi) rSetA))) (hi : (k, 1) ∈ ow := by decide) (hn : k ∉ es := by decide) (ho : ∀ p ∈ ow', p ∈ ow ∧ p.1 ∉ es ++ ei := by decide) (hn2 : k ∉ ei := by decide) (hx : ∀ p ∈ owl.rx, p ∈ ow := by decide) :
    PDS X W ow ow' owl st (fPut k fe fi) := PS.imp h fun D σ H ⟨B, O, L, ρ, S, w, P⟩ => ⟨B, O, L, ρ, S, PostS.bind P S (w.sub hx) fun d v H1 e r P1 => by
  split at P1
  case h_2 => exact P1.elim
  rename_i c hc
  split at P1
  case isFalse => exact P1.elim
  rename_i ht
  obtain ⟨as, hL⟩ := w (k, 1) hi
  obtain ⟨p, o, hs, ha, hb, hp, t⟩ := S.top hL hc ht
  subst ha
  refine ⟨_, hs, B, O, L, ρ, S.ext e, PostS.bind P1 (S.ext e) (w.sub hx) fun a x H2 e2 r2 P2 => ?_⟩
  cases q : putD c a d with
  | none => rw [q] at P2; exact P2.elim
  | some c' =>
    rw [q] at P2
    have S2 := ((S.ext e).ext e2).drop (es ++ ei)
    have hL2 : dropL (es ++ ei) L k = some (1, [p]) := by rw [dropL_no fun z => (List.mem_append.mp z).elim hn hn2]; exact hL
    obtain ⟨p', o', hs', ha', _, hp', t'⟩ := S2.top hL2 hc ht
    rw [hs] at hs'
    cases hs'
    refine put_top hp' t' (drop_mono (fun i h => List.mem_append_right _ h) (Same.refl H2) r2) (drop_mono (fun i h => List.mem_append_left _ h) e2 r) q fun o2 t2 => ?_
    exact P2 σ _ _ (S2.change hL2 hs ⟨_, hc⟩ t2) (w.drop ho)⟩
/-- name op= int -/
def fAug (i : Nat) (f : Int → Int → Int) (fe : Env → R D) : Env → Out := fun ρ =>
  match ρ[i]? with
  | some (some (.int a)) => stE (fe ρ) ρ fun d => (match d with | .int b => .nx (ρ.set i (some (.int (f a b)))) | _ => .stuck)
  | _ => .stuck
theorem pds_aug {i : Nat} {f : Int → Int → Int} (h : PS X st (tAug i (tD X.K W es fe) (ipI f))) (ho : ∀ p ∈ ow', p ∈ ow ∧ p.1 ∉ i :: es := by decide) (hx : ∀ p ∈ owl.rx, p ∈ ow := by decide) : PDS X W ow ow' owl st (fAug i f fe) := PS.imp h fun D σ H ⟨B, O, L, ρ, S, w, P⟩ => by
  have P : PostS X.K B O W ow' owl (match ρ[i]? with | some (some (.int a)) => stE (fe ρ) ρ fun d => (match d with | .int b => .nx (ρ.set i (some (.int (f a b)))) | _ => .stuck) | _ => .stuck) D := P
  split at P
  case h_2 => exact P.elim
  rename_i a ha
  obtain ⟨v, h1, h2⟩ := S.read ha
  obtain rfl : v = .int a := h2
  refine ⟨_, h1, B, O, L, ρ, S, PostS.bind P S (w.sub hx) fun d v H1 e r P1 => ?_⟩
  split at P1
  · rename_i b
    obtain rfl : v = .int b := r
    refine ⟨a, b, rfl, rfl, P1 _ _ _ (((S.ext e).drop es).set (v := .int (f a b)) (d := .int (f a b)) rfl) ?_⟩
    rw [dropL_dropL]
    exact w.drop ho
  · exact P1.elim
end
end DL
set_option Elab.async false
set_option linter.all false
set_option maxRecDepth 100000
namespace DL
open PySem PySem.Spec PyProof.Rows L2

/-! ### short words for the printed terms -/
theorem hu1 {A : Around} {k : Nat} (hr : Room k A) : A.units + 1 < cLine := hu_of hr
theorem hu65 {A : Around} {k : Nat} (hr : Room k A) : A.units + 65 < cLine := by have := hr.un; omega
def fCallN (F : List D → R D) (fa : Env → R (List D)) : Env → R D := fun ρ => (fa ρ).bind F
/-- the module's name x is a def that computes F -/
def Has (P : Program) (w : World) (K : PySem.W.Frag) (mg : Str → Option Value) (base : Heap) (x : Str) (k n : Nat) (F : List D → R D) : Prop :=
  ∃ (f : Addr) (fd : FuncData) (ps : List Str), FnOk P w K mg base (L2.CX P w) k f fd ps (spD K n F) ∧ mg x = some (.ref f) ∧ PySem.W.keepIn K (.ref f) = true ∧ Binds K fd ps []
theorem pd_own {X : Cx} {W : WX} {k j n : Nat} {F : List D → R D} {x : Str} {p pos : Pos} {e : Expr} {es : List Expr} {ea : List Nat} {fa : Env → R (List D)} (C : Has X.prog X.w X.K X.mg X.base x k n F) (tk : Takes X W) (hr : Room j X.A) (hkj : k ≤ j) (hg : Gl X x)
    (ha : PDA X W (e :: es) ea fa) (hn : ∀ ρ l, fa ρ = .ok l → l.length = n) (hdb : (x == ("__debug__" : Str)) = false := by decide) (he : starEach (e :: es) X.env = (false, eval e X.env) :: starEach es X.env := by rfl) (hpl : (backTo pos (starEach es X.env)).any (·.1) = false := by rfl) :
    PD X W (.Call (.Name x p) (e :: es) [] pos) ea (fCallN F fa) := by
  obtain ⟨f, fd, ps, G, hm, hk, hb⟩ := C
  have h := pd_call (p := p) (pos := pos) (dds := []) G tk (hr.mono hkj) hg hm hk hb .nil (fun _ => RepL.nil) ha (fun ρ l q => by rw [List.append_nil]; exact hn ρ l q) hdb he hpl
  have e : fCall F [] fa = fCallN F fa := by
    funext ρ
    show (fa ρ).bind (fun l => F (l ++ [])) = (fa ρ).bind F
    congr 1
    funext l
    rw [List.append_nil]
  rw [e] at h
  exact h
theorem PDB.sub {X : Cx} {W : WX} {ow ow1 ow' : Ow} {owl : Ox} {sts : List Stmt} {f : Env → Out} (h : PDB X W ow1 ow' owl sts f) (s : ∀ p ∈ ow1, p ∈ ow := by decide) : PDB X W ow ow' owl sts f := PSs.imp h fun D σ H ⟨B, O, L, ρ, S, w, P⟩ => ⟨B, O, L, ρ, S, w.sub s, P⟩
section
variable {X : Cx} {W : WX} {ow ow' lo : Ow} {owl : Ox} {st : Stmt} {es ei : List Nat} {fe fi : Env → R D}
/-- name = [..], not owned any more -/
theorem pds_asgFS {i : Nat} (h : PS X st (tAsg (tDF X.K W es fe) (gName i))) (ho : ∀ p ∈ ow', p ∈ ow ∧ p.1 ∉ i :: es := by decide) (hx : ∀ p ∈ owl.rx, p ∈ ow := by decide) : PDS X W ow ow' owl st (fAsg i fe) := PS.imp h fun D σ H ⟨B, O, L, ρ, S, w, P⟩ => ⟨B, O, L, ρ, S, by
  have P : PostS X.K B O W ow' owl (stE (fe ρ) ρ fun d => .nx (ρ.set i (some d))) D := P
  cases q : fe ρ with
  | ok d =>
    rw [q] at P
    intro p o H' hp e ho' t
    have n : ¬ HS O (dropL es L) p := fun z => (S.drop es).hdom p z hp
    refine P _ _ _ (((S.ext e).drop es).set (t.rep (hide_same (fun a z => .inl z) (Same.refl H')) (by rw [hide_no n, ho']))) ?_
    rw [dropL_dropL]
    exact w.drop ho
  | exc x => rw [q] at P; exact fun c dd H' e r => P c dd σ H' L (S.ext e) (w.sub hx) r
  | stuck => rw [q] at P; exact P⟩
/-! truth -/
def truD : D → Option Bool
  | .non => some false
  | .bl b => some b
  | .int i => some (i != 0)
  | .str x => if x.length ≤ sizeLine then some (!x.isEmpty) else none
  | .lst ds => some (!ds.isEmpty)
  | .tup ds => some (!ds.isEmpty)
  | _ => none
def fTru (fe : Env → R D) : Env → R Bool := fun ρ => (fe ρ).bind fun d => R.ofO (truD d)
theorem isEmpty_len {α β : Type} {a : List α} {b : List β} (h : a.length = b.length) : a.isEmpty = b.isEmpty := by
  cases a <;> cases b <;> first | rfl | cases h
theorem pdt_truth {e : Expr} (h : PD X W e es fe) (he : ∀ whole, isTrue e X.env whole = (do let v ← whole; standAt e.pos; holding [v] (truthy v))) : PDT X W e (fTru fe) := PT.imp (pt_truth h he) fun σ H Q ⟨B, O, L, ρ, S, P⟩ => ⟨B, O, L, ρ, S, PostG.bind P fun d v H1 e1 r P1 => by
  obtain ⟨k, hk, P2⟩ := P1.ofO
  refine ⟨k, ?_, P2 k H1 (Same.refl H1) rfl⟩
  have r : Rep X.K (hide (HS O (dropL es L)) H1) v d := r
  unfold truD at hk
  split at hk
  · cases hk
    obtain rfl : v = .non := r
    rfl
  · cases hk
    obtain rfl := (show v = V.bl _ from r)
    rfl
  · cases hk
    obtain rfl := (show v = V.int _ from r)
    rfl
  · split at hk
    case isFalse => cases hk
    rename_i x hz
    cases hk
    obtain ⟨rfl, _⟩ := r
    refine ⟨by rw [mkS_len]; exact hz, ?_⟩
    rw [mkS_len]
    have : ∀ l : List Nat, (!l.isEmpty) = ((l.length : Int) != 0) := fun l => by
      cases l with
      | nil => rfl
      | cons c x =>
        show true = (((c :: x).length : Int) != 0)
        rw [List.length_cons]
        symm
        rw [bne_iff_ne]
        omega
    exact this _
  · cases hk
    obtain ⟨p, vs, rfl, h1, h2⟩ := r
    exact .inl ⟨vs, .inl (hide_rd h1), by rw [isEmpty_len h2.length]⟩
  · cases hk
    obtain ⟨p, vs, rfl, h1, h2⟩ := r
    exact .inr (.inl ⟨vs, SqT.of (hide_some h1).2, by rw [isEmpty_len h2.length]⟩)
  · cases hk⟩
theorem call_strA {X : Cx} : CallR X (.type "str") rStr := call_str_int
/-! sum -/
def intsOf : List D → Option (List Int)
  | [] => some []
  | .int b :: ds => (intsOf ds).map (b :: ·)
  | _ :: _ => none
theorem ints_rep {K : PySem.W.Frag} {G : Hp} : ∀ {vs : List V} {ds : List D} {bs : List Int}, intsOf ds = some bs → RepL K G vs ds → vs = bs.map V.int
  | vs, [], bs, h, r => by
    cases h
    exact r
  | vs, d :: ds, bs, h, ⟨x, xs, h1, h2, h3⟩ => by
    cases d <;> first | (cases h; done) | skip
    obtain ⟨r, b, h⟩ := Option.map_eq_some_iff.mp h
    subst h
    obtain rfl := (show x = _ from h2)
    rw [h1, ints_rep b h3]
    rfl
def gSum : List D → Option D
  | [.lst ds] => (intsOf ds).map fun bs => .int bs.sum
  | _ => none
theorem cd_sum {K : PySem.W.Frag} : CallD K (rSum K) gSum := by
  intro O H xs as d Q hO r hg k
  unfold gSum at hg
  split at hg
  · obtain ⟨bs, hb, hg⟩ := Option.map_eq_some_iff.mp hg
    subst hg
    obtain ⟨x, rfl, p, vs, rfl, h1, h2⟩ := one_rep r
    have e := ints_rep hb h2
    subst e
    exact ⟨p, bs, rfl, .inl (hide_rd h1), k _ H (Same.refl H) rfl⟩
  · cases hg
/-! while: as many turns as a number says -/
def whileL (c : Env → R Bool) (fb : Env → Out) : Nat → Env → Out
  | 0, _ => .stuck
  | n + 1, ρ => stE (c ρ) ρ fun k => if k = true then (match fb ρ with | .nx ρ' => whileL c fb n ρ' | .ct ρ' => whileL c fb n ρ' | .bk ρ' => .nx ρ' | o => o) else .nx ρ
def fWhile (c : Env → R Bool) (fb : Env → Out) : Env → Out := whileL c fb 2000
theorem pds_while {c : Expr} {body : List Stmt} {fc : Env → R Bool} {fb : Env → Out} {pos : Pos} (hp : PassesOwn (model X.prog X.w) X.A X.env X.xe) (hc : PDT X W c fc) (hb : PDB X W lo lo ⟨lo, owl.rx⟩ body fb) (hlo : ∀ p ∈ lo, p ∈ ow := by decide) (how : ∀ p ∈ ow', p ∈ lo := by decide) (hx : ∀ p ∈ owl.rx, p ∈ lo := by decide) :
    PDS X W ow ow' owl (.While c body [] pos) (fWhile fc fb) := PS.imp (ps_while hp hc hb) fun D σ H ⟨B, O, L, ρ, S, w, P⟩ => by
  refine ⟨fun m σ H => ∃ L ρ, SR X.K B O L σ H ρ ∧ OwOk lo L ∧ PostS X.K B O W ow' owl (whileL fc fb m ρ) D, ⟨2000, L, ρ, S, w.sub hlo, P⟩, ?_⟩
  rintro m σ H ⟨L, ρ, S, w, P⟩
  cases m with
  | zero => exact P.elim
  | succ m =>
    refine ⟨B, O, L, ρ, S, PostS.bind P S (w.sub hx) fun k k' H1 e r P1 => ?_⟩
    obtain rfl : k' = k := r
    cases k' with
    | false => exact P1 σ H1 L (S.ext e) (w.sub how)
    | true =>
      rw [if_pos rfl] at P1 ⊢
      refine ⟨fun σ H => ∃ L ρ, SR X.K B O L σ H ρ ∧ OwOk lo L ∧ PostS X.K B O W ow' owl (whileL fc fb m ρ) D, fun σ' H' q => ⟨m, Nat.lt_succ_self m, q⟩, B, O, L, ρ, S.ext e, w, ?_⟩
      cases q : fb ρ with
      | nx ρ2 => rw [q] at P1; exact fun σ4 H4 L4 S4 w4 => ⟨L4, ρ2, S4, w4, P1⟩
      | ct ρ2 => rw [q] at P1; exact fun σ4 H4 L4 S4 w4 => ⟨L4, ρ2, S4, w4, P1⟩
      | bk ρ2 => rw [q] at P1; exact fun σ4 H4 L4 S4 w4 => P1 σ4 H4 L4 S4 (w4.sub how)
      | rt d ρ2 => rw [q] at P1; exact P1
      | exc x ρ2 => rw [q] at P1; exact P1
      | stuck => rw [q] at P1; exact P1
end

/-! ### expressions that change an owned list or dict -/
def PostM (K : PySem.W.Frag) (B : Hp) (O : Ob) (W : WX) (ow : Ow) (L : Lm) (ρ : Env) (r : R (D × Env)) (σ : L2.St) (H : Hp) (Q : VK) : Prop :=
  match r with
  | .ok (d, ρ') => ∀ v H' L', SR K B O L' σ H' ρ' → OwOk ow L' → Rep K (hide (HS O L') H') v d → Q v H'
  | .exc x => ∀ c dd H', Same H H' → RepX K (hide O H') H' c dd x → W c dd σ H'
  | .stuck => False
def tDM (K : PySem.W.Frag) (W : WX) (ow : Ow) (fm : Env → R (D × Env)) : TE := fun σ H Q => ∃ B O L ρ, SR K B O L σ H ρ ∧ OwOk ow L ∧ PostM K B O W ow L ρ (fm ρ) σ H Q
def PDM (X : Cx) (W : WX) (ow : Ow) (e : Expr) (fm : Env → R (D × Env)) : Prop := PE X e (tDM X.K W ow fm)
def stM (r : R (D × Env)) (ρ : Env) (k : D → Env → Out) : Out :=
  match r with
  | .ok (d, ρ') => k d ρ'
  | .exc x => .exc x ρ
  | .stuck => .stuck
section
variable {K : PySem.W.Frag} {B H : Hp} {O : Ob} {W : WX} {ow ow' : Ow} {owl : Ox} {L : Lm} {σ : L2.St} {ρ : Env} {D : Ends}
theorem PostS.bindM {r : R (DL.D × Env)} {k : DL.D → Env → Out} {Q : VK} (P : PostS K B O W ow' owl (stM r ρ k) D) (S : SR K B O L σ H ρ) (w : OwOk owl.rx L)
    (h : ∀ d ρ' v H' L', SR K B O L' σ H' ρ' → OwOk ow L' → Rep K (hide (HS O L') H') v d → PostS K B O W ow' owl (k d ρ') D → Q v H') : PostM K B O W ow L ρ r σ H Q := by
  cases r with
  | ok a => exact fun v H' L' S' w' r' => h a.1 a.2 v H' L' S' w' r' P
  | exc x => exact fun c dd H1 e hr => P c dd σ H1 L (S.ext e) w hr
  | stuck => exact P
end
section
variable {X : Cx} {W : WX} {ow ow' : Ow} {owl : Ox} {st : Stmt} {es : List Nat} {fe : Env → R D} {fm : Env → R (D × Env)}
def fDropM (fm : Env → R (D × Env)) : Env → Out := fun ρ => stM (fm ρ) ρ fun _ ρ' => .nx ρ'
theorem pds_dropM (h : PS X st (tDrop (tDM X.K W ow fm))) (ho : ∀ p ∈ ow', p ∈ ow := by decide) (hx : ∀ p ∈ owl.rx, p ∈ ow := by decide) : PDS X W ow ow' owl st (fDropM fm) := PS.imp h fun D σ H ⟨B, O, L, ρ, S, w, P⟩ => ⟨B, O, L, ρ, S, w, PostS.bindM (ow := ow) P S (w.sub hx) fun d ρ' v H' L' S' w' _ P1 => P1 σ H' L' S' (w'.sub ho)⟩
def fAppM (i : Nat) (fm : Env → R (D × Env)) : Env → Out := fun ρ =>
  match ρ[i]? with
  | some (some (.lst _)) => stM (fm ρ) ρ fun d ρ' => (match ρ'[i]? with | some (some (.lst ds)) => if ds.length < sizeLine then .nx (ρ'.set i (some (.lst (ds ++ [d])))) else .stuck | _ => .stuck)
  | _ => .stuck
theorem top_list {K : PySem.W.Frag} {G : Hp} {o : HO} {ds : List D} (t : Top K G o (.lst ds)) : ∃ vs, o = .lst vs ∧ RepL K G vs ds := by
  cases o <;> first | exact t.elim | exact ⟨_, rfl, t⟩
theorem top_dk {K : PySem.W.Frag} {G : Hp} {o : HO} {ks : List Key} {ds : List D} (t : Top K G o (.dk ks ds)) : ∃ us, o = .dK us ∧ us.map (·.1) = ks ∧ RepL K G (us.map (·.2)) ds := by
  cases o <;> first | exact t.elim | exact ⟨_, rfl, t⟩
theorem pds_appM {i : Nat} (h : PS X st (tDrop (tBM X.K "list" rAppend (tVar i) (tCons (tDM X.K W ow fm) tNil)))) (hi : (i, 1) ∈ ow := by decide) (ho : ∀ p ∈ ow', p ∈ ow := by decide) (hx : ∀ p ∈ owl.rx, p ∈ ow := by decide) : PDS X W ow ow' owl st (fAppM i fm) := PS.imp h fun D σ H ⟨B, O, L, ρ, S, w, P⟩ => by
  have P : PostS X.K B O W ow' owl (match ρ[i]? with | some (some (.lst _)) => stM (fm ρ) ρ fun d ρ' => (match ρ'[i]? with | some (some (.lst ds)) => if ds.length < sizeLine then .nx (ρ'.set i (some (.lst (ds ++ [d])))) else .stuck | _ => .stuck) | _ => .stuck) D := P
  split at P
  case h_2 => exact P.elim
  rename_i ds hd
  obtain ⟨as, hL⟩ := w (i, 1) hi
  obtain ⟨p, o, hs, ha, hb, hp, t⟩ := S.top hL hd rfl
  subst ha
  refine ⟨_, hs, ?_⟩
  obtain ⟨vs, rfl, rv⟩ := top_list t
  refine ⟨.inl ⟨rfl, vs, SqL.of hp⟩, B, O, L, ρ, S, w, PostS.bindM (ow := ow) P S (w.sub hx) fun d ρ' v H' L' S' w' r P1 => ?_⟩
  split at P1
  case h_2 => exact P1.elim
  rename_i ds' hd'
  split at P1
  case isFalse => exact P1.elim
  rename_i hz
  obtain ⟨as', hL'⟩ := w' (i, 1) hi
  obtain ⟨p', o', hs', ha', _, hp', t'⟩ := S'.top hL' hd' rfl
  subst ha'
  rw [hs] at hs'
  cases hs'
  obtain ⟨us, rfl, ru⟩ := top_list t'
  refine ⟨p, us, v, rfl, rfl, hp', by rw [ru.length]; exact hz, ?_⟩
  exact P1 σ _ _ (S'.change (o := .lst (us ++ [v])) (d' := .lst (ds' ++ [d])) hL' hs ⟨_, hd'⟩ (RepL.append ru (.one r))) (w'.sub ho)
/-- x.pop(), x.pop(e) -/
def fPop (i : Nat) : Env → R (D × Env) := fun ρ =>
  match ρ[i]? with
  | some (some (.lst ds)) => (match ds[ds.length - 1]? with | some d => .ok (d, ρ.set i (some (.lst ds.dropLast))) | none => .stuck)
  | _ => .stuck
theorem RepL.dropLast {K : PySem.W.Frag} {G : Hp} {vs : List V} {ds : List D} (r : RepL K G vs ds) : RepL K G vs.dropLast ds.dropLast := by
  rw [List.dropLast_eq_take, List.dropLast_eq_take, r.length]
  exact r.take _
theorem RepL.eraseIdx {K : PySem.W.Frag} {G : Hp} {vs : List V} {ds : List D} (r : RepL K G vs ds) (k : Nat) : RepL K G (vs.eraseIdx k) (ds.eraseIdx k) := by
  rw [List.eraseIdx_eq_take_drop_succ, List.eraseIdx_eq_take_drop_succ]
  exact (r.take _).append (r.drop _)
theorem pdm_pop (i : Nat) {o : Expr} {apos cpos : Pos} (ho : PE X o (tVar i)) (hbase : attributeBase o "pop" X.env (eval o X.env) = eval o X.env := by rfl) (hline : (apos.endLine == cpos.line) = true := by rfl) (hi : (i, 1) ∈ ow := by decide) :
    PDM X W ow (.Call (.Attribute o "pop" apos) [] [] cpos) (fPop i) := PE.imp (pe_bm0 PySem.F.plainAttrs_list PySem.F.slot_list_pop PySem.F.type_list_pop mt_pop ho hbase hline) fun σ H Q ⟨B, O, L, ρ, S, w, P⟩ => by
  have P : PostM X.K B O W ow L ρ (match ρ[i]? with | some (some (.lst ds)) => (match ds[ds.length - 1]? with | some d => .ok (d, ρ.set i (some (.lst ds.dropLast))) | none => .stuck) | _ => .stuck) σ H Q := P
  split at P
  case h_2 => exact P.elim
  rename_i ds hd
  split at P
  case h_2 => exact P.elim
  rename_i d hdl
  obtain ⟨as, hL⟩ := w (i, 1) hi
  obtain ⟨p, o, hs, ha, hb, hp, t⟩ := S.top hL hd rfl
  subst ha
  obtain ⟨vs, rfl, rv⟩ := top_list t
  obtain ⟨v, hv, r⟩ := rv.get hdl
  refine ⟨_, hs, .inl ⟨rfl, vs, SqL.of hp⟩, p, vs, v, rfl, rfl, hp, by rw [rv.length]; exact hv, ?_⟩
  have S2 := S.change (o := .lst vs.dropLast) (d' := .lst ds.dropLast) hL hs ⟨_, hd⟩ rv.dropLast
  refine P v _ L S2 w (r.mono (hide_mono (fun _ z => z) fun a u n e => ?_))
  rw [upd_ne (fun z => n (.inr ⟨i, 1, [p], hL, by rw [z]; exact List.mem_cons_self⟩))]
  exact e
def popAtK (i : Nat) (ρ : Env) (ds : List D) : D → R (D × Env)
  | .int j => if 0 ≤ j ∧ j < 2 ^ 62 then (match ds[j.toNat]? with | some d => .ok (d, ρ.set i (some (.lst (ds.eraseIdx j.toNat)))) | none => .stuck) else .stuck
  | _ => .stuck
def fPopAt (i : Nat) (fe : Env → R D) : Env → R (D × Env) := fun ρ =>
  match ρ[i]? with
  | some (some (.lst ds)) => (fe ρ).bind (popAtK i ρ ds)
  | _ => .stuck
theorem pdm_popAt (i : Nat) {o e : Expr} {apos cpos : Pos} (ho : PE X o (tVar i)) (he : PD X W e es fe) (hbase : attributeBase o "pop" X.env (eval o X.env) = eval o X.env := by rfl)
    (hfew : ((backTo cpos (starEach [e] X.env)).all (fun x => !x.1) && (backToKw cpos (keywordEach [] X.env)).all (fun x => x.1.isSome)
      && decide (([e] : List Expr).length + ([] : List Keyword).length + (if ([] : List Keyword).isEmpty then 0 else 1) < 30)) = true := by rfl)
    (hline : (apos.endLine == cpos.line) = true := by rfl) (hs : starEach [e] X.env = (false, eval e X.env) :: starEach [] X.env := by rfl) (hplain : (backTo cpos (starEach [] X.env)).any (·.1) = false := by rfl) (hi : (i, 1) ∈ ow := by decide) :
    PDM X W ow (.Call (.Attribute o "pop" apos) [e] [] cpos) (fPopAt i fe) := PE.imp (pe_bm PySem.F.plainAttrs_list PySem.F.slot_list_pop PySem.F.type_list_pop mt_popAt ho (pa_cons he pa_nil hs) hbase hfew hline hs hplain) fun σ H Q ⟨B, O, L, ρ, S, w, P⟩ => by
  have P : PostM X.K B O W ow L ρ (match ρ[i]? with | some (some (.lst ds)) => (fe ρ).bind (popAtK i ρ ds) | _ => .stuck) σ H Q := P
  split at P
  case h_2 => exact P.elim
  rename_i ds hd
  obtain ⟨as, hL⟩ := w (i, 1) hi
  obtain ⟨p, o, hs, ha, hb, hp, t⟩ := S.top hL hd rfl
  subst ha
  obtain ⟨vs, rfl, rv⟩ := top_list t
  refine ⟨_, hs, .inl ⟨rfl, vs, SqL.of hp⟩, B, O, L, ρ, S, ?_⟩
  cases q : fe ρ with
  | stuck => rw [q] at P; exact P
  | exc x => rw [q] at P; exact P
  | ok a =>
    rw [q] at P
    intro x H1 e1 r1
    have P : PostM X.K B O W ow L ρ (popAtK i ρ ds a) σ H Q := P
    obtain ⟨j, rfl⟩ : ∃ j, a = .int j := by
      cases a <;> first | exact P.elim | exact ⟨_, rfl⟩
    have P : PostM X.K B O W ow L ρ (if 0 ≤ j ∧ j < 2 ^ 62 then (match ds[j.toNat]? with | some d => .ok (d, ρ.set i (some (.lst (ds.eraseIdx j.toNat)))) | none => .stuck) else .stuck) σ H Q := P
    split at P
    case isFalse => exact P.elim
    rename_i hj
    split at P
    case h_2 => exact P.elim
    rename_i d hdl
    have e2 : x = V.int j := r1
    subst e2
    have S1 := S.ext e1
    obtain ⟨p', o', hs', ha', _, hp', t'⟩ := S1.top hL hd rfl
    rw [hs] at hs'
    cases hs'
    obtain ⟨us, rfl, ru⟩ := top_list t'
    obtain ⟨v, hv, r⟩ := ru.get hdl
    have hlt := (List.getElem?_eq_some_iff.mp hv).1
    refine ⟨p, us, j, j.toNat, v, rfl, rfl, hp', by omega, by omega, seqIndex_of hj.1 (by omega), hv, ?_⟩
    have S2 := S1.change (o := .lst (us.eraseIdx j.toNat)) (d' := .lst (ds.eraseIdx j.toNat)) hL hs ⟨_, hd⟩ (ru.eraseIdx _)
    refine P v _ L S2 w (r.mono (hide_mono (fun _ z => z) fun a u n e => ?_))
    rw [upd_ne (fun z => n (.inr ⟨i, 1, [p], hL, by rw [z]; exact List.mem_cons_self⟩))]
    exact e
/-- d.pop(k): k is there -/
def dropKD : List Key → List D → Key → List Key × List D
  | k :: ks, d :: ds, x => let r := dropKD ks ds x; if k = x then r else (k :: r.1, d :: r.2)
  | _, _, _ => ([], [])
theorem drop_rel {K : PySem.W.Frag} {G : Hp} {x : Key} : ∀ {us : List (Key × V)} {ds : List D}, RepL K G (us.map (·.2)) ds → (dropK us x).map (·.1) = (dropKD (us.map (·.1)) ds x).1 ∧ RepL K G ((dropK us x).map (·.2)) (dropKD (us.map (·.1)) ds x).2
  | [], [], _ => ⟨rfl, rfl⟩
  | [], _ :: _, ⟨_, _, h, _⟩ => by cases h
  | _ :: _, [], h => by
    have h : _ = [] := h
    cases h
  | (k, u) :: us, e :: ds, ⟨y, ys, h1, h2, h3⟩ => by
    cases h1
    have ih := drop_rel (x := x) h3
    show (List.filter _ _).map _ = (let r := dropKD (us.map (·.1)) ds x; if k = x then r else (k :: r.1, e :: r.2)).1 ∧ RepL K G ((List.filter _ _).map _) (let r := dropKD (us.map (·.1)) ds x; if k = x then r else (k :: r.1, e :: r.2)).2
    unfold dropK at ih
    by_cases c : k = x
    · rw [List.filter_cons_of_neg (by simp [c])]
      dsimp only
      rw [if_pos c]
      exact ih
    · rw [List.filter_cons_of_pos (by simp [c])]
      dsimp only
      rw [if_neg c]
      exact ⟨by rw [List.map_cons, ih.1], u, _, rfl, h2, ih.2⟩
def fDPop (i : Nat) (fe : Env → R D) : Env → R (D × Env) := fun ρ =>
  match ρ[i]? with
  | some (some (.dk ks vs)) => (fe ρ).bind fun a => (match keyOf a with | some k => (match lookD ks vs k with | some d => let r := dropKD ks vs k; .ok (d, ρ.set i (some (.dk r.1 r.2))) | none => .stuck) | none => .stuck)
  | _ => .stuck
theorem pdm_dpop (i : Nat) {o e : Expr} {apos cpos : Pos} (ho : PE X o (tVar i)) (he : PD X W e es fe) (m : M1 X o "pop" apos e cpos := by first | exact ⟨rfl, rfl, rfl, rfl⟩ | constructor <;> rfl) (hi : (i, 1) ∈ ow := by decide) :
    PDM X W ow (.Call (.Attribute o "pop" apos) [e] [] cpos) (fDPop i fe) := PE.imp (pe_dpop1 ho he m) fun σ H Q ⟨B, O, L, ρ, S, w, P⟩ => by
  have P : PostM X.K B O W ow L ρ (match ρ[i]? with | some (some (.dk ks vs)) => (fe ρ).bind fun a => (match keyOf a with | some k => (match lookD ks vs k with | some d => let r := dropKD ks vs k; .ok (d, ρ.set i (some (.dk r.1 r.2))) | none => .stuck) | none => .stuck) | _ => .stuck) σ H Q := P
  split at P
  case h_2 => exact P.elim
  rename_i ks vs hd
  obtain ⟨as, hL⟩ := w (i, 1) hi
  obtain ⟨p, o, hs, ha, hb, hp, t⟩ := S.top hL hd rfl
  subst ha
  obtain ⟨us, rfl, rk, rv⟩ := top_dk t
  refine ⟨_, hs, p, rfl, .inl ⟨us, .inl hp⟩, B, O, L, ρ, S, ?_⟩
  cases q : fe ρ with
  | stuck => rw [q] at P; exact P
  | exc x => rw [q] at P; exact P
  | ok a =>
    rw [q] at P
    intro x H1 e1 r1
    have P : PostM X.K B O W ow L ρ (match keyOf a with | some k => (match lookD ks vs k with | some d => let r := dropKD ks vs k; .ok (d, ρ.set i (some (.dk r.1 r.2))) | none => .stuck) | none => .stuck) σ H Q := P
    split at P
    case h_2 => exact P.elim
    rename_i k hk
    split at P
    case h_2 => exact P.elim
    rename_i d hdl
    have S1 := S.ext e1
    obtain ⟨p', o', hs', ha', _, hp', t'⟩ := S1.top hL hd rfl
    rw [hs] at hs'
    cases hs'
    obtain ⟨us', rfl, rk', rv'⟩ := top_dk t'
    subst rk'
    have lr := look_rel k rv'
    rw [hdl] at lr
    cases hv : valV us' k with
    | none => rw [hv] at lr; exact lr.elim
    | some v =>
      rw [hv] at lr
      refine ⟨us', k, v, hp', key_rep hk r1, hv, ?_⟩
      have S2 := S1.change (o := .dK (dropK us' k)) (d' := .dk (dropKD (us'.map fun (p : Key × V) => p.1) vs k).1 (dropKD (us'.map fun (p : Key × V) => p.1) vs k).2) hL hs ⟨_, hd⟩ (drop_rel rv')
      refine P v _ L S2 w (Rep.mono (hide_mono (fun _ z => z) fun a u n e => ?_) lr)
      rw [upd_ne (fun z => n (.inr ⟨i, 1, [p], hL, by rw [z]; exact List.mem_cons_self⟩))]
      exact e
end
end DL
set_option Elab.async false
set_option linter.all false
set_option maxRecDepth 100000
namespace DL
open PySem L2

/-! ### how the functions are computed: equations for simp -/
@[simp] theorem s_bind_ok {α β : Type} {a : α} {f : α → R β} : (R.ok a).bind f = f a := Eq.trans rfl rfl
@[simp] theorem s_bind_exc {α β : Type} {x : XN} {f : α → R β} : (R.exc x : R α).bind f = .exc x := Eq.trans rfl rfl
@[simp] theorem s_bind_stuck {α β : Type} {f : α → R β} : (R.stuck : R α).bind f = .stuck := Eq.trans rfl rfl
@[simp] theorem s_ofO_some {α : Type} {a : α} : R.ofO (some a) = .ok a := Eq.trans rfl rfl
@[simp] theorem s_ofO_none {α : Type} : R.ofO (none : Option α) = .stuck := Eq.trans rfl rfl
@[simp] theorem s_toO_ok {α : Type} {a : α} : (R.ok a).toO = some a := Eq.trans rfl rfl
@[simp] theorem s_toO_exc {α : Type} {x : XN} : (R.exc x : R α).toO = none := Eq.trans rfl rfl
@[simp] theorem s_toO_stuck {α : Type} : (R.stuck : R α).toO = none := Eq.trans rfl rfl
@[simp] theorem s_stE_ok {α : Type} {a : α} {ρ : Env} {k : α → Out} : stE (.ok a) ρ k = k a := Eq.trans rfl rfl
@[simp] theorem s_stE_exc {α : Type} {x : XN} {ρ : Env} {k : α → Out} : stE (.exc x : R α) ρ k = .exc x ρ := Eq.trans rfl rfl
@[simp] theorem s_stE_stuck {α : Type} {ρ : Env} {k : α → Out} : stE (.stuck : R α) ρ k = .stuck := Eq.trans rfl rfl
@[simp] theorem s_stM_ok {d : D} {ρ ρ' : Env} {k : D → Env → Out} : stM (.ok (d, ρ')) ρ k = k d ρ' := Eq.trans rfl rfl
@[simp] theorem s_stM_exc {x : XN} {ρ : Env} {k : D → Env → Out} : stM (.exc x) ρ k = .exc x ρ := Eq.trans rfl rfl
@[simp] theorem s_stM_stuck {ρ : Env} {k : D → Env → Out} : stM .stuck ρ k = .stuck := Eq.trans rfl rfl
@[simp] theorem s_getE0 {d : D} {ρ : Env} : getE (some d :: ρ) 0 = .ok d := Eq.trans rfl rfl
@[simp] theorem s_getES {o : Option D} {ρ : Env} {i : Nat} : getE (o :: ρ) (i + 1) = getE ρ i := Eq.trans rfl rfl
@[simp] theorem s_fNil {ρ : Env} : fNil ρ = .ok [] := Eq.trans rfl rfl
@[simp] theorem s_fCons {fa : Env → R D} {fs : Env → R (List D)} {ρ : Env} : fCons fa fs ρ = (fa ρ).bind fun a => (fs ρ).bind fun l => .ok (a :: l) := Eq.trans rfl rfl
@[simp] theorem s_fOp {g : D → D → Option D} {fa fb : Env → R D} {ρ : Env} : fOp g fa fb ρ = (fa ρ).bind fun a => (fb ρ).bind fun b => R.ofO (g a b) := Eq.trans rfl rfl
@[simp] theorem s_fUn {g : D → Option D} {fa : Env → R D} {ρ : Env} : fUn g fa ρ = (fa ρ).bind fun a => R.ofO (g a) := Eq.trans rfl rfl
@[simp] theorem s_fCB {g : List D → Option D} {fa : Env → R (List D)} {ρ : Env} : fCB g fa ρ = (fa ρ).bind fun l => R.ofO (g l) := Eq.trans rfl rfl
@[simp] theorem s_fCallN {F : List D → R D} {fa : Env → R (List D)} {ρ : Env} : fCallN F fa ρ = (fa ρ).bind F := Eq.trans rfl rfl
@[simp] theorem s_fB {fe : Env → R D} {ρ : Env} : fB fe ρ = (fe ρ).bind asB := Eq.trans rfl rfl
@[simp] theorem s_asB {b : Bool} : asB (.bl b) = .ok b := Eq.trans rfl rfl
@[simp] theorem s_fTru {fe : Env → R D} {ρ : Env} : fTru fe ρ = (fe ρ).bind fun d => R.ofO (truD d) := Eq.trans rfl rfl
@[simp] theorem s_fAnd {fa fb : Env → R Bool} {ρ : Env} : fAnd fa fb ρ = (fa ρ).bind fun a => if a = true then fb ρ else .ok false := Eq.trans rfl rfl
@[simp] theorem s_fOr {fa fb : Env → R Bool} {ρ : Env} : fOr fa fb ρ = (fa ρ).bind fun a => if a = true then .ok true else fb ρ := Eq.trans rfl rfl
@[simp] theorem s_fNot {fa : Env → R Bool} {ρ : Env} : fNot fa ρ = (fa ρ).bind fun a => .ok (!a) := Eq.trans rfl rfl
@[simp] theorem s_fAndV {fa fb : Env → R D} {ρ : Env} : fAndV fa fb ρ = (fa ρ).bind fun a => (asB a).bind fun k => if k = true then fb ρ else .ok (.bl false) := Eq.trans rfl rfl
@[simp] theorem s_fOrV {fa fb : Env → R D} {ρ : Env} : fOrV fa fb ρ = (fa ρ).bind fun a => (asB a).bind fun k => if k = true then .ok (.bl true) else fb ρ := Eq.trans rfl rfl
@[simp] theorem s_fNotV {fa : Env → R D} {ρ : Env} : fNotV fa ρ = (fa ρ).bind fun a => (asB a).bind fun k => .ok (.bl (!k)) := Eq.trans rfl rfl
@[simp] theorem s_fIfE {t : Env → R Bool} {fa fb : Env → R D} {ρ : Env} : fIfE t fa fb ρ = (t ρ).bind fun k => if k = true then fa ρ else fb ρ := Eq.trans rfl rfl
@[simp] theorem s_fTup {fs : Env → R (List D)} {ρ : Env} : fTup fs ρ = (fs ρ).bind fun l => lenOk l (.ok (.tup l)) := Eq.trans rfl rfl
@[simp] theorem s_fLst {fs : Env → R (List D)} {ρ : Env} : fLst fs ρ = (fs ρ).bind fun l => lenOk l (.ok (.lst l)) := Eq.trans rfl rfl
theorem lenOk_le {α : Type} {l : List α} {r : R D} (h : l.length ≤ sizeLine) : lenOk l r = r := if_pos h
@[simp] theorem s_lenOk0 {α : Type} {r : R D} : lenOk ([] : List α) r = r := lenOk_le (Nat.zero_le _)
@[simp] theorem s_lenOk1 {α : Type} {a : α} {r : R D} : lenOk [a] r = r := lenOk_le (by rw [sizeLine_eq]; simp only [List.length_cons, List.length_nil]; decide)
@[simp] theorem s_lenOk2 {α : Type} {a b : α} {r : R D} : lenOk [a, b] r = r := lenOk_le (by rw [sizeLine_eq]; simp only [List.length_cons, List.length_nil]; decide)
@[simp] theorem s_lenOk3 {α : Type} {a b c : α} {r : R D} : lenOk [a, b, c] r = r := lenOk_le (by rw [sizeLine_eq]; simp only [List.length_cons, List.length_nil]; decide)
@[simp] theorem s_lenOk4 {α : Type} {a b c d : α} {r : R D} : lenOk [a, b, c, d] r = r := lenOk_le (by rw [sizeLine_eq]; simp only [List.length_cons, List.length_nil]; decide)
@[simp] theorem s_scalR_ok {d : D} : scalR (.ok d) = if isS d = true then .ok d else .stuck := Eq.trans rfl rfl
@[simp] theorem s_scalR_stuck : scalR .stuck = .stuck := Eq.trans rfl rfl
@[simp] theorem s_isS_int {i : Int} : isS (.int i) = true := Eq.trans rfl rfl
@[simp] theorem s_isS_bl {i : Bool} : isS (.bl i) = true := Eq.trans rfl rfl
@[simp] theorem s_isS_str {i : List Nat} : isS (.str i) = true := Eq.trans rfl rfl
@[simp] theorem s_isS_non : isS .non = true := Eq.trans rfl rfl
@[simp] theorem s_isS_cl {C : Addr} : isS (.cl C) = true := Eq.trans rfl rfl
@[simp] theorem s_fSeq {f g : Env → Out} {ρ : Env} : fSeq f g ρ = match f ρ with | .nx ρ' => g ρ' | o => o := Eq.trans rfl rfl
@[simp] theorem s_fNext {ρ : Env} : fNext ρ = .nx ρ := Eq.trans rfl rfl
@[simp] theorem s_fAsg {i : Nat} {fe : Env → R D} {ρ : Env} : fAsg i fe ρ = stE (fe ρ) ρ fun d => .nx (ρ.set i (some d)) := Eq.trans rfl rfl
@[simp] theorem s_fAsgF {i : Nat} {fe : Env → R D} {ρ : Env} : fAsgF i fe ρ = if i < ρ.length then stE (fe ρ) ρ fun d => .nx (ρ.set i (some d)) else .stuck := Eq.trans rfl rfl
@[simp] theorem s_fRet {fe : Env → R D} {ρ : Env} : fRet fe ρ = stE (fe ρ) ρ fun d => .rt d ρ := Eq.trans rfl rfl
@[simp] theorem s_fRetN {ρ : Env} : fRetN ρ = .rt .non ρ := Eq.trans rfl rfl
@[simp] theorem s_fDrop {fe : Env → R D} {ρ : Env} : fDrop fe ρ = stE (fe ρ) ρ fun _ => .nx ρ := Eq.trans rfl rfl
@[simp] theorem s_fDropM {fe : Env → R (D × Env)} {ρ : Env} : fDropM fe ρ = stM (fe ρ) ρ fun _ ρ' => .nx ρ' := Eq.trans rfl rfl
@[simp] theorem s_fIf {c : Env → R Bool} {f g : Env → Out} {ρ : Env} : fIf c f g ρ = stE (c ρ) ρ fun b => if b = true then f ρ else g ρ := Eq.trans rfl rfl
@[simp] theorem s_fFor {fi : Env → R (List D)} {ft : D → Env → Option Env} {fb : Env → Out} {ρ : Env} : fFor fi ft fb ρ = stE (fi ρ) ρ fun ds => forL ft fb ds ρ := Eq.trans rfl rfl
@[simp] theorem s_forL_nil {ft : D → Env → Option Env} {fb : Env → Out} {ρ : Env} : forL ft fb [] ρ = .nx ρ := Eq.trans rfl rfl
theorem forL_cons {ft : D → Env → Option Env} {fb : Env → Out} {ρ : Env} {d : D} {ds : List D} : forL ft fb (d :: ds) ρ = match ft d ρ with
    | none => .stuck
    | some ρ1 => match fb ρ1 with
      | .nx ρ2 => forL ft fb ds ρ2
      | .ct ρ2 => forL ft fb ds ρ2
      | .bk ρ2 => .nx ρ2
      | o => o := rfl
@[simp] theorem s_gtName {i : Nat} {d : D} {ρ : Env} : gtName i d ρ = some (ρ.set i (some d)) := Eq.trans rfl rfl
@[simp] theorem s_gtPair {i j : Nat} {a b : D} {ρ : Env} : gtPair i j (.tup [a, b]) ρ = some ((ρ.set i (some a)).set j (some b)) := Eq.trans rfl rfl
@[simp] theorem s_fIter {fe : Env → R D} {ρ : Env} : fIter fe ρ = (fe ρ).bind fun d => R.ofO (gIter d) := Eq.trans rfl rfl
@[simp] theorem s_fRng {fa : Env → R (List D)} {ρ : Env} : fRng fa ρ = (fa ρ).bind fun l => R.ofO (gRng l) := Eq.trans rfl rfl
@[simp] theorem s_fEnum {fa : Env → R (List D)} {ρ : Env} : fEnum fa ρ = (fa ρ).bind fun l => R.ofO (gEnum l) := Eq.trans rfl rfl
@[simp] theorem s_fLRng {fe : Env → R D} {ρ : Env} : fLRng fe ρ = (fe ρ).bind fun d => R.ofO (gLRng d) := Eq.trans rfl rfl
@[simp] theorem s_gIter_lst {ds : List D} : gIter (.lst ds) = some ds := Eq.trans rfl rfl
@[simp] theorem s_gIter_tup {ds : List D} : gIter (.tup ds) = some ds := Eq.trans rfl rfl
@[simp] theorem s_gIter_str {z : List Nat} : gIter (.str z) = some (z.map fun c => .str [c]) := Eq.trans rfl rfl
@[simp] theorem s_gIter_scr {ds : List Int} : gIter (.scr ds) = some (ds.map .int) := Eq.trans rfl rfl
@[simp] theorem s_fLc {fi : Env → R (List D)} {ft : D → Env → Option Env} {tt : Env → R Bool} {fe : Env → R D} {vs : List Nat} {ρ : Env} : fLc fi ft tt fe vs ρ = (fi ρ).bind fun ds => (R.ofO (compL ft tt fe (wipeE ρ vs) ds)).bind fun ys => lenOk ys (.ok (.lst ys)) := Eq.trans rfl rfl
@[simp] theorem s_wipe0 {ρ : Env} : wipeE ρ [] = ρ := Eq.trans rfl rfl
@[simp] theorem s_wipeS {ρ : Env} {v : Nat} {vs : List Nat} : wipeE ρ (v :: vs) = (wipeE ρ vs).set v none := Eq.trans rfl rfl
@[simp] theorem s_fYes {ρ : Env} : fYes ρ = .ok true := Eq.trans rfl rfl
@[simp] theorem s_foNone {ρ : Env} : foNone ρ = .ok none := Eq.trans rfl rfl
@[simp] theorem s_foSome {fe : Env → R D} {ρ : Env} : foSome fe ρ = (fe ρ).bind fun d => match d with | .int i => .ok (some i) | _ => .stuck := Eq.trans rfl rfl
@[simp] theorem s_fSl {fe : Env → R D} {fl fh : Env → R (Option Int)} {ρ : Env} : fSl fe fl fh ρ = (fe ρ).bind fun d => (fl ρ).bind fun l => (fh ρ).bind fun h => R.ofO (gSl l h d) := Eq.trans rfl rfl
/-! operators on what is known -/
@[simp] theorem s_add_int {a b : Int} : gAdd (.int a) (.int b) = some (.int (a + b)) := Eq.trans rfl rfl
theorem add_str {a b : List Nat} (h : a.length + b.length ≤ sizeLine) : gAdd (.str a) (.str b) = some (.str (a ++ b)) := if_pos h
theorem add_lst {a b : List D} (h : a.length + b.length ≤ sizeLine) : gAdd (.lst a) (.lst b) = some (.lst (a ++ b)) := if_pos h
theorem add_tup {a b : List D} (h : a.length + b.length ≤ sizeLine) : gAdd (.tup a) (.tup b) = some (.tup (a ++ b)) := if_pos h
@[simp] theorem s_minus {a b : Int} : gMinus (.int a) (.int b) = some (.int (a - b)) := Eq.trans rfl rfl
theorem mul_int {a b : Int} (h : (-(2 ^ 64) < a ∧ a < 2 ^ 64) ∨ (-(2 ^ 64) < b ∧ b < 2 ^ 64)) : gMul (.int a) (.int b) = some (.int (a * b)) := if_pos h
theorem div_int {a b : Int} (h : 0 < b ∧ b < 1073741824) : gDiv (.int a) (.int b) = some (.int (a / b)) := if_pos h
theorem mod_int {a b : Int} (h : 0 < b) : gMod (.int a) (.int b) = some (.int (a % b)) := if_pos h
theorem pow_int {a b : Int} (h : 0 ≤ b ∧ b ≤ 1000000 ∧ a.natAbs < 2 ^ 64) : gPow (.int a) (.int b) = some (.int (a ^ b.toNat)) := if_pos h
@[simp] theorem s_cmpI {p : Int → Int → Bool} {a b : Int} : gCmpI p (.int a) (.int b) = some (.bl (p a b)) := Eq.trans rfl rfl
@[simp] theorem s_neg {a : Int} : gNeg (.int a) = some (.int (-a)) := Eq.trans rfl rfl
@[simp] theorem s_len_lst {ds : List D} : gLen [.lst ds] = some (.int ds.length) := Eq.trans rfl rfl
@[simp] theorem s_len_tup {ds : List D} : gLen [.tup ds] = some (.int ds.length) := Eq.trans rfl rfl
@[simp] theorem s_len_scr {ds : List Int} : gLen [.scr ds] = some (.int ds.length) := Eq.trans rfl rfl
theorem len_str {x : List Nat} (h : x.length ≤ sizeLine) : gLen [.str x] = some (.int x.length) := if_pos h
@[simp] theorem s_int_int {i : Int} : gInt [.int i] = some (.int i) := Eq.trans rfl rfl
@[simp] theorem s_int_bl {i : Bool} : gInt [.bl i] = some (.int (if i then 1 else 0)) := Eq.trans rfl rfl
theorem int_dig {c : Nat} (h : 48 ≤ c ∧ c ≤ 57) : gInt [.str [c]] = some (.int ((c : Int) - 48)) := if_pos h
theorem str_dig {i : Int} (h : 0 ≤ i ∧ i ≤ 9) : gStr [.int i] = some (.str [(i + 48).toNat]) := if_pos h
@[simp] theorem s_list_lst {ds : List D} : gList [.lst ds] = some (.lst ds) := Eq.trans rfl rfl
@[simp] theorem s_list_tup {ds : List D} : gList [.tup ds] = some (.lst ds) := Eq.trans rfl rfl
@[simp] theorem s_tuple_lst {ds : List D} : gTuple [.lst ds] = some (.tup ds) := Eq.trans rfl rfl
@[simp] theorem s_tuple_tup {ds : List D} : gTuple [.tup ds] = some (.tup ds) := Eq.trans rfl rfl
@[simp] theorem s_ix_lst {ds : List D} {i : Int} : gIx (.lst ds) (.int i) = atI ds i := Eq.trans rfl rfl
@[simp] theorem s_ix_tup {ds : List D} {i : Int} : gIx (.tup ds) (.int i) = atI ds i := Eq.trans rfl rfl
@[simp] theorem s_ix_scr {ns : List Int} {i : Int} : gIx (.scr ns) (.int i) = (atI ns i).map .int := Eq.trans rfl rfl
theorem ix_str {x : List Nat} {i : Int} (h : x.length ≤ sizeLine) : gIx (.str x) (.int i) = (atI x i).map fun c => .str [c] := if_pos h
theorem atI_get? {α : Type} {xs : List α} {i : Int} (h : 0 ≤ i) : atI xs i = xs[i.toNat]? := by
  unfold atI ixN
  rw [if_pos h]
  by_cases h2 : i < xs.length
  · rw [if_pos h2]
    rfl
  · rw [if_neg h2, List.getElem?_eq_none (by omega)]
    rfl
@[simp] theorem s_sl_lst {ds : List D} {l h : Option Int} : gSl l h (.lst ds) = some (.lst (cutG ds l h)) := Eq.trans rfl rfl
@[simp] theorem s_sl_tup {ds : List D} {l h : Option Int} : gSl l h (.tup ds) = some (.tup (cutG ds l h)) := Eq.trans rfl rfl
theorem sl_str {x : List Nat} {l h : Option Int} (hx : x.length ≤ sizeLine) : gSl l h (.str x) = some (.str (cutG x l h)) := if_pos hx
theorem rng1 {j : Int} (h : -(2 ^ 62) ≤ j ∧ j < 2 ^ 62) : gRng [.int j] = some ((List.range j.toNat).map fun (i : Nat) => .int ((0 : Int) + i)) := if_pos h
theorem rng2 {i j : Int} (h : -(2 ^ 62) ≤ i ∧ i < 2 ^ 62 ∧ -(2 ^ 62) ≤ j ∧ j < 2 ^ 62) : gRng [.int i, .int j] = some ((List.range (j - i).toNat).map fun (n : Nat) => .int (i + n)) := if_pos h
theorem size_eq : (sizeLine : Nat) = 16777216 := sizeLine_eq
end DL
set_option Elab.async false
set_option linter.all false
set_option maxRecDepth 100000
namespace DL
open PySem L2

/-! ### several dicts are locked at once -/
abbrev Lks := List (Addr × HO)
def unl (l : Lks) (H : Hp) : Hp := fun a =>
  match l.lookup a with
  | some u => some u
  | none => H a
theorem unl_nil {H : Hp} : unl [] H = H := rfl
theorem unl_cons {p : Addr × HO} {l : Lks} {H : Hp} (n : p.1 ∉ l.map (·.1)) : unl (p :: l) H = upd (unl l H) p.1 p.2 := by
  funext a
  unfold unl upd
  obtain ⟨b, u⟩ := p
  by_cases e : a = b
  · subst e
    rw [if_pos rfl]
    simp [List.lookup]
  · have e' : (a == b) = false := by simpa using e
    rw [if_neg e]
    simp only [List.lookup, e']
theorem unl_out {l : Lks} {H : Hp} {a : Addr} (n : a ∉ l.map (·.1)) : unl l H a = H a := by
  induction l with
  | nil => rfl
  | cons p l ih =>
    obtain ⟨b, u⟩ := p
    have hb : a ≠ b := fun e => n (by rw [e]; exact List.mem_cons_self)
    have e' : (a == b) = false := by simpa using hb
    unfold unl
    simp only [List.lookup, e']
    exact ih fun z => n (List.mem_cons_of_mem _ z)
theorem unl_in {l : Lks} {H : Hp} {p : Addr × HO} (nd : (l.map (·.1)).Nodup) (h : p ∈ l) : unl l H p.1 = some p.2 := by
  induction l with
  | nil => cases h
  | cons q l ih =>
    rw [List.map_cons, List.nodup_cons] at nd
    rw [unl_cons nd.1]
    rcases List.mem_cons.mp h with e | h
    · rw [e]
      exact upd_same
    · rw [upd_ne fun z => nd.1 (by rw [← z]; exact List.mem_map_of_mem (f := fun q => q.1) h)]
      exact ih nd.2 h
/-- H' is H with these locked -/
structure LkTo (l : Lks) (H H' : Hp) : Prop where
  on : ∀ p ∈ l, ∃ od, H' p.1 = some (.frz od p.2)
  off : ∀ a, a ∉ l.map (·.1) → H' a = H a
structure LkOk (l : Lks) (H : Hp) : Prop where
  nd : (l.map (·.1)).Nodup
  at_ : ∀ p ∈ l, H p.1 = some p.2 ∧ Mut (some p.2)
section
variable {X : Cx} {pins : List (Addr × Obj)} {σ : St} {H : Hp} {s : Shared}
theorem lockN (I : Inv X pins σ H s) : ∀ l : Lks, LkOk l H → ∃ H', Inv X pins σ H' s ∧ LkTo l H H'
  | [], _ => ⟨H, I, ⟨fun _ h => (List.not_mem_nil h).elim, fun _ _ => rfl⟩⟩
  | (d, u) :: l, ⟨nd, hat⟩ => by
    rw [List.map_cons, List.nodup_cons] at nd
    obtain ⟨H1, I1, k⟩ := lockN I l ⟨nd.2, fun p h => hat p (List.mem_cons_of_mem _ h)⟩
    obtain ⟨e, m⟩ := hat (d, u) List.mem_cons_self
    have e1 : H1 d = some u := (k.off d nd.1).trans e
    obtain ⟨od, I2⟩ := I1.lock e1 m
    refine ⟨_, I2, ⟨fun p h => ?_, fun a n => ?_⟩⟩
    · rcases List.mem_cons.mp h with q | h
      · rw [q]
        exact ⟨od, upd_same⟩
      · obtain ⟨o, z⟩ := k.on p h
        exact ⟨o, by rw [upd_ne fun y => nd.1 (by rw [← y]; exact List.mem_map_of_mem (f := fun q => q.1) h)]; exact z⟩
    · rw [upd_ne fun y => n (by rw [y]; exact List.mem_cons_self)]
      exact k.off a fun z => n (List.mem_cons_of_mem _ z)
theorem unlockN (I : Inv X pins σ H s) : ∀ l : Lks, (l.map (·.1)).Nodup → (∀ p ∈ l, ∃ od, H p.1 = some (.frz od p.2)) → (∀ p ∈ l, ∀ o u, X.H_0 p.1 ≠ some (.frz o u)) → Inv X pins σ (unl l H) s
  | [], _, _, _ => I
  | (d, u) :: l, nd, hat, h0 => by
    rw [List.map_cons, List.nodup_cons] at nd
    have I1 := unlockN I l nd.2 (fun p h => hat p (List.mem_cons_of_mem _ h)) fun p h => h0 p (List.mem_cons_of_mem _ h)
    obtain ⟨od, e⟩ := hat (d, u) List.mem_cons_self
    have e1 : unl l H d = some (.frz od u) := (unl_out nd.1).trans e
    rw [unl_cons nd.1]
    exact I1.unlock e1 (h0 (d, u) List.mem_cons_self)
theorem lk_nofrz {l : Lks} (I : Inv X pins σ H s) (k : LkOk l H) : ∀ p ∈ l, ∀ o u, X.H_0 p.1 ≠ some (.frz o u) := fun p h => I.nofrz (k.at_ p h).1 (k.at_ p h).2
def tLkS (t : TS) : TS := fun D σ H => ∃ l, LkOk l H ∧ ∀ H', LkTo l H H' → t ⟨fun σ1 H1 => (∀ p ∈ l, H1 p.1 = H' p.1) ∧ D.nx σ1 (unl l H1), fun v H1 => (∀ p ∈ l, H1 p.1 = H' p.1) ∧ D.rt v (unl l H1), fun σ1 H1 => (∀ p ∈ l, H1 p.1 = H' p.1) ∧ D.bk σ1 (unl l H1),
  fun σ1 H1 => (∀ p ∈ l, H1 p.1 = H' p.1) ∧ D.ct σ1 (unl l H1)⟩ σ H'
def tLkE (t : TE) : TE := fun σ H Q => ∃ l, LkOk l H ∧ ∀ H', LkTo l H H' → t σ H' fun v H1 => (∀ p ∈ l, H1 p.1 = H' p.1) ∧ Q v (unl l H1)
theorem ps_lk {st : Stmt} {t : TS} (h : PS X st t) : PS X st (tLkS t) := by
  refine ⟨fun pins s σ H D I hw => ?_⟩
  obtain ⟨l, ok, hw⟩ := hw
  obtain ⟨H', I1, k⟩ := lockN I l ok
  have back : ∀ {σ1 : St} {H1 : Hp} {s1 : Shared}, Inv X pins σ1 H1 s1 → (∀ p ∈ l, H1 p.1 = H' p.1) → Inv X pins σ1 (unl l H1) s1 := fun {σ1 H1 s1} J e =>
    unlockN J l ok.nd (fun p h => by rw [e p h]; exact k.on p h) (lk_nofrz I ok)
  refine thn (h.run pins s σ _ _ I1 (hw H' k)) fun f s1 q => ?_
  cases f with
  | next => obtain ⟨σ1, H1, J, e, q⟩ := q; exact ⟨σ1, _, back J e, q⟩
  | brk => obtain ⟨σ1, H1, J, e, q⟩ := q; exact ⟨σ1, _, back J e, q⟩
  | cont => obtain ⟨σ1, H1, J, e, q⟩ := q; exact ⟨σ1, _, back J e, q⟩
  | ret v => obtain ⟨x, σ1, H1, J, r, e, q⟩ := q; exact ⟨x, σ1, _, back J e, r, q⟩
theorem pe_lk {e : Expr} {t : TE} (h : PE X e t) : PE X e (tLkE t) := by
  refine ⟨fun pins s σ H Q I hw => ?_⟩
  obtain ⟨l, ok, hw⟩ := hw
  obtain ⟨H', I1, k⟩ := lockN I l ok
  refine thn (h.run pins s σ _ _ I1 (hw H' k)) fun v s1 ⟨x, H1, J, r, e, q⟩ => ?_
  exact ⟨x, _, unlockN J l ok.nd (fun p h => by rw [e p h]; exact k.on p h) (lk_nofrz I ok), r, q⟩
end

/-! ### the data, locked -/
mutual
def frzD : D → D
  | .lst ds => .lst (frzL ds)
  | .tup ds => .tup (frzL ds)
  | .dk ks ds => .fk ks (frzL ds)
  | .dt ks ds => .ft ks (frzL ds)
  | .ins C fs ds => .ins C fs (frzL ds)
  | d => d
def frzL : List D → List D
  | [] => []
  | d :: ds => frzD d :: frzL ds
end
mutual
def thawD : D → D
  | .lst ds => .lst (thawL ds)
  | .tup ds => .tup (thawL ds)
  | .dk ks ds => .dk ks (thawL ds)
  | .dt ks ds => .dt ks (thawL ds)
  | .fk ks ds => .dk ks (thawL ds)
  | .ft ks ds => .dt ks (thawL ds)
  | .ins C fs ds => .ins C fs (thawL ds)
  | d => d
def thawL : List D → List D
  | [] => []
  | d :: ds => thawD d :: thawL ds
end
/-- a heap that differs from G in locks let go -/
def ThTo (G G' : Hp) : Prop := ∀ a o, G a = some o → G' a = some o ∨ ∃ od u, o = .frz od u ∧ G' a = some u
theorem ThTo.rd {G G' : Hp} (t : ThTo G G') {a : Addr} {u : HO} (hu : ∀ od v, u ≠ .frz od v) (h : Rd G a u) : Rd G' a u := by
  rcases h with h | ⟨o, h⟩
  · rcases t a _ h with q | ⟨od, v, e, _⟩
    · exact .inl q
    · exact absurd e (hu od v)
  · rcases t a _ h with q | ⟨od, v, e, q⟩
    · exact .inr ⟨o, q⟩
    · cases e
      exact .inl q
section
variable {K : PySem.W.Frag}
theorem ThTo.sqL {G G' : Hp} (t : ThTo G G') {a : Addr} {xs : List V} (h : SqL K G a xs) : SqL K G' a xs := h.elim (fun h => .inl (t.rd (fun _ _ z => nomatch z) h)) .inr
theorem ThTo.sqT {G G' : Hp} (t : ThTo G G') {a : Addr} {xs : List V} (h : SqT K G a xs) : SqT K G' a xs := h.elim (fun h => .inl (t.rd (fun _ _ z => nomatch z) h)) .inr
theorem ThTo.tup {G G' : Hp} (t : ThTo G G') {a : Addr} {xs : List V} (h : G a = some (.tup xs)) : G' a = some (.tup xs) := by
  rcases t a _ h with q | ⟨od, v, e, _⟩
  · exact q
  · cases e
theorem ThTo.ins {G G' : Hp} (t : ThTo G G') {a C dx : Addr} {us : List (Str × V)} (h : G a = some (.ins C dx us)) : G' a = some (.ins C dx us) := by
  rcases t a _ h with q | ⟨od, v, e, _⟩
  · exact q
  · cases e
mutual
theorem Rep.thaw {G G' : Hp} (t : ThTo G G') : ∀ {v : V} {d : D}, Rep K G v d → Rep K G' v (thawD d)
  | _, .non, h => h
  | _, .bl _, h => h
  | _, .int _, h => h
  | _, .str _, h => h
  | _, .lst ds, ⟨a, vs, h1, h2, h3⟩ => ⟨a, vs, h1, t.rd (fun _ _ z => nomatch z) h2, RepL.thaw t h3⟩
  | _, .tup ds, ⟨a, vs, h1, h2, h3⟩ => ⟨a, vs, h1, t.tup h2, RepL.thaw t h3⟩
  | _, .dk ks ds, ⟨a, vs, h1, h2, h4, h3⟩ => ⟨a, vs, h1, t.rd (fun _ _ z => nomatch z) h2, h4, RepL.thaw t h3⟩
  | _, .dt ks ds, ⟨a, vs, h1, h2, h4, h3⟩ => ⟨a, vs, h1, t.rd (fun _ _ z => nomatch z) h2, h4, RepL.thaw t h3⟩
  | _, .ins C fs ds, ⟨a, dx, vs, h1, h2, h4, h3⟩ => ⟨a, dx, vs, h1, t.ins h2, h4, RepL.thaw t h3⟩
  | _, .cl _, h => h
  | _, .scr _, ⟨a, h1, h2⟩ => ⟨a, h1, t.sqL h2⟩
  | _, .etup, ⟨a, h1, h2⟩ => ⟨a, h1, t.sqT h2⟩
  | _, .fk ks ds, ⟨a, o, vs, h1, h2, h4, h3⟩ => ⟨a, vs, h1, t.rd (fun _ _ z => nomatch z) (.inr ⟨o, h2⟩), h4, RepL.thaw t h3⟩
  | _, .ft ks ds, ⟨a, o, vs, h1, h2, h4, h3⟩ => ⟨a, vs, h1, t.rd (fun _ _ z => nomatch z) (.inr ⟨o, h2⟩), h4, RepL.thaw t h3⟩
theorem RepL.thaw {G G' : Hp} (t : ThTo G G') : ∀ {vs : List V} {ds : List D}, RepL K G vs ds → RepL K G' vs (thawL ds)
  | _, [], h => h
  | _, d :: ds, ⟨x, xs, h1, h2, h3⟩ => ⟨x, xs, h1, Rep.thaw t h2, RepL.thaw t h3⟩
end
/-- a dict's content -/
def isDt : HO → Prop
  | .dK _ => True
  | .dT _ => True
  | _ => False
/-- a heap that differs from G in dicts locked -/
def FzTo (G G' : Hp) : Prop := ∀ a o, G a = some o → G' a = some o ∨ ∃ od, isDt o ∧ G' a = some (.frz od o)
theorem FzTo.no {G G' : Hp} (t : FzTo G G') {a : Addr} {o : HO} (h : G a = some o) (n : ¬ isDt o) : G' a = some o := by
  rcases t a o h with q | ⟨_, q, _⟩
  · exact q
  · exact absurd q n
theorem FzTo.rd {G G' : Hp} (t : FzTo G G') {a : Addr} {u : HO} (h : Rd G a u) : Rd G' a u := by
  rcases h with h | ⟨o, h⟩
  · rcases t a _ h with q | ⟨od, _, q⟩
    · exact .inl q
    · exact .inr ⟨od, q⟩
  · exact .inr ⟨o, t.no h id⟩
theorem FzTo.sqL {G G' : Hp} (t : FzTo G G') {a : Addr} {xs : List V} (h : SqL K G a xs) : SqL K G' a xs := h.elim (fun h => .inl (t.rd h)) .inr
theorem FzTo.sqT {G G' : Hp} (t : FzTo G G') {a : Addr} {xs : List V} (h : SqT K G a xs) : SqT K G' a xs := h.elim (fun h => .inl (t.rd h)) .inr
mutual
theorem Rep.fz {G G' : Hp} (t : FzTo G G') : ∀ {v : V} {d : D}, Rep K G v d → Rep K G' v d
  | _, .non, h => h
  | _, .bl _, h => h
  | _, .int _, h => h
  | _, .str _, h => h
  | _, .lst ds, ⟨a, vs, h1, h2, h3⟩ => ⟨a, vs, h1, t.rd h2, RepL.fz t h3⟩
  | _, .tup ds, ⟨a, vs, h1, h2, h3⟩ => ⟨a, vs, h1, t.no h2 id, RepL.fz t h3⟩
  | _, .dk ks ds, ⟨a, vs, h1, h2, h4, h3⟩ => ⟨a, vs, h1, t.rd h2, h4, RepL.fz t h3⟩
  | _, .dt ks ds, ⟨a, vs, h1, h2, h4, h3⟩ => ⟨a, vs, h1, t.rd h2, h4, RepL.fz t h3⟩
  | _, .ins C fs ds, ⟨a, dx, vs, h1, h2, h4, h3⟩ => ⟨a, dx, vs, h1, t.no h2 id, h4, RepL.fz t h3⟩
  | _, .cl _, h => h
  | _, .scr _, ⟨a, h1, h2⟩ => ⟨a, h1, t.sqL h2⟩
  | _, .etup, ⟨a, h1, h2⟩ => ⟨a, h1, t.sqT h2⟩
  | _, .fk ks ds, ⟨a, o, vs, h1, h2, h4, h3⟩ => ⟨a, o, vs, h1, t.no h2 id, h4, RepL.fz t h3⟩
  | _, .ft ks ds, ⟨a, o, vs, h1, h2, h4, h3⟩ => ⟨a, o, vs, h1, t.no h2 id, h4, RepL.fz t h3⟩
theorem RepL.fz {G G' : Hp} (t : FzTo G G') : ∀ {vs : List V} {ds : List D}, RepL K G vs ds → RepL K G' vs ds
  | _, [], h => h
  | _, d :: ds, ⟨x, xs, h1, h2, h3⟩ => ⟨x, xs, h1, Rep.fz t h2, RepL.fz t h3⟩
end
/-- what is asked of a list of addresses so that d may be had locked -/
def Fzs (K : PySem.W.Frag) (G : Hp) (v : V) (d' : D) (l : List Addr) : Prop := (∀ a ∈ l, ∃ u, G a = some u ∧ isDt u) ∧ ∀ G', FzTo G G' → (∀ a ∈ l, ∀ u, G a = some u → ∃ od, G' a = some (.frz od u)) → Rep K G' v d'
def FzsL (K : PySem.W.Frag) (G : Hp) (v : List V) (d' : List D) (l : List Addr) : Prop := (∀ a ∈ l, ∃ u, G a = some u ∧ isDt u) ∧ ∀ G', FzTo G G' → (∀ a ∈ l, ∀ u, G a = some u → ∃ od, G' a = some (.frz od u)) → RepL K G' v d'
mutual
theorem Rep.frz {G : Hp} : ∀ {v : V} {d : D}, Rep K G v d → ∃ l, Fzs K G v (frzD d) l
  | _, .non, h => ⟨[], fun _ z => (List.not_mem_nil z).elim, fun _ _ _ => h⟩
  | _, .bl _, h => ⟨[], fun _ z => (List.not_mem_nil z).elim, fun _ _ _ => h⟩
  | _, .int _, h => ⟨[], fun _ z => (List.not_mem_nil z).elim, fun _ _ _ => h⟩
  | _, .str _, h => ⟨[], fun _ z => (List.not_mem_nil z).elim, fun _ _ _ => h⟩
  | _, .cl _, h => ⟨[], fun _ z => (List.not_mem_nil z).elim, fun _ _ _ => h⟩
  | _, .scr _, h => ⟨[], fun _ z => (List.not_mem_nil z).elim, fun G' t _ => Rep.fz t h⟩
  | _, .etup, h => ⟨[], fun _ z => (List.not_mem_nil z).elim, fun G' t _ => Rep.fz t h⟩
  | _, .fk _ _, h => ⟨[], fun _ z => (List.not_mem_nil z).elim, fun G' t _ => Rep.fz t h⟩
  | _, .ft _ _, h => ⟨[], fun _ z => (List.not_mem_nil z).elim, fun G' t _ => Rep.fz t h⟩
  | _, .lst ds, ⟨a, vs, h1, h2, h3⟩ =>
    let ⟨l, h4, h5⟩ := RepL.frz h3
    ⟨l, h4, fun G' t q => ⟨a, vs, h1, t.rd h2, h5 G' t q⟩⟩
  | _, .tup ds, ⟨a, vs, h1, h2, h3⟩ =>
    let ⟨l, h4, h5⟩ := RepL.frz h3
    ⟨l, h4, fun G' t q => ⟨a, vs, h1, t.no h2 id, h5 G' t q⟩⟩
  | _, .ins C fs ds, ⟨a, dx, vs, h1, h2, h6, h3⟩ =>
    let ⟨l, h4, h5⟩ := RepL.frz h3
    ⟨l, h4, fun G' t q => ⟨a, dx, vs, h1, t.no h2 id, h6, h5 G' t q⟩⟩
  | _, .dk ks ds, ⟨a, vs, h1, h2, h6, h3⟩ =>
    let ⟨l, h4, h5⟩ := RepL.frz h3
    match h2 with
    | .inl h2 => ⟨a :: l, fun b hb => (List.mem_cons.mp hb).elim (fun e => ⟨.dK vs, e ▸ h2, trivial⟩) (h4 b), fun G' t q =>
      let ⟨od, z⟩ := q a List.mem_cons_self _ h2
      ⟨a, od, vs, h1, z, h6, h5 G' t fun b hb => q b (List.mem_cons_of_mem _ hb)⟩⟩
    | .inr ⟨o, h2⟩ => ⟨l, h4, fun G' t q => ⟨a, o, vs, h1, t.no h2 id, h6, h5 G' t q⟩⟩
  | _, .dt ks ds, ⟨a, vs, h1, h2, h6, h3⟩ =>
    let ⟨l, h4, h5⟩ := RepL.frz h3
    match h2 with
    | .inl h2 => ⟨a :: l, fun b hb => (List.mem_cons.mp hb).elim (fun e => ⟨.dT vs, e ▸ h2, trivial⟩) (h4 b), fun G' t q =>
      let ⟨od, z⟩ := q a List.mem_cons_self _ h2
      ⟨a, od, vs, h1, z, h6, h5 G' t fun b hb => q b (List.mem_cons_of_mem _ hb)⟩⟩
    | .inr ⟨o, h2⟩ => ⟨l, h4, fun G' t q => ⟨a, o, vs, h1, t.no h2 id, h6, h5 G' t q⟩⟩
theorem RepL.frz {G : Hp} : ∀ {vs : List V} {ds : List D}, RepL K G vs ds → ∃ l, FzsL K G vs (frzL ds) l
  | _, [], h => ⟨[], fun _ z => (List.not_mem_nil z).elim, fun _ _ _ => h⟩
  | _, d :: ds, ⟨x, xs, h1, h2, h3⟩ =>
    let ⟨l, h4, h5⟩ := Rep.frz h2
    let ⟨l', h6, h7⟩ := RepL.frz h3
    ⟨l ++ l', fun b hb => (List.mem_append.mp hb).elim (h4 b) (h6 b), fun G' t q => ⟨x, xs, h1, h5 G' t fun b hb => q b (List.mem_append_left _ hb), h7 G' t fun b hb => q b (List.mem_append_right _ hb)⟩⟩
end

theorem Top.thaw {G G' : Hp} (t : ThTo G G') : ∀ {o : HO} {d : D}, Top K G o d → Top K G' o (thawD d) := by
  intro o d h
  cases o <;> cases d <;> first | exact h.elim | exact RepL.thaw t h | exact ⟨h.1, RepL.thaw t h.2⟩ | exact ⟨h.1, h.2.1, RepL.thaw t h.2.2⟩
theorem Own.fz {G G' H H' : Hp} (t : FzTo G G') : ∀ {k : Nat} {v : V} {as : List Addr} {d : D}, Own K G H k v as d → (∀ p ∈ as, H' p = H p) → Own K G' H' k v as d
  | 0, _, _, _, ⟨h1, h2⟩, _ => ⟨h1, h2.fz t⟩
  | k + 1, _, _, .lst ds, ⟨p, vs, bs, h1, h2, h3, h4⟩, f => by
    subst h3
    exact ⟨p, vs, bs, h1, (f p List.mem_cons_self).trans h2, rfl, h4.imp fun x a d ha q => Own.fz t q fun p hp => f p (List.mem_cons_of_mem _ (ha p hp))⟩
  | k + 1, _, _, .dk ks ds, ⟨p, vs, bs, h1, h2, h5, h3, h4⟩, f => by
    subst h3
    exact ⟨p, vs, bs, h1, (f p List.mem_cons_self).trans h2, h5, rfl, h4.imp fun x a d ha q => Own.fz t q fun p hp => f p (List.mem_cons_of_mem _ (ha p hp))⟩
  | k + 1, _, _, .dt ks ds, ⟨p, vs, bs, h1, h2, h5, h3, h4⟩, f => by
    subst h3
    exact ⟨p, vs, bs, h1, (f p List.mem_cons_self).trans h2, h5, rfl, h4.imp fun x a d ha q => Own.fz t q fun p hp => f p (List.mem_cons_of_mem _ (ha p hp))⟩
  | k + 1, _, _, .ins C fs ds, ⟨p, dx, vs, bs, h1, h2, h5, h3, h4⟩, f => by
    subst h3
    exact ⟨p, dx, vs, bs, h1, (f p List.mem_cons_self).trans h2, h5, rfl, h4.imp fun x a d ha q => Own.fz t q fun p hp => f p (List.mem_cons_of_mem _ (ha p hp))⟩
  | _ + 1, _, _, .non, ⟨h1, h2⟩, _ => ⟨h1, h2.fz t⟩
  | _ + 1, _, _, .bl _, ⟨h1, h2⟩, _ => ⟨h1, h2.fz t⟩
  | _ + 1, _, _, .int _, ⟨h1, h2⟩, _ => ⟨h1, h2.fz t⟩
  | _ + 1, _, _, .str _, ⟨h1, h2⟩, _ => ⟨h1, h2.fz t⟩
  | _ + 1, _, _, .tup _, ⟨h1, h2⟩, _ => ⟨h1, h2.fz t⟩
  | _ + 1, _, _, .cl _, ⟨h1, h2⟩, _ => ⟨h1, h2.fz t⟩
  | _ + 1, _, _, .scr _, ⟨h1, h2⟩, _ => ⟨h1, h2.fz t⟩
  | _ + 1, _, _, .etup, ⟨h1, h2⟩, _ => ⟨h1, h2.fz t⟩
  | _ + 1, _, _, .fk _ _, ⟨h1, h2⟩, _ => ⟨h1, h2.fz t⟩
  | _ + 1, _, _, .ft _ _, ⟨h1, h2⟩, _ => ⟨h1, h2.fz t⟩
end

/-! ### a state, locked and let go again -/
/-- a list without doubles -/
theorem nodup_of (l : List Addr) : ∃ l' : List Addr, l'.Nodup ∧ ∀ a, a ∈ l' ↔ a ∈ l := by
  induction l with
  | nil => exact ⟨[], List.nodup_nil, fun a => Iff.rfl⟩
  | cons b l ih =>
    obtain ⟨l', nd, h⟩ := ih
    by_cases m : b ∈ l'
    · refine ⟨l', nd, fun a => (h a).trans ⟨fun z => List.mem_cons_of_mem _ z, fun z => (List.mem_cons.mp z).elim (fun e => ?_) id⟩⟩
      rw [e]
      exact (h b).mp m
    · refine ⟨b :: l', List.nodup_cons.mpr ⟨m, nd⟩, fun a => ?_⟩
      rw [List.mem_cons, List.mem_cons, h a]
open Classical in
noncomputable def lkB (l : Lks) (H' B : Hp) : Hp := fun a => if a ∈ l.map (·.1) then H' a else B a
section
variable {K : PySem.W.Frag} {B H H' : Hp} {O : Ob} {L : Lm} {σ : St} {ρ : Env} {l : Lks}
theorem lkB_in {a : Addr} (h : a ∈ l.map (·.1)) : lkB l H' B a = H' a := by
  unfold lkB
  rw [if_pos h]
theorem lkB_out {a : Addr} (h : a ∉ l.map (·.1)) : lkB l H' B a = B a := by
  unfold lkB
  rw [if_neg h]
theorem LkTo.some (k : LkTo l H H') {a : Addr} (h : a ∈ l.map (·.1)) : ∃ od u, (a, u) ∈ l ∧ H' a = some (.frz od u) := by
  obtain ⟨p, hp, rfl⟩ := List.mem_map.mp h
  obtain ⟨od, z⟩ := k.on p hp
  exact ⟨od, p.2, hp, z⟩
theorem lk_fz {P : Addr → Prop} (ok : LkOk l H) (hd : ∀ p ∈ l, isDt p.2) (k : LkTo l H H') : FzTo (hide P H) (hide P H') := fun a o e => by
  obtain ⟨n, e⟩ := hide_some e
  rw [hide_no n]
  by_cases m : a ∈ l.map (·.1)
  · obtain ⟨od, u, hu, z⟩ := k.some m
    have q := (ok.at_ _ hu).1
    rw [e] at q
    cases q
    exact .inr ⟨od, hd _ hu, z⟩
  · exact .inl ((k.off a m).trans e)
theorem th_of {P : Addr → Prop} {H2 : Hp} (nd : (l.map (·.1)).Nodup) (k : LkTo l H H') (e2 : ∀ p ∈ l, H2 p.1 = H' p.1) : ThTo (hide P H2) (hide P (unl l H2)) := fun a o e => by
  obtain ⟨n, e⟩ := hide_some e
  rw [hide_no n]
  by_cases m : a ∈ l.map (·.1)
  · obtain ⟨od, u, hu, z⟩ := k.some m
    rw [e2 _ hu, z] at e
    cases e
    exact .inr ⟨od, u, rfl, unl_in nd hu⟩
  · exact .inl ((unl_out m).trans e)
/-- the state, some dicts locked that are seen -/
theorem SR.lk (S : SR K B O L σ H ρ) (ok : LkOk l H) (hd : ∀ p ∈ l, isDt p.2) (hv : ∀ p ∈ l, ¬ HS O L p.1) (k : LkTo l H H') : SR K (lkB l H' (nb L H)) O L σ H' ρ := by
  have S' := S.rebase
  refine ⟨fun a o e => ?_, fun p hp => ?_, S.len, fun i d h1 h2 => ?_, fun i kk as h => ?_, fun i kk as h => ⟨(S.nodup i kk as h).1, fun p hp => ?_⟩, S.sep, S.one, S.pin⟩
  · by_cases m : a ∈ l.map (·.1)
    · rw [lkB_in m] at e
      exact e
    · rw [lkB_out m] at e
      exact (k.off a m).trans (S'.same a o e)
  · by_cases m : p ∈ l.map (·.1)
    · rw [lkB_in m]
      obtain ⟨od, u, _, z⟩ := k.some m
      rw [z]
      exact fun y => by cases y
    · rw [lkB_out m]
      exact S'.dom p hp
  · obtain ⟨v, h3, h4⟩ := S.vars i d h1 h2
    exact ⟨v, h3, h4.fz (lk_fz ok hd k)⟩
  · obtain ⟨v, d, h1, h2, h3⟩ := S.owns i kk as h
    have keep : ∀ p ∈ as, H' p = H p := fun p hp => k.off p fun m => by
      obtain ⟨q, hq, e⟩ := List.mem_map.mp m
      exact hv q hq (.inr ⟨i, kk, as, h, by rw [e]; exact hp⟩)
    exact ⟨v, d, h1, h2, h3.fz (lk_fz ok hd k) keep⟩
  · have m : p ∉ l.map (·.1) := fun m => by
      obtain ⟨q, hq, e⟩ := List.mem_map.mp m
      exact hv q hq (.inr ⟨i, kk, as, h, by rw [e]; exact hp⟩)
    rw [lkB_out m]
    exact hide_yes ⟨i, kk, as, h, hp⟩
theorem SR.lk_same (S : SR K B O L σ H ρ) (ok : LkOk l H) (hv : ∀ p ∈ l, ¬ HS O L p.1) (k : LkTo l H H') {H2 : Hp} (e : Same (lkB l H' (nb L H)) H2) : Same (nb L H) (unl l H2) ∧ ∀ p ∈ l, H2 p.1 = H' p.1 := by
  have at2 : ∀ p ∈ l, H2 p.1 = H' p.1 := fun p hp => by
    have m : p.1 ∈ l.map (·.1) := List.mem_map_of_mem (f := fun q => q.1) hp
    obtain ⟨od, u, _, z⟩ := k.some m
    rw [z]
    exact e p.1 _ ((lkB_in m).trans z)
  refine ⟨fun a o z => ?_, at2⟩
  by_cases m : a ∈ l.map (·.1)
  · obtain ⟨od, u, hu, _⟩ := k.some m
    rw [unl_in ok.nd hu]
    have q := (ok.at_ _ hu).1
    rw [(hide_some z).2] at q
    exact q.symm
  · rw [unl_out m]
    exact e a o ((lkB_out m).trans z)
/-- .. and let go -/
theorem SR.unlk (S : SR K B O L σ H ρ) (ok : LkOk l H) (hv : ∀ p ∈ l, ¬ HS O L p.1) (k : LkTo l H H') {L2 : Lm} {σ2 : St} {H2 : Hp} {ρ2 : Env} (T : SR K (lkB l H' (nb L H)) O L2 σ2 H2 ρ2)
    (one : ∀ i kk as, L2 i = some (kk, as) → kk = 1 ∧ ∀ d, ρ2[i]? = some (some d) → isTop d = true) : SR K B O L2 σ2 (unl l H2) (ρ2.map (Option.map thawD)) := by
  obtain ⟨e1, e2⟩ := S.lk_same ok hv k T.same
  have th : ∀ P, ThTo (hide P H2) (hide P (unl l H2)) := fun P => th_of ok.nd k e2
  have off : ∀ p, lkB l H' (nb L H) p = none → p ∉ l.map (·.1) := fun p z m => by
    rw [lkB_in m] at z
    obtain ⟨od, u, _, y⟩ := k.some m
    rw [y] at z
    cases z
  have back : ∀ {i : Nat} {d : D}, (ρ2.map (Option.map thawD))[i]? = some (some d) → ∃ d', ρ2[i]? = some (some d') ∧ d = thawD d' := fun {i d} h => by
    rw [List.getElem?_map] at h
    cases z : ρ2[i]? with
    | none => rw [z] at h; cases h
    | some x =>
      rw [z] at h
      cases x with
      | none => cases h
      | some d' => cases h; exact ⟨d', rfl, rfl⟩
  refine ⟨S.nbSame.trans e1, S.dom, by rw [List.length_map]; exact T.len, fun i d h1 h2 => ?_, fun i kk as h => ?_, fun i kk as h => ⟨(T.nodup i kk as h).1, fun p hp => ?_⟩, T.sep, fun i kk as d h _ _ => (one i kk as h).1, T.pin⟩
  · obtain ⟨d', h3, rfl⟩ := back h2
    obtain ⟨v, h4, h5⟩ := T.vars i d' h1 h3
    exact ⟨v, h4, h5.thaw (th _)⟩
  · obtain ⟨v, d, h1, h2, h3⟩ := T.owns i kk as h
    obtain ⟨rfl, ht⟩ := one i kk as h
    obtain ⟨p, o, rfl, rfl, hp, t⟩ := top_own h3 (ht d h2)
    refine ⟨_, thawD d, h1, by rw [List.getElem?_map, h2]; rfl, own_top ?_ (t.thaw (th _))⟩
    rw [unl_out (off p ((T.nodup i 1 [p] h).2 p List.mem_cons_self))]
    exact hp
  · have z := (T.nodup i kk as h).2 p hp
    have m := off p z
    rw [lkB_out m] at z
    exact S.nbSame.free z
/-- a slot's data are told otherwise -/
theorem SR.redata (S : SR K B O L σ H ρ) {i : Nat} {v : V} {d : D} (hL : L i = none) (hs : σ[i]? = some (some v)) (r : Rep K (hide (HS O L) H) v d) : SR K B O L σ H (ρ.set i (some d)) := by
  have hi : i < ρ.length := by
    rw [← S.len]
    exact (List.getElem?_eq_some_iff.mp hs).1
  refine ⟨S.same, S.dom, by rw [List.length_set, S.len], fun j e h1 h2 => ?_, fun j k as h => ?_, S.nodup, S.sep, fun j k as e h h2 => S.one j k as e h (by
    have n : i ≠ j := fun q => by
      subst q
      rw [hL] at h
      cases h
    rw [List.getElem?_set_ne n] at h2
    exact h2), S.pin⟩
  · by_cases q : i = j
    · subst q
      rw [List.getElem?_set_self hi] at h2
      cases h2
      exact ⟨v, hs, r⟩
    · rw [List.getElem?_set_ne q] at h2
      exact S.vars j e h1 h2
  · have n : i ≠ j := fun q => by
      subst q
      rw [hL] at h
      cases h
    rw [List.getElem?_set_ne n]
    exact S.owns j k as h
/-- the locks that a slot's dicts want -/
theorem SR.lkSlot (S : SR K B O L σ H ρ) {i : Nat} {d : D} (hL : L i = none) (h : ρ[i]? = some (some d)) : ∃ l : Lks, LkOk l H ∧ (∀ p ∈ l, isDt p.2) ∧ (∀ p ∈ l, ¬ HS O L p.1) ∧ ∀ H', LkTo l H H' → SR K (lkB l H' (nb L H)) O L σ H' (ρ.set i (some (frzD d))) := by
  obtain ⟨v, hs, r⟩ := S.vars i d hL h
  obtain ⟨l0, h1, h2⟩ := r.frz
  obtain ⟨l1, nd, m1⟩ := nodup_of l0
  have hq : ∀ a ∈ l1, ∃ u, ¬ HS O L a ∧ H a = some u ∧ isDt u := fun a ha => by
    obtain ⟨u, z, hu⟩ := h1 a ((m1 a).mp ha)
    obtain ⟨n, z⟩ := hide_some z
    exact ⟨u, n, z, hu⟩
  let f : Addr → Addr × HO := fun a => (a, (H a).getD (.tup []))
  have mf : (l1.map f).map (·.1) = l1 := by
    rw [List.map_map]
    exact List.map_id l1
  have inv : ∀ p ∈ l1.map f, p.1 ∈ l1 ∧ ¬ HS O L p.1 ∧ H p.1 = some p.2 ∧ isDt p.2 := fun p hp => by
    obtain ⟨a, ha, rfl⟩ := List.mem_map.mp hp
    obtain ⟨u, n, z, hu⟩ := hq a ha
    have e : (f a).2 = u := by
      show (H a).getD _ = u
      rw [z]
      rfl
    exact ⟨ha, n, by rw [e]; exact z, by rw [e]; exact hu⟩
  have ok : LkOk (l1.map f) H := ⟨by rw [mf]; exact nd, fun p hp => ⟨(inv p hp).2.2.1, by
    have q := (inv p hp).2.2.2
    cases z : p.2 <;> rw [z] at q <;> first | exact q.elim | trivial⟩⟩
  have hd : ∀ p ∈ l1.map f, isDt p.2 := fun p hp => (inv p hp).2.2.2
  have hv : ∀ p ∈ l1.map f, ¬ HS O L p.1 := fun p hp => (inv p hp).2.1
  refine ⟨l1.map f, ok, hd, hv, fun H' k => (S.lk ok hd hv k).redata hL hs (h2 _ (lk_fz ok hd k) fun a ha u hu => ?_)⟩
  have ha1 : a ∈ l1 := (m1 a).mpr ha
  obtain ⟨n, hu⟩ := hide_some hu
  rw [hide_no n]
  obtain ⟨od, z⟩ := k.on (f a) (List.mem_map_of_mem (f := f) ha1)
  have e : (f a).2 = u := by
    show (H a).getD _ = u
    rw [hu]
    rfl
  rw [e] at z
  exact ⟨od, z⟩
end
/-! ### the rules -/
def thawO (ow : Ow) (o : Out) : Out :=
  match o with
  | .nx ρ => if ow.all (fun p => p.2 == 1 && (match ρ[p.1]? with | some (some d) => isTop d | _ => false)) then .nx (ρ.map (Option.map thawD)) else .stuck
  | .rt d ρ => .rt (thawD d) (ρ.map (Option.map thawD))
  | _ => .stuck
def fLkS (i : Nat) (ow : Ow) (f : Env → Out) : Env → Out := fun ρ =>
  match ρ[i]? with
  | some (some d) => thawO ow (f (ρ.set i (some (frzD d))))
  | _ => .stuck
section
variable {X : Cx} {W : WX} {ow ow' ow0 : Ow} {owl : Ox} {st : Stmt} {f : Env → Out} {e : Expr} {es : List Nat} {fe : Env → R D}
/-- only these slots are owned -/
theorem SR.only {K : PySem.W.Frag} {B H : Hp} {O : Ob} {L : Lm} {σ : St} {ρ : Env} (S : SR K B O L σ H ρ) (ow : Ow) (w : OwOk ow L) : ∃ L', SR K B O L' σ H ρ ∧ OwOk ow L' ∧ ∀ i x, L' i = some x → ∃ p ∈ ow, p.1 = i ∧ p.2 = x.1 := by
  let es := (List.range ρ.length).filter fun i => !(ow.any fun p => p.1 == i)
  refine ⟨dropL es L, S.drop es, fun p hp => ?_, fun i x h => ?_⟩
  · obtain ⟨as, h⟩ := w p hp
    refine ⟨as, ?_⟩
    rw [dropL_no]
    · exact h
    · intro z
      have q := (List.mem_filter.mp z).2
      have : (ow.any fun q => q.1 == p.1) = true := List.any_eq_true.mpr ⟨p, hp, by simp⟩
      rw [this] at q
      cases q
  · obtain ⟨n, h⟩ := dropL_some h
    obtain ⟨k, as⟩ := x
    obtain ⟨v, d, h1, h2, _⟩ := S.owns i k as h
    have hi : i < ρ.length := (List.getElem?_eq_some_iff.mp h2).1
    have q : (ow.any fun p => p.1 == i) = true := by
      cases z : (ow.any fun p => p.1 == i) with
      | true => rfl
      | false => exact absurd (List.mem_filter.mpr ⟨List.mem_range.mpr hi, by rw [z]; rfl⟩) n
    obtain ⟨p, hp, e⟩ := List.any_eq_true.mp q
    have e : p.1 = i := by simpa using e
    obtain ⟨as', h'⟩ := w p hp
    rw [e, h] at h'
    cases h'
    exact ⟨p, hp, e, rfl⟩
theorem pds_lk (i : Nat) (h : PDS X W ow0 ow' owl st f) (ho : ∀ p ∈ ow0, p ∈ ow ∧ p.1 ∉ [i] := by decide) (hx : owl.rx = [] := by rfl) : PDS X W ow ow' owl st (fLkS i ow' f) := PS.imp (ps_lk h) fun D σ H ⟨B, O, L, ρ, S, w, P⟩ => by
  unfold fLkS at P
  split at P
  case h_2 => exact P.elim
  rename_i d hd
  have S1 := S.drop [i]
  obtain ⟨l, ok, hdt, hv, hl⟩ := S1.lkSlot (dropL_yes List.mem_cons_self) hd
  refine ⟨l, ok, fun H' k => ⟨_, O, _, _, hl H' k, w.drop ho, ?_⟩⟩
  generalize f (ρ.set i (some (frzD d))) = r at P
  cases r with
  | nx ρ2 =>
    intro σ2 H2 L2 S2 w2
    obtain ⟨L3, S3, w3, only⟩ := S2.only ow' w2
    refine ⟨(S1.lk_same ok hv k S3.same).2, ?_⟩
    have P : PostS X.K B O W ow' owl (if ow'.all (fun p => p.2 == 1 && (match ρ2[p.1]? with | some (some d) => isTop d | _ => false)) then .nx (ρ2.map (Option.map thawD)) else .stuck) D := P
    split at P
    case isFalse => exact P.elim
    rename_i hall
    refine P σ2 _ L3 (S1.unlk ok hv k S3 fun j kk as hj => ?_) w3
    obtain ⟨p, hp, e1, e2⟩ := only j _ hj
    have q := List.all_eq_true.mp hall p hp
    rw [Bool.and_eq_true] at q
    have q1 : p.2 = 1 := by simpa using q.1
    refine ⟨e2.symm.trans q1, fun d' hd' => ?_⟩
    have q2 := q.2
    rw [e1, hd'] at q2
    exact q2
  | rt d2 ρ2 =>
    intro v σ2 H2 L2 S2 w2 r
    have P : PostS X.K B O W ow' owl (.rt (thawD d2) (ρ2.map (Option.map thawD))) D := P
    obtain ⟨e1, e2⟩ := S1.lk_same ok hv k S2.same
    obtain ⟨L3, S3, w3, only⟩ := S2.only [] OwOk.nil
    have hL : ∀ p, HS O L3 p → O p := fun p h => h.elim id fun ⟨j, kk, as, hj, _⟩ => by
      obtain ⟨q, hq, _⟩ := only j _ hj
      cases hq
    refine ⟨e2, P v σ2 _ L3 (S1.unlk ok hv k S3 fun j kk as hj => ?_) (by rw [hx]; exact OwOk.nil) (((hs_le r).thaw (th_of ok.nd k e2)).mono (hide_same hL (Same.refl _)))⟩
    obtain ⟨q, hq, _⟩ := only j _ hj
    cases hq
  | bk ρ2 => exact P.elim
  | ct ρ2 => exact P.elim
  | exc x ρ2 => exact P.elim
  | stuck => exact P.elim
def thawR (r : R D) : R D :=
  match r with
  | .ok d => .ok (thawD d)
  | _ => .stuck
def fLkE (i : Nat) (fe : Env → R D) : Env → R D := fun ρ =>
  match ρ[i]? with
  | some (some d) => thawR (fe (ρ.set i (some (frzD d))))
  | _ => .stuck
theorem pdf_lk (i : Nat) (h : PDF X W e es fe) : PDF X W e (es ++ [i]) (fLkE i fe) := PE.imp (pe_lk h) fun σ H Q ⟨B, O, L, ρ, S, P⟩ => by
  unfold fLkE at P
  split at P
  case h_2 => exact P.elim
  rename_i d hd
  have S1 := S.drop [i]
  obtain ⟨l, ok, hdt, hv, hl⟩ := S1.lkSlot (dropL_yes List.mem_cons_self) hd
  refine ⟨l, ok, fun H' k => ⟨_, O, _, _, hl H' k, ?_⟩⟩
  generalize fe (ρ.set i (some (frzD d))) = r at P
  rw [dropL_dropL]
  cases r with
  | ok d2 =>
    have P : ∀ p o H2, H p = none → Same H H2 → H2 p = some o → Top X.K (hide (fun a => HS O (dropL (es ++ [i]) L) a ∨ a = p) H2) o (thawD d2) → Q (.ref p) H2 := P
    intro p o H2 hp e2 ho t
    have np : p ∉ l.map (·.1) := fun m => by
      obtain ⟨od, u, _, z⟩ := k.some m
      rw [hp] at z
      cases z
    have at2 : ∀ q ∈ l, H2 q.1 = H' q.1 := fun q hq => by
      obtain ⟨od, z⟩ := k.on q hq
      rw [z]
      exact e2 q.1 _ z
    refine ⟨at2, P p o _ ((k.off p np).symm.trans hp) (fun a u z => ?_) (by rw [unl_out np]; exact ho) (t.thaw (th_of ok.nd k at2))⟩
    by_cases m : a ∈ l.map (·.1)
    · obtain ⟨od, u', hu, _⟩ := k.some m
      rw [unl_in ok.nd hu]
      have q := (ok.at_ _ hu).1
      rw [z] at q
      exact q.symm
    · rw [unl_out m]
      exact e2 a u ((k.off a m).trans z)
  | exc x => exact P.elim
  | stuck => exact P.elim
/-! the keys of a locked dict -/
def keyD : Key → D
  | .inl i => .int i
  | .inr x => .str x.cps.toList
def okK : Key → Bool
  | .inl _ => true
  | .inr x => x.cps.toList.all fun c => decide (c < 0x110000)
def gKeys : D → Option (List D)
  | .fk ks _ => if ks.all okK then some (ks.map keyD) else none
  | _ => none
def fKeys (fe : Env → R D) : Env → R (List D) := fun ρ => (fe ρ).bind fun d => R.ofO (gKeys d)
theorem keyD_rep {K : PySem.W.Frag} {G : Hp} {k : Key} (h : okK k = true) : Rep K G (kV k) (keyD k) := by
  cases k with
  | inl i => rfl
  | inr x => exact ⟨by show V.str x = V.str (mkS x.cps.toList); unfold mkS; rfl, fun c hc => of_decide_eq_true (List.all_eq_true.mp h c hc)⟩
theorem pdi_keys {tg : Expr} (h : PD X W e es fe) : PDI X W tg e es (fKeys fe) := PI.imp (pi_keys h) fun σ H Q ⟨B, O, L, ρ, S, P⟩ => ⟨B, O, L, ρ, S, PostG.bind P fun d v H1 e1 r P1 => by
  obtain ⟨ds, hd, k⟩ := P1.ofO
  unfold gKeys at hd
  split at hd
  case h_2 => cases hd
  rename_i ks vs
  split at hd
  case isFalse => cases hd
  rename_i hok
  cases hd
  obtain ⟨a, o, us, ev, h1, h2, h3⟩ := r
  subst ev h2
  refine ⟨a, o, rfl, .inl ⟨us, (hide_some h1).2, k _ H1 (Same.refl H1) fun i H2 O2 le dom => ?_⟩⟩
  have h4 : H2 a = some (.frz o (.dK us)) := (hide_some (le.key a _ h1)).2
  refine ⟨fun d hd => ⟨⟨h4, ?_⟩, fun x H3 y => ?_⟩, fun hl => ⟨h4, by rw [List.length_map, List.length_map] at hl; exact hl⟩⟩
  · have := (List.getElem?_eq_some_iff.mp hd).1
    rw [List.length_map, List.length_map] at this
    exact this
  · obtain ⟨rfl, kk, vv, z, rfl⟩ := y
    rw [List.getElem?_map, List.getElem?_map, z] at hd
    cases hd
    have m : kk ∈ us.map (·.1) := List.mem_map.mpr ⟨_, List.mem_of_getElem? z, rfl⟩
    exact ⟨Same.refl _, keyD_rep (List.all_eq_true.mp hok kk m)⟩⟩
end
end DL
set_option Elab.async false
set_option linter.all false
set_option maxRecDepth 100000
namespace DL
open PySem L2

/-! ### two clauses -/
def compL2 (ft : D → Env → Option Env) (tt : Env → R Bool) (fi2 : Env → R (List D)) (vs2 : List Nat) (ft2 : D → Env → Option Env) (tt2 : Env → R Bool) (fe : Env → R D) (ρ : Env) : List D → Option (List D)
  | [] => some []
  | d :: ds => (ft d ρ).bind fun ρ1 => (tt ρ1).toO.bind fun b => if b = true then (fi2 ρ1).toO.bind fun ds2 => (compL ft2 tt2 fe (wipeE ρ1 vs2) ds2).bind fun ys => (compL2 ft tt fi2 vs2 ft2 tt2 fe ρ ds).bind fun zs => some (ys ++ zs)
    else compL2 ft tt fi2 vs2 ft2 tt2 fe ρ ds
def fLc2 (fi : Env → R (List D)) (ft : D → Env → Option Env) (tt : Env → R Bool) (fi2 : Env → R (List D)) (vs2 : List Nat) (ft2 : D → Env → Option Env) (tt2 : Env → R Bool) (fe : Env → R D) (vs : List Nat) : Env → R D := fun ρ =>
  (fi ρ).bind fun ds => (R.ofO (compL2 ft tt fi2 vs2 ft2 tt2 fe (wipeE ρ vs) ds)).bind fun ys => lenOk ys (.ok (.lst ys))
section
variable {K : PySem.W.Frag} {B0 H H' : Hp} {O : Ob} {L : Lm} {σ : St} {ρ : Env}
theorem SR.reDl {Dl : Addr} {o o' : HO} (S : SR K (upd B0 Dl o) O L σ H ρ) (hO : O Dl) (k : ∀ a u, a ≠ Dl → H a = some u → H' a = some u) (h : H' Dl = some o') : SR K (upd B0 Dl o') O L σ H' ρ := by
  have le : RdLe (hide (HS O L) H) (hide (HS O L) H') := RdLe.ofKey fun a u z => by
    obtain ⟨n, z⟩ := hide_some z
    rw [hide_no n]
    exact k a u (fun e => n (by rw [e]; exact .inl hO)) z
  have ne : ∀ i kk as, L i = some (kk, as) → ∀ p ∈ as, p ≠ Dl := fun i kk as h p hp e => by
    have q := (S.nodup i kk as h).2 p hp
    rw [e, upd_same] at q
    cases q
  refine ⟨fun a u z => ?_, fun p hp => ?_, S.len, fun i d h1 h2 => ?_, fun i kk as h => ?_, fun i kk as h => ⟨(S.nodup i kk as h).1, fun p hp => ?_⟩, S.sep, S.one, S.pin⟩
  · by_cases q : a = Dl
    · subst q
      rw [upd_same] at z
      cases z
      exact h
    · rw [upd_ne q] at z
      exact k a u q (S.same a u (by rw [upd_ne q]; exact z))
  · by_cases q : p = Dl
    · subst q
      rw [upd_same]
      exact fun z => by cases z
    · have z := S.dom p hp
      rw [upd_ne q] at z ⊢
      exact z
  · obtain ⟨v, h3, h4⟩ := S.vars i d h1 h2
    exact ⟨v, h3, h4.mono le⟩
  · obtain ⟨v, d, h1, h2, h3⟩ := S.owns i kk as h
    refine ⟨v, d, h1, h2, h3.mono le fun p hp => ?_⟩
    cases q : H p with
    | none => exact absurd q (h3.dom p hp)
    | some u => exact k p u (ne i kk as h p hp) q
  · have q := ne i kk as h p hp
    have z := (S.nodup i kk as h).2 p hp
    rw [upd_ne q] at z ⊢
    exact z
end
section
variable {K : PySem.W.Frag} {W : WX} {es e2 ee vs vs2 ts ts2 : List Nat} {fi fi2 : Env → R (List D)} {g g2 : TG} {ft ft2 : D → Env → Option Env} {tt tt2 : Env → R Bool} {fe : Env → R D}
theorem tDF_lc2 (ht : TgD K g ts ft) (ht2 : TgD K g2 ts2 ft2) (hts : ∀ t ∈ ts, t ∈ vs) (hts2 : ∀ t ∈ ts2, t ∈ vs2) (hvs : ∀ t ∈ vs2, t ∈ vs) : ∀ σ H Q, tDF K W (es ++ (e2 ++ (ee ++ vs))) (fLc2 fi ft tt fi2 vs2 ft2 tt2 fe vs) σ H Q →
    tLc2 (tDI K W es fi) g (tDT K W0 tt) (tDI K W0 e2 fi2) g2 (tDT K W0 tt2) (tD K W0 ee fe) vs vs2 σ H Q := by
  intro σ H Q ⟨B, O, L, ρ, S, P⟩
  refine ⟨B, O, L, ρ, S, PostF.bind P fun ds J H1 e hJ fr P1 => ?_⟩
  intro Dl hD
  obtain ⟨ya, hya, P2⟩ := P1.ofO
  have hJ : JD K (hide (HS O (dropL es L)) H1) J ds := hJ
  unfold lenOk at P2
  split at P2
  case isFalse => exact P2.elim
  rename_i hz
  generalize hEe : es ++ (e2 ++ (ee ++ vs)) = E at P2
  have inE : ∀ i, (i ∈ es ∨ i ∈ e2 ∨ i ∈ ee ∨ i ∈ vs) → i ∈ E := fun i h => by
    rw [← hEe]
    rcases h with h | h | h | h
    · exact List.mem_append_left _ h
    · exact List.mem_append_right _ (List.mem_append_left _ h)
    · exact List.mem_append_right _ (List.mem_append_right _ (List.mem_append_left _ h))
    · exact List.mem_append_right _ (List.mem_append_right _ (List.mem_append_right _ h))
  have P2 : ∀ p o H', H1 p = none → Same H1 H' → H' p = some o → Top K (hide (fun a => HS O (dropL E L) a ∨ a = p) H') o (.lst ya) → Q (.ref p) H' := P2
  have S1 : SR K B O (dropL E L) σ H1 ρ := (S.ext e).drop _
  generalize hL2 : dropL E L = L2 at P2 S1
  have hn : ∀ v ∈ vs, L2 v = none := fun v hv => by
    rw [← hL2]
    exact dropL_yes (inE v (.inr (.inr (.inr hv))))
  have hsub : ∀ {es' : List Nat}, (∀ i ∈ es', i ∈ E) → dropL es' L2 = L2 := fun {es'} hs => by
    funext i
    by_cases m : i ∈ es'
    · rw [dropL_yes m, ← hL2, dropL_yes (hs i m)]
    · exact dropL_no m
  have lift : ∀ {H4 : Hp} {us ys : List V}, RdLe (hide (fun a => HS O L2 a ∨ a = Dl) H4) (hide (fun a => HS O L2 a ∨ a = Dl) (upd H4 Dl (.lst us))) := fun {H4 us ys} => hide_mono (fun _ z => z) fun a u n z => by
    rw [upd_ne fun y => n (.inr y)]
    exact z
  refine ⟨fun i m H => m = ds.length - i ∧ i ≤ ds.length ∧ Same H1 H ∧ ∃ us acc rest, H Dl = some (.lst us) ∧ RepL K (hide (fun a => HS O L2 a ∨ a = Dl) H) us acc ∧ compL2 ft tt fi2 vs2 ft2 tt2 fe (wipeE ρ vs) (ds.drop i) = some rest ∧ ya = acc ++ rest,
    ⟨ds.length, by simp, Nat.zero_le _, same_new hD, [], [], ya, upd_same, rfl, hya, rfl⟩, ?_⟩
  rintro i m H ⟨rfl, hi, sH, us, acc, rest, hDl, hr, hc, hy⟩
  have ST := ((S1.inComp hD sH hDl).wipe1 vs hn)
  obtain ⟨j1, j2⟩ := hJ i H (HS (O.or Dl) L2) (by
    have key : ∀ a u, hide (HS O (dropL es L)) H1 a = some u → hide (HS (O.or Dl) L2) H a = some u := fun a u z => by
      obtain ⟨n, z⟩ := hide_some z
      rw [hide_no]
      · exact sH a u z
      · rintro ((y | y) | ⟨j, k, as, y, q⟩)
        · exact n (.inl y)
        · exact ne_of_none z hD y
        · rw [← hL2] at y
          obtain ⟨y1, y2⟩ := dropL_some y
          exact n (.inr ⟨j, k, as, by rw [dropL_no fun w => y1 (inE j (.inl w))]; exact y2, q⟩)
    exact RdLe.ofKey key) ST.hdom
  by_cases hlt : i < ds.length
  · obtain ⟨d, hd⟩ : ∃ d, ds[i]? = some d := ⟨ds[i], List.getElem?_eq_getElem hlt⟩
    obtain ⟨g1, gy⟩ := j1 d hd
    have hdr : ds.drop i = d :: ds.drop (i + 1) := by
      rw [List.drop_eq_getElem_cons hlt]
      rw [List.getElem?_eq_getElem hlt] at hd
      cases hd
      rfl
    rw [hdr] at hc
    unfold compL2 at hc
    obtain ⟨ρ1, h1, hc⟩ := Option.bind_eq_some_iff.mp hc
    obtain ⟨b, h2, hc⟩ := Option.bind_eq_some_iff.mp hc
    refine .inr ⟨g1, fun H => Same H1 H ∧ ∃ us acc rest, H Dl = some (.lst us) ∧ RepL K (hide (fun a => HS O L2 a ∨ a = Dl) H) us acc ∧ compL2 ft tt fi2 vs2 ft2 tt2 fe (wipeE ρ vs) (ds.drop (i + 1)) = some rest ∧ ya = acc ++ rest, fun H2 q => ⟨ds.length - (i + 1), by omega, rfl, hlt, q⟩, fun x H2 y => ?_⟩
    obtain ⟨ee2, r2⟩ := gy x H2 y
    refine ht _ _ L2 (wipe σ vs) H2 (wipeE ρ vs) ρ1 x d _ (ST.ext ee2) r2 h1 fun σ3 S3 wp => ⟨(wp vs hts).trans wipe_wipe, ?_⟩
    rw [hsub fun t h => inE t (.inr (.inr (.inr (hts t h))))] at S3
    refine ⟨_, _, _, ρ1, S3, PostG.toO h2 fun b' H3 e3 hb => ?_⟩
    obtain rfl : b' = b := hb
    cases b' with
    | false =>
      rw [if_neg Bool.false_ne_true] at hc ⊢
      refine ⟨sH.trans (ee2.trans e3), us, acc, rest, (S3.ext e3).same Dl _ upd_same, ?_, hc, hy⟩
      exact hr.mono (hide_same (fun _ z => z) (ee2.trans e3))
    | true =>
      rw [if_pos rfl] at hc ⊢
      obtain ⟨ds2, h3, hc⟩ := Option.bind_eq_some_iff.mp hc
      obtain ⟨ys, h4, hc⟩ := Option.bind_eq_some_iff.mp hc
      obtain ⟨zs, h5, hc⟩ := Option.bind_eq_some_iff.mp hc
      cases hc
      refine ⟨_, _, _, ρ1, S3.ext e3, PostG.toO h3 fun J1 H4 e4 hJ1 => ?_⟩
      have hJ1 : JD K (hide (HS (O.or Dl) (dropL e2 L2)) H4) J1 ds2 := hJ1
      rw [hsub fun t h => inE t (.inr (.inl h))] at hJ1
      have S4 := (S3.ext e3).ext e4
      have hD4 : H4 Dl = some (.lst us) := S4.same Dl _ upd_same
      have sH4 : Same H1 H4 := sH.trans (ee2.trans (e3.trans e4))
      have hr4 : RepL K (hide (fun a => HS O L2 a ∨ a = Dl) H4) us acc := hr.mono (hide_same (fun _ z => z) (ee2.trans (e3.trans e4)))
      refine ⟨fun j k H => k = ds2.length - j ∧ j ≤ ds2.length ∧ (∀ a u, a ≠ Dl → H4 a = some u → H a = some u) ∧ ∃ us acc r, H Dl = some (.lst us) ∧ RepL K (hide (fun a => HS O L2 a ∨ a = Dl) H) us acc ∧ compL ft2 tt2 fe (wipeE ρ1 vs2) (ds2.drop j) = some r ∧ ya = acc ++ (r ++ zs),
        ⟨ds2.length, by simp, Nat.zero_le _, fun _ _ _ z => z, us, acc, ys, hD4, hr4, h4, hy⟩, ?_⟩
      rintro j k H5 ⟨rfl, hj, k5, us5, acc5, r5, hD5, hr5, hc5, hy5⟩
      have s15 : Same H1 H5 := fun a u z => k5 a u (ne_of_none z hD) (sH4 a u z)
      have S5 := (S4.reDl (.inr rfl) k5 hD5).wipe1 vs2 fun v hv => hn v (hvs v hv)
      obtain ⟨l1, l2⟩ := hJ1 j H5 (HS (O.or Dl) L2) (RdLe.ofKey fun a u z => by
        obtain ⟨n, z⟩ := hide_some z
        rw [hide_no n]
        exact k5 a u (fun w => n (by rw [w]; exact .inl (.inr rfl))) z) S5.hdom
      by_cases hlt2 : j < ds2.length
      · obtain ⟨d2, hd2⟩ : ∃ d, ds2[j]? = some d := ⟨ds2[j], List.getElem?_eq_getElem hlt2⟩
        obtain ⟨go2, gy2⟩ := l1 d2 hd2
        have hdr2 : ds2.drop j = d2 :: ds2.drop (j + 1) := by
          rw [List.drop_eq_getElem_cons hlt2]
          rw [List.getElem?_eq_getElem hlt2] at hd2
          cases hd2
          rfl
        rw [hdr2] at hc5
        unfold compL at hc5
        obtain ⟨ρ6, h6, hc5⟩ := Option.bind_eq_some_iff.mp hc5
        obtain ⟨b6, h7, hc5⟩ := Option.bind_eq_some_iff.mp hc5
        refine .inr ⟨go2, fun H => (∀ a u, a ≠ Dl → H4 a = some u → H a = some u) ∧ ∃ us acc r, H Dl = some (.lst us) ∧ RepL K (hide (fun a => HS O L2 a ∨ a = Dl) H) us acc ∧ compL ft2 tt2 fe (wipeE ρ1 vs2) (ds2.drop (j + 1)) = some r ∧ ya = acc ++ (r ++ zs), fun H' q => ⟨ds2.length - (j + 1), by omega, rfl, hlt2, q⟩, fun x6 H6 y6 => ?_⟩
        obtain ⟨e6, r6⟩ := gy2 x6 H6 y6
        refine ht2 _ _ L2 (wipe σ3 vs2) H6 (wipeE ρ1 vs2) ρ6 x6 d2 _ (S5.ext e6) r6 h6 fun σ7 S7 wp7 => ⟨(wp7 vs2 hts2).trans wipe_wipe, ?_⟩
        rw [hsub fun t h => inE t (.inr (.inr (.inr (hvs t (hts2 t h)))))] at S7
        refine ⟨_, _, _, ρ6, S7, PostG.toO h7 fun b7 H7 e7 hb7 => ?_⟩
        obtain rfl : b7 = b6 := hb7
        have k7 : ∀ {H8 : Hp}, Same H6 H8 → ∀ a u, a ≠ Dl → H4 a = some u → H8 a = some u := fun e8 a u ne z => e8 a u (e6 a u (k5 a u ne z))
        cases b7 with
        | false =>
          rw [if_neg Bool.false_ne_true] at hc5 ⊢
          exact ⟨k7 e7, us5, acc5, r5, (S7.ext e7).same Dl _ upd_same, hr5.mono (hide_same (fun _ z => z) (e6.trans e7)), hc5, hy5⟩
        | true =>
          rw [if_pos rfl] at hc5 ⊢
          obtain ⟨yd, h8, hc5⟩ := Option.bind_eq_some_iff.mp hc5
          obtain ⟨yr, h9, hc5⟩ := Option.bind_eq_some_iff.mp hc5
          cases hc5
          refine ⟨_, _, _, ρ6, S7.ext e7, PostG.toO h8 fun yv H8 e8 ry => ?_⟩
          have hD8 : H8 Dl = some (.lst us5) := (S7.ext (e7.trans e8)).same Dl _ upd_same
          have hl := hr5.length
          have hz' : acc5.length + (yr.length + 1) ≤ sizeLine := by
            have q := hz
            rw [hy5, List.length_append, List.length_append, List.length_cons] at q
            omega
          refine ⟨us5, hD8, by omega, fun a u ne z => ?_, us5 ++ [yv], acc5 ++ [yd], yr, upd_same, ?_, h9, by rw [hy5, List.append_assoc]; rfl⟩
          · rw [upd_ne ne]
            exact k7 (e7.trans e8) a u ne z
          · refine RepL.append ((hr5.mono (hide_same (fun _ z => z) (e6.trans (e7.trans e8)))).mono (lift (ys := []))) (.one (Rep.mono ?_ ry))
            refine RdLe.trans (hide_same (fun a z => ?_) (Same.refl H8)) (lift (ys := []))
            rw [hsub fun t h => inE t (.inr (.inr (.inl h)))]
            rcases z with (z | z) | z
            · exact .inl (.inl z)
            · exact .inr z
            · exact .inl (.inr z)
      · have hj2 : j = ds2.length := by omega
        subst hj2
        rw [List.drop_length] at hc5
        cases hc5
        exact .inl ⟨l2 (Nat.le_refl _), s15, us5, acc5, zs, hD5, hr5, h5, hy5⟩
  · have hi2 : i = ds.length := by omega
    subst hi2
    rw [List.drop_length] at hc
    cases hc
    rw [List.append_nil] at hy
    subst hy
    exact .inl ⟨j2 (Nat.le_refl _), P2 Dl (.lst us) H hD sH hDl hr⟩
end
section
variable {X : Cx} {W : WX} {elt tg iter tg2 iter2 : Expr} {ifs ifs2 : List Expr} {scope : Scope} {own : List (Str × Nat)} {pos : Pos} {es e2 ee ts ts2 vs1 : List Nat} {fi fi2 : Env → R (List D)} {g g2 : TG} {ft ft2 : D → Env → Option Env} {tt tt2 : Env → R Bool} {fe : Env → R D}
theorem pdf_lc2 (hc : X.calm = true) (hN : X.N.Nodup) (hi : PDI X W tg iter es fi) (ok : BlkOk X.N X.env.scope scope own) (ht : TgD X.K g ts ft) (ht2 : TgD X.K g2 ts2 ft2)
    (hg : ∀ (s : Shared) (H : Hp) (C : Addr) (cl : List (Str × Addr)) (fp : List Addr), PG (X.blk s H scope (compEnvC scope cl C X.env) fp) tg g)
    (hh : ∀ (s : Shared) (H : Hp) (C : Addr) (cl : List (Str × Addr)) (fp : List Addr), PDTs (X.blk s H scope (compEnvC scope cl C X.env) fp) W0 ifs tt)
    (hi2 : ∀ (s : Shared) (H : Hp) (C : Addr) (cl : List (Str × Addr)) (fp : List Addr), PDI (X.blk s H scope (compEnvC scope cl C X.env) fp) W0 tg2 iter2 e2 fi2)
    (hg2 : ∀ (s : Shared) (H : Hp) (C : Addr) (cl : List (Str × Addr)) (fp : List Addr), PG (X.blk s H scope (compEnvC scope cl C X.env) fp) tg2 g2)
    (hh2 : ∀ (s : Shared) (H : Hp) (C : Addr) (cl : List (Str × Addr)) (fp : List Addr), PDTs (X.blk s H scope (compEnvC scope cl C X.env) fp) W0 ifs2 tt2)
    (he : ∀ (s : Shared) (H : Hp) (C : Addr) (cl : List (Str × Addr)) (fp : List Addr), PD (X.blk s H scope (compEnvC scope cl C X.env) fp) W0 elt ee fe)
    (hts : ∀ t ∈ ts, t ∈ own.map (·.2) := by decide) (hts2 : ∀ t ∈ ts2, t ∈ vs1 := by decide) (hv : ∀ t ∈ vs1, t ∈ own.map (·.2) := by decide) (hs : ∀ x, foldedSetIterable iter X.env x = pure x := by intro _; rfl) (hs1 : ∀ env x, foldedSetIterable iter2 env x = pure x := by intro _ _; rfl) :
    PDF X W (.ListComp elt [⟨tg, iter, ifs, 0⟩, ⟨tg2, iter2, ifs2, 0⟩] scope pos) (es ++ (e2 ++ (ee ++ own.map (·.2)))) (fLc2 fi ft tt fi2 vs1 ft2 tt2 fe (own.map (·.2))) :=
  PE.imp (pe_lc2 (wi1 := tDI X.K W0 e2 fi2) (tt := tDT X.K W0 tt) (tt1 := tDT X.K W0 tt2) (te := tD X.K W0 ee fe) hc hN hi ok hv hg hh hi2 hg2 hh2 he hs hs1) (tDF_lc2 ht ht2 hts hts2 hv)
theorem ps_setLc2D {i : Nat} {y : Str} {py spos : Pos} (hc : X.calm = true) (hN : X.N.Nodup) (hy : X.N[i]? = some y) (hyl : X.env.scope.names.lookup y = some .local)
    (hsw : swapsWith (.ListComp elt [⟨tg, iter, ifs, 0⟩, ⟨tg2, iter2, ifs2, 0⟩] scope pos) (some (.Name y py)) spos.line X.env = pure true) (hi : PDI X W tg iter es fi) (ok : BlkOk X.N X.env.scope scope own) (ht : TgD X.K g ts ft) (ht2 : TgD X.K g2 ts2 ft2)
    (hg : ∀ (s : Shared) (H : Hp) (C : Addr) (cl : List (Str × Addr)) (fp : List Addr), PG (X.blk s H scope (compEnvC scope cl C X.env) fp) tg g)
    (hh : ∀ (s : Shared) (H : Hp) (C : Addr) (cl : List (Str × Addr)) (fp : List Addr), PDTs (X.blk s H scope (compEnvC scope cl C X.env) fp) W0 ifs tt)
    (hi2 : ∀ (s : Shared) (H : Hp) (C : Addr) (cl : List (Str × Addr)) (fp : List Addr), PDI (X.blk s H scope (compEnvC scope cl C X.env) fp) W0 tg2 iter2 e2 fi2)
    (hg2 : ∀ (s : Shared) (H : Hp) (C : Addr) (cl : List (Str × Addr)) (fp : List Addr), PG (X.blk s H scope (compEnvC scope cl C X.env) fp) tg2 g2)
    (hh2 : ∀ (s : Shared) (H : Hp) (C : Addr) (cl : List (Str × Addr)) (fp : List Addr), PDTs (X.blk s H scope (compEnvC scope cl C X.env) fp) W0 ifs2 tt2)
    (he : ∀ (s : Shared) (H : Hp) (C : Addr) (cl : List (Str × Addr)) (fp : List Addr), PD (X.blk s H scope (compEnvC scope cl C X.env) fp) W0 elt ee fe)
    (hts : ∀ t ∈ ts, t ∈ own.map (·.2) := by decide) (hts2 : ∀ t ∈ ts2, t ∈ vs1 := by decide) (hv : ∀ t ∈ vs1, t ∈ own.map (·.2) := by decide) (hs : ∀ x, foldedSetIterable iter X.env x = pure x := by intro _; rfl) (hs1 : ∀ env x, foldedSetIterable iter2 env x = pure x := by intro _ _; rfl) :
    PS X (.Assign [.Name y py] (.ListComp elt [⟨tg, iter, ifs, 0⟩, ⟨tg2, iter2, ifs2, 0⟩] scope pos) spos) (tAsg (tDF X.K W (es ++ (e2 ++ (ee ++ own.map (·.2)))) (fLc2 fi ft tt fi2 vs1 ft2 tt2 fe (own.map (·.2)))) (gName i)) :=
  PS.imp (ps_setLc2 (wi1 := tDI X.K W0 e2 fi2) (tt := tDT X.K W0 tt) (tt1 := tDT X.K W0 tt2) (te := tD X.K W0 ee fe) hc hN hy hyl hsw hi ok hv hg hh hi2 hg2 hh2 he hs hs1) fun D σ H h => tDF_lc2 ht ht2 hts hts2 hv σ H _ h
end

/-! ### a dict comprehension: keys ints or texts -/
def compDk (ft : D → Env → Option Env) (tt : Env → R Bool) (fk fv : Env → R D) (ρ : Env) : List D → List Key × List D → Option (List Key × List D)
  | [], a => some a
  | d :: ds, a => (ft d ρ).bind fun ρ1 => (tt ρ1).toO.bind fun b => if b = true then (fk ρ1).toO.bind fun k => (keyOf k).bind fun k => (fv ρ1).toO.bind fun y =>
      if a.1.length < sizeLine ∧ a.1.Nodup ∧ a.1.length = a.2.length then compDk ft tt fk fv ρ ds (putKD a.1 a.2 k y) else none
    else compDk ft tt fk fv ρ ds a
def fDc (fi : Env → R (List D)) (ft : D → Env → Option Env) (tt : Env → R Bool) (fk fv : Env → R D) (vs : List Nat) : Env → R D := fun ρ =>
  (fi ρ).bind fun ds => (R.ofO (compDk ft tt fk fv (wipeE ρ vs) ds ([], []))).bind fun r => .ok (.dk r.1 r.2)
section
variable {K : PySem.W.Frag} {W : WX} {es ek ee vs ts : List Nat} {fi : Env → R (List D)} {g : TG} {ft : D → Env → Option Env} {tt : Env → R Bool} {fk fe : Env → R D}
theorem tDF_dc (ht : TgD K g ts ft) (hts : ∀ t ∈ ts, t ∈ vs) : ∀ σ H Q, tDF K W (es ++ (ek ++ (ee ++ vs))) (fDc fi ft tt fk fe vs) σ H Q → tDc (tDI K W es fi) g (tDT K W0 tt) (tD K W0 ek fk) (tD K W0 ee fe) vs σ H Q := by
  intro σ H Q ⟨B, O, L, ρ, S, P⟩
  refine ⟨B, O, L, ρ, S, PostF.bind P fun ds J H1 e hJ fr P1 => ?_⟩
  intro Dl hD
  obtain ⟨ya, hya, P2⟩ := P1.ofO
  have hJ : JD K (hide (HS O (dropL es L)) H1) J ds := hJ
  generalize hEe : es ++ (ek ++ (ee ++ vs)) = E at P2
  have inE : ∀ i, (i ∈ es ∨ i ∈ ek ∨ i ∈ ee ∨ i ∈ vs) → i ∈ E := fun i h => by
    rw [← hEe]
    rcases h with h | h | h | h
    · exact List.mem_append_left _ h
    · exact List.mem_append_right _ (List.mem_append_left _ h)
    · exact List.mem_append_right _ (List.mem_append_right _ (List.mem_append_left _ h))
    · exact List.mem_append_right _ (List.mem_append_right _ (List.mem_append_right _ h))
  have P2 : ∀ p o H', H1 p = none → Same H1 H' → H' p = some o → Top K (hide (fun a => HS O (dropL E L) a ∨ a = p) H') o (.dk ya.1 ya.2) → Q (.ref p) H' := P2
  have S1 : SR K B O (dropL E L) σ H1 ρ := (S.ext e).drop _
  generalize hL2 : dropL E L = L2 at P2 S1
  have hn : ∀ v ∈ vs, L2 v = none := fun v hv => by
    rw [← hL2]
    exact dropL_yes (inE v (.inr (.inr (.inr hv))))
  have hsub : ∀ {es' : List Nat}, (∀ i ∈ es', i ∈ E) → dropL es' L2 = L2 := fun {es'} hs => by
    funext i
    by_cases m : i ∈ es'
    · rw [dropL_yes m, ← hL2, dropL_yes (hs i m)]
    · exact dropL_no m
  have lift : ∀ {H4 : Hp} {o : HO}, RdLe (hide (fun a => HS O L2 a ∨ a = Dl) H4) (hide (fun a => HS O L2 a ∨ a = Dl) (upd H4 Dl o)) := fun {H4 o} => hide_mono (fun _ z => z) fun a u n z => by
    rw [upd_ne fun y => n (.inr y)]
    exact z
  refine ⟨fun i m H => m = ds.length - i ∧ i ≤ ds.length ∧ Same H1 H ∧ ∃ us acc, H Dl = some (.dK us) ∧ RepL K (hide (fun a => HS O L2 a ∨ a = Dl) H) (us.map (·.2)) acc ∧ compDk ft tt fk fe (wipeE ρ vs) (ds.drop i) (us.map (·.1), acc) = some ya,
    ⟨ds.length, by simp, Nat.zero_le _, same_new hD, [], [], upd_same, rfl, hya⟩, ?_⟩
  rintro i m H ⟨rfl, hi, sH, us, acc, hDl, hr, hc⟩
  have ST := ((S1.inComp hD sH hDl).wipe1 vs hn)
  obtain ⟨j1, j2⟩ := hJ i H (HS (O.or Dl) L2) (by
    have key : ∀ a u, hide (HS O (dropL es L)) H1 a = some u → hide (HS (O.or Dl) L2) H a = some u := fun a u z => by
      obtain ⟨n, z⟩ := hide_some z
      rw [hide_no]
      · exact sH a u z
      · rintro ((y | y) | ⟨j, k, as, y, q⟩)
        · exact n (.inl y)
        · exact ne_of_none z hD y
        · rw [← hL2] at y
          obtain ⟨y1, y2⟩ := dropL_some y
          exact n (.inr ⟨j, k, as, by rw [dropL_no fun w => y1 (inE j (.inl w))]; exact y2, q⟩)
    exact RdLe.ofKey key) ST.hdom
  by_cases hlt : i < ds.length
  · obtain ⟨d, hd⟩ : ∃ d, ds[i]? = some d := ⟨ds[i], List.getElem?_eq_getElem hlt⟩
    obtain ⟨g1, gy⟩ := j1 d hd
    have hdr : ds.drop i = d :: ds.drop (i + 1) := by
      rw [List.drop_eq_getElem_cons hlt]
      rw [List.getElem?_eq_getElem hlt] at hd
      cases hd
      rfl
    rw [hdr] at hc
    unfold compDk at hc
    obtain ⟨ρ1, h1, hc⟩ := Option.bind_eq_some_iff.mp hc
    obtain ⟨b, h2, hc⟩ := Option.bind_eq_some_iff.mp hc
    refine .inr ⟨g1, fun H => Same H1 H ∧ ∃ us acc, H Dl = some (.dK us) ∧ RepL K (hide (fun a => HS O L2 a ∨ a = Dl) H) (us.map (·.2)) acc ∧ compDk ft tt fk fe (wipeE ρ vs) (ds.drop (i + 1)) (us.map (·.1), acc) = some ya, fun H2 q => ⟨ds.length - (i + 1), by omega, rfl, hlt, q⟩, fun x H2 y => ?_⟩
    obtain ⟨ee2, r2⟩ := gy x H2 y
    refine ht _ _ L2 (wipe σ vs) H2 (wipeE ρ vs) ρ1 x d _ (ST.ext ee2) r2 h1 fun σ3 S3 wp => ⟨(wp vs hts).trans wipe_wipe, ?_⟩
    rw [hsub fun t h => inE t (.inr (.inr (.inr (hts t h))))] at S3
    refine ⟨_, _, _, ρ1, S3, PostG.toO h2 fun b' H3 e3 hb => ?_⟩
    obtain rfl : b' = b := hb
    cases b' with
    | false =>
      rw [if_neg Bool.false_ne_true] at hc ⊢
      exact ⟨sH.trans (ee2.trans e3), us, acc, (S3.ext e3).same Dl _ upd_same, hr.mono (hide_same (fun _ z => z) (ee2.trans e3)), hc⟩
    | true =>
      rw [if_pos rfl] at hc ⊢
      obtain ⟨kd, h3, hc⟩ := Option.bind_eq_some_iff.mp hc
      obtain ⟨k, h4, hc⟩ := Option.bind_eq_some_iff.mp hc
      obtain ⟨yd, h5, hc⟩ := Option.bind_eq_some_iff.mp hc
      split at hc
      case isFalse => cases hc
      rename_i hz
      refine ⟨_, _, _, ρ1, S3.ext e3, PostG.toO h3 fun kv H4 e4 rk => ?_⟩
      refine ⟨_, _, _, ρ1, (S3.ext e3).ext e4, PostG.toO h5 fun yv H5 e5 ry => ?_⟩
      have hD5 : H5 Dl = some (.dK us) := (S3.ext (e3.trans (e4.trans e5))).same Dl _ upd_same
      have ekv : kv = kV k := key_rep h4 rk
      have hr5 : RepL K (hide (fun a => HS O L2 a ∨ a = Dl) H5) (us.map (·.2)) acc := hr.mono (hide_same (fun _ z => z) (ee2.trans (e3.trans (e4.trans e5))))
      have ry5 : Rep K (hide (fun a => HS O L2 a ∨ a = Dl) H5) yv yd := by
        refine Rep.mono (hide_same (fun a z => ?_) (Same.refl H5)) ry
        rw [hsub fun t h => inE t (.inr (.inr (.inl h)))]
        rcases z with (z | z) | z
        · exact .inl (.inl z)
        · exact .inr z
        · exact .inl (.inr z)
      have hz1 : us.length < sizeLine := by
        have q := hz.1
        rw [List.length_map] at q
        exact q
      obtain ⟨p1, p2⟩ := put_rel (x := k) ry5 hz.2.1 hr5
      refine ⟨us, k, ekv, hD5, hz1, fun a u z => ?_, putK us k yv, (putKD (us.map (·.1)) acc k yd).2, upd_same, p2.mono lift, ?_⟩
      · rw [upd_ne (ne_of_none z hD)]
        exact (sH.trans (ee2.trans (e3.trans (e4.trans e5)))) a u z
      · rw [p1]
        exact hc
  · have hi2 : i = ds.length := by omega
    subst hi2
    rw [List.drop_length] at hc
    cases hc
    exact .inl ⟨j2 (Nat.le_refl _), P2 Dl (.dK us) H hD sH hDl ⟨rfl, hr⟩⟩
end
section
variable {X : Cx} {W : WX} {kx vx tg iter : Expr} {ifs : List Expr} {scope : Scope} {own : List (Str × Nat)} {pos : Pos} {es ek ee ts : List Nat} {fi : Env → R (List D)} {g : TG} {ft : D → Env → Option Env} {tt : Env → R Bool} {fk fe : Env → R D}
theorem pdf_dc (hc : X.calm = true) (hN : X.N.Nodup) (hi : PDI X W tg iter es fi) (ok : BlkOk X.N X.env.scope scope own) (ht : TgD X.K g ts ft)
    (hg : ∀ (s : Shared) (H : Hp) (C : Addr) (cl : List (Str × Addr)) (fp : List Addr), PG (X.blk s H scope (compEnvC scope cl C X.env) fp) tg g)
    (hh : ∀ (s : Shared) (H : Hp) (C : Addr) (cl : List (Str × Addr)) (fp : List Addr), PDTs (X.blk s H scope (compEnvC scope cl C X.env) fp) W0 ifs tt)
    (hk : ∀ (s : Shared) (H : Hp) (C : Addr) (cl : List (Str × Addr)) (fp : List Addr), PD (X.blk s H scope (compEnvC scope cl C X.env) fp) W0 kx ek fk)
    (he : ∀ (s : Shared) (H : Hp) (C : Addr) (cl : List (Str × Addr)) (fp : List Addr), PD (X.blk s H scope (compEnvC scope cl C X.env) fp) W0 vx ee fe)
    (hts : ∀ t ∈ ts, t ∈ own.map (·.2) := by decide) (hs : ∀ x, foldedSetIterable iter X.env x = pure x := by intro _; rfl) : PDF X W (.DictComp kx vx [⟨tg, iter, ifs, 0⟩] scope pos) (es ++ (ek ++ (ee ++ own.map (·.2)))) (fDc fi ft tt fk fe (own.map (·.2))) :=
  PE.imp (pe_dc (tt := tDT X.K W0 tt) (tk := tD X.K W0 ek fk) (tv := tD X.K W0 ee fe) hc hN hi ok hg hh hk he hs) (tDF_dc ht hts)
end

/-! ### d.get(k), d.get(k, x) -/
def gDGet : D → D → D → Option D := fun c k x => (dgetD c k).map fun o => o.getD x
def isDct : D → Bool
  | .dk _ _ => true
  | .dt _ _ => true
  | .fk _ _ => true
  | .ft _ _ => true
  | _ => false
def fDGet (fc fk fx : Env → R D) : Env → R D := fun ρ => (fc ρ).bind fun c => if isDct c = true then (fk ρ).bind fun k => (fx ρ).bind fun x => R.ofO (gDGet c k x) else .stuck
section
variable {X : Cx} {W : WX} {o e f : Expr} {apos cpos : Pos} {eo ek ex : List Nat} {fo fk fx : Env → R D}
theorem isDct_rep {K : PySem.W.Frag} {P : Addr → Prop} {H : Hp} {x : V} {c : D} (r : Rep K (hide P H) x c) (h : isDct c = true) : ∃ a, x = .ref a ∧ IsD H a := by
  cases c <;> first | (cases h; done) | skip
  · obtain ⟨a, us, e, h1, _⟩ := r
    exact ⟨a, e, .inl ⟨us, hide_rd h1⟩⟩
  · obtain ⟨a, us, e, h1, _⟩ := r
    exact ⟨a, e, .inr ⟨us, hide_rd h1⟩⟩
  · obtain ⟨a, oo, us, e, h1, _⟩ := r
    exact ⟨a, e, .inl ⟨us, .inr ⟨oo, (hide_some h1).2⟩⟩⟩
  · obtain ⟨a, oo, us, e, h1, _⟩ := r
    exact ⟨a, e, .inr ⟨us, .inr ⟨oo, (hide_some h1).2⟩⟩⟩
theorem pd_dget2 (hu : X.A.units + 1 < cLine) (ho : PD X W o eo fo) (he : PD X W e ek fk) (hf : PD X W f ex fx) (m : M2 X o "get" apos e f cpos := by first | exact ⟨rfl, rfl, rfl, rfl⟩ | constructor <;> rfl) :
    PD X W (.Call (.Attribute o "get" apos) [e, f] [] cpos) (eo ++ (ek ++ ex)) (fDGet fo fk fx) := PE.imp (pe_dget2 hu ho he hf m) fun σ H Q ⟨B, O, L, ρ, S, P⟩ => ⟨B, O, L, ρ, S, PostG.bind P fun c x H1 e1 r1 P1 => by
  have r1 : Rep X.K (hide (HS O (dropL eo L)) H1) x c := r1
  split at P1
  case isFalse => exact P1.elim
  rename_i hc
  obtain ⟨a, ea, ia⟩ := isDct_rep r1 hc
  refine ⟨a, ea, ia, B, O, L, ρ, S.ext e1, PostG.bind P1 fun k y H2 e2 r2 P2 => ⟨B, O, L, ρ, (S.ext e1).ext e2, PostG.bind P2 fun z u H3 e3 r3 P3 => ?_⟩⟩
  obtain ⟨d, hd, P4⟩ := P3.ofO
  obtain ⟨w, hw, hd⟩ := Option.map_eq_some_iff.mp hd
  have lift : ∀ {es : List Nat} {G : Hp} {v : V} {d : D}, (∀ i ∈ es, i ∈ eo ++ (ek ++ ex)) → Same G H3 → Rep X.K (hide (HS O (dropL es L)) G) v d → Rep X.K (hide (HS O (dropL (eo ++ (ek ++ ex)) L)) H3) v d := fun hs e r => drop_mono hs e r
  have ra := lift (fun i h => List.mem_append_left _ h) (e2.trans e3) r1
  have rb := lift (fun i h => List.mem_append_right _ (List.mem_append_left _ h)) e3 r2
  have rc := lift (fun i h => List.mem_append_right _ (List.mem_append_right _ h)) (Same.refl H3) r3
  obtain ⟨p, ov, ep, g, rel⟩ := dget_rep ra rb hw
  rw [ea] at ep
  cases ep
  refine ⟨ov, g, P4 _ H3 (Same.refl H3) ?_⟩
  subst hd
  cases ov <;> cases w <;> first | exact rel.elim | exact rc | exact rel⟩
end

/-! ### x[i] += n for a list that is owned -/
def rGetL (K : PySem.W.Frag) : V → V → Hp → VK → Prop := fun o i H Q => ∃ a xs j v, o = .ref a ∧ i = .int j ∧ H a = some (.lst xs) ∧ atI xs j = some v ∧ Q v H
def fAugS (k : Nat) (f : Int → Int → Int) (fe fi : Env → R D) : Env → Out := fun ρ => stE (fi ρ) ρ fun i =>
  match ρ[k]?, i with
  | some (some (.lst ds)), .int j => (match atI ds j with
    | some (.int a) => stE (fe ρ) ρ fun d => (match d, ixN ds.length j with
      | .int b, some n => .nx (ρ.set k (some (.lst (ds.set n (.int (f a b))))))
      | _, _ => .stuck)
    | _ => .stuck)
  | _, _ => .stuck
section
variable {X : Cx} {W : WX} {ow ow' : Ow} {owl : Ox} {st : Stmt} {es ei : List Nat} {fe fi : Env → R D}
theorem pds_augS {k : Nat} {f : Int → Int → Int} (h : PS X st (tAugS (tVar k) (tD X.K W ei fi) (tD X.K W es fe) (rGetL X.K) (ipI f) rSetL)) (hi : (k, 1) ∈ ow := by decide) (hn : k ∉ ei ++ es := by decide) (ho : ∀ p ∈ ow', p ∈ ow ∧ p.1 ∉ ei ++ es := by decide) (hx : ∀ p ∈ owl.rx, p ∈ ow := by decide) :
    PDS X W ow ow' owl st (fAugS k f fe fi) := PS.imp h fun D σ H ⟨B, O, L, ρ, S, w, P⟩ => by
  obtain ⟨as, hL⟩ := w (k, 1) hi
  obtain ⟨v0, d0, hs0, hd0, hown⟩ := S.owns k 1 as hL
  refine ⟨v0, hs0, B, O, L, ρ, S, PostS.bind P S (w.sub hx) fun i y H1 e1 r1 P1 => ?_⟩
  rw [hd0] at P1
  cases d0 <;> first | exact P1.elim | skip
  rename_i ds
  cases i <;> first | exact P1.elim | skip
  rename_i j
  obtain rfl : y = .int j := r1
  have P1 : PostS X.K B O W ow' owl (match atI ds j with
    | some (.int a) => stE (fe ρ) ρ fun d => (match d, ixN ds.length j with
      | .int b, some n => .nx (ρ.set k (some (.lst (ds.set n (.int (f a b))))))
      | _, _ => .stuck)
    | _ => .stuck) D := P1
  cases q : atI ds j with
  | none => rw [q] at P1; exact P1.elim
  | some da =>
    rw [q] at P1
    cases da <;> first | exact P1.elim | skip
    rename_i a
    have S1 := (S.ext e1).drop (ei ++ es)
    have hL1 : dropL (ei ++ es) L k = some (1, as) := by rw [dropL_no hn]; exact hL
    obtain ⟨p, o, hs, ha, hb, hp, t⟩ := S1.top hL1 hd0 rfl
    rw [hs0] at hs
    cases hs
    have list_of : ∀ {H : Hp} {L : Lm} {o : HO}, H p = some o → Top X.K (hide (HS O L) H) o (.lst ds) → ∃ vs, o = .lst vs ∧ RepL X.K (hide (HS O L) H) vs ds := fun {H L o} hp t => by
      cases o <;> first | exact t.elim | exact ⟨_, rfl, t⟩
    obtain ⟨vs, rfl, rv⟩ := list_of hp t
    obtain ⟨va, hva, rva⟩ := atI_rep rv q
    obtain rfl : va = .int a := rva
    refine ⟨p, vs, j, .int a, rfl, rfl, hp, hva, B, O, L, ρ, S.ext e1, PostS.bind P1 (S.ext e1) (w.sub hx) fun d u H2 e2 r2 P2 => ?_⟩
    cases d <;> first | exact P2.elim | skip
    rename_i b
    obtain rfl : u = .int b := r2
    have P2 : PostS X.K B O W ow' owl (match (DL.D.int b), ixN ds.length j with
      | .int b, some n => .nx (ρ.set k (some (.lst (ds.set n (.int (f a b))))))
      | _, _ => .stuck) D := P2
    cases hn2 : ixN ds.length j with
    | none => rw [hn2] at P2; exact P2.elim
    | some n =>
      rw [hn2] at P2
      have S2 := S1.ext e2
      subst ha
      obtain ⟨p', o', hs', ha', hb', hp', t'⟩ := S2.top hL1 hd0 rfl
      cases ha'
      obtain ⟨us, rfl, ru⟩ := list_of hp' t'
      refine ⟨a, b, rfl, rfl, p, us, j, n, rfl, rfl, hp', by rw [ru.length]; exact hn2, ?_⟩
      exact P2 σ _ _ (S2.change (o := .lst (us.set n (.int (f a b)))) (d' := .lst (ds.set n (.int (f a b)))) hL1 hs' ⟨_, hd0⟩ (RepL.set (show Rep X.K _ (V.int (f a b)) (DL.D.int (f a b)) from rfl) n ru)) (w.drop ho)
end
theorem pg_lst1 {X : Cx} : PGet X (rGetL X.K) := by
  intro pins s σ H o i ov iv Q I ro ri h
  obtain ⟨a, xs, j, v, rfl, rfl, ha, hv, q⟩ := h
  cases ro
  obtain ⟨t, rfl⟩ := ri
  obtain ⟨its, r, pl, hz⟩ := I.list (SqL.of ha)
  obtain ⟨n, h1, h2, h3, h4, h5⟩ := atI_get hv
  obtain ⟨w, ew, rw'⟩ := r.get h2
  have hl := r.length
  have hn := line63
  have fin : EP X pins σ Q w s := ⟨v, H, I, rw', q⟩
  by_cases h0 : 0 ≤ j
  · have hj : j.toNat = n := by
      rw [seqIndex_of h0 h5] at h1
      exact Option.some.inj h1
    exact wpAny_getItem_list pl.isList h0 (by omega) (by rw [hj]; simpa using ew) fin
  · have hj : (j + (its.toArray.size : Int)).toNat = n := by
      rw [seqIndex_neg (by omega) h4] at h1
      rw [List.size_toArray, ← hl]
      exact Option.some.inj h1
    exact wpAny_getItem_list_neg pl.isList (by omega) (by rw [List.size_toArray] <;> omega) (by omega) (by rw [hj]; simpa using ew) fin

/-! ### isinstance of a built-in class -/
def tyD : D → Option String
  | .non => some "NoneType"
  | .bl _ => some "bool"
  | .int _ => some "int"
  | .str _ => some "str"
  | .lst _ => some "list"
  | .tup _ => some "tuple"
  | .dk _ _ => some "dict"
  | .fk _ _ => some "dict"
  | _ => none
def tyNames : List String := ["NoneType", "bool", "int", "str", "list", "tuple", "dict"]
def isiB (a b : String) : Bool := a == b || (a == "bool" && b == "int")
theorem kitB_all : ∀ a ∈ tyNames, ∀ b ∈ tyNames, kitB a b = some (isiB a b) := by decide +kernel
theorem tyD_mem {d : D} {a : String} (h : tyD d = some a) : a ∈ tyNames := by
  cases d <;> first | (cases h; done) | (cases h; decide)
theorem tyD_rep {K : PySem.W.Frag} {P : Addr → Prop} {H : Hp} {v : V} {d : D} {a : String} (h : tyD d = some a) (r : Rep K (hide P H) v d) : TyX K H v (.type a) := by
  cases d <;> first | (cases h; done) | cases h
  · obtain rfl : v = .non := r
    exact .base .non
  · obtain rfl := (show v = V.bl _ from r)
    exact .base (.bl _)
  · obtain rfl := (show v = V.int _ from r)
    exact .base (.int _)
  · obtain ⟨rfl, _⟩ := r
    exact .base (.str _)
  · obtain ⟨a, vs, rfl, h1, _⟩ := r
    rcases hide_rd h1 with z | ⟨o, z⟩
    · exact .base (.lst z)
    · exact .base (.frz z)
  · obtain ⟨a, vs, rfl, h1, _⟩ := r
    exact .base (.tup (hide_some h1).2)
  · obtain ⟨a, vs, rfl, h1, _⟩ := r
    rcases hide_rd h1 with z | ⟨o, z⟩
    · exact .base (.dK z)
    · exact .fDict z
  · obtain ⟨a, o, vs, rfl, h1, _⟩ := r
    exact .fDict (hide_some h1).2
def gIsi (b : String) : D → Option D := fun d => (tyD d).map fun a => .bl (isiB a b)
def fIsi (b : String) (fe : Env → R D) : Env → R D := fun ρ => (fe ρ).bind fun d => R.ofO (gIsi b d)
section
variable {X : Cx} {W : WX} {e : Expr} {es : List Nat} {fe : Env → R D} {p p2 pos : Pos} {x : Str}
theorem pe_tyN {T : String} (hg : Gl X x) (hm : X.mg x = none) (hb : bootBuiltins x = some (.type T)) (hn : x ≠ "__name__") (hdb : (x == ("__debug__" : Str)) = false) : PE X (.Name x p) (fun _ H Q => Q (.ty T) H) :=
  ⟨fun pins s σ H Q I h => ld_blt I hg hm hb ⟨.ty T, H, I, rfl, h⟩ hn hdb⟩
theorem pd_isi {T : String} (hg : Gl X "isinstance") (hm : X.mg "isinstance" = none) (hi : bootBuiltins "isinstance" = some (.builtin "isinstance")) (hg2 : Gl X x) (hm2 : X.mg x = none) (hb : bootBuiltins x = some (.type T)) (h : PD X W e es fe) (hT : T ∈ tyNames := by decide)
    (hn : x ≠ "__name__" := by decide) (hdb : (x == ("__debug__" : Str)) = false := by decide) (s1 : starEach [e, .Name x p2] X.env = (false, eval e X.env) :: starEach [.Name x p2] X.env := by rfl) (s2 : starEach [.Name x p2] X.env = (false, eval (.Name x p2) X.env) :: starEach [] X.env := by rfl)
    (hpl : (backTo pos (starEach [.Name x p2] X.env)).any (·.1) = false := by rfl) :
    PD X W (.Call (.Name "isinstance" p) [e, .Name x p2] [] pos) [] (fIsi T fe) := PE.imp (pe_callB call_isi hg hm hi (pa_cons h (pa_cons (pe_tyN hg2 hm2 hb hn hdb) pa_nil s2) s1) (by decide) (by decide) s1 hpl) fun σ H Q ⟨B, O, L, ρ, S, P⟩ => ⟨B, O, L, ρ, S, PostG.bind P fun d v H1 e1 r1 P1 => by
  obtain ⟨w, hd, k⟩ := P1.ofO
  obtain ⟨a, ha, hw⟩ := Option.map_eq_some_iff.mp hd
  subst hw
  exact ⟨v, .ty T, .type a, .type T, isiB a T, rfl, .ty T, tyD_rep ha r1, kit_ty (kitB_all a (tyD_mem ha) T hT), k _ H1 (Same.refl H1) rfl⟩⟩
end
theorem boot_int : bootBuiltins "int" = some (.type "int") := by decide +kernel
theorem boot_str : bootBuiltins "str" = some (.type "str") := by decide +kernel
theorem boot_list : bootBuiltins "list" = some (.type "list") := by decide +kernel
theorem boot_tuple : bootBuiltins "tuple" = some (.type "tuple") := by decide +kernel
theorem boot_dict : bootBuiltins "dict" = some (.type "dict") := by decide +kernel
theorem boot_bool : bootBuiltins "bool" = some (.type "bool") := by decide +kernel
theorem boot_any : bootBuiltins "any" = some (.builtin "any") := by decide +kernel
theorem boot_all : bootBuiltins "all" = some (.builtin "all") := by decide +kernel
theorem boot_sum : bootBuiltins "sum" = some (.builtin "sum") := by decide +kernel
theorem boot_len : bootBuiltins "len" = some (.builtin "len") := by decide +kernel
theorem boot_isinstance : bootBuiltins "isinstance" = some (.builtin "isinstance") := by decide +kernel
/-! what is never reached -/
theorem pds_any {X : Cx} {W : WX} {ow ow' : Ow} {owl : Ox} {st : Stmt} : PDS X W ow ow' owl st (fun _ => .stuck) := ⟨fun pins s σ H D I ⟨B, O, L, ρ, S, w, P⟩ => P.elim⟩
theorem pd_any {X : Cx} {W : WX} {e : Expr} : PD X W e [] (fun _ => .stuck) := ⟨fun pins s σ H Q I ⟨B, O, L, ρ, S, P⟩ => P.elim⟩
theorem pdb_any {X : Cx} {W : WX} {ow ow' : Ow} {owl : Ox} {st : List Stmt} : PDB X W ow ow' owl st (fun _ => .stuck) := ⟨fun pins s σ H D I ⟨B, O, L, ρ, S, w, P⟩ => P.elim⟩
end DL
set_option Elab.async false
set_option linter.all false
set_option maxRecDepth 100000
namespace DL
open PySem PySem.W PySem.Calls PyProof.Rows L2

/-! ### super().__init__('text') as the first row of an exception's __init__ -/
/-- what the written part says of class C whose __init__ (at f, its cell at cc, its code at cda) says so -/
structure SupC (P : Program) (K : PySem.W.Frag) (C cc cda : Addr) : Prop where
  code : ∃ ccl cdd ccs vs file tf, K.lookup cda = some ⟨ccl, cdd, .fields vs, ccs⟩ ∧ vs[2]? = some (.str file tf) ∧ ((P.main.file : Str) == file) = true
  cell : ∃ cl cld csl, K.lookup cc = some ⟨cl, cld, .cell (some (.ref C)), csl⟩
  cls : ∃ cd, clsIn K C = some cd
  mro : mroIn K C (.ref C) = some true
  sup : ks_superIn K C C "__init__" = some (some (.builtin "ValueError.__init__"))
  ve : subIn K (.ref C) (.type "ValueError") = some true
  tp : nsIn K cStatics "thirdparty.any" = some none
  ini : excInitIn K C [.type "ValueError", .type "Exception", .type "BaseException", .type "object"] "ValueError.__new__" = true
section
variable {P : Program} {w : World} {K : PySem.W.Frag} {mg : Str → Option Value} {base : Heap} {A : Around} {E : Value → Shared → Prop} {s : Shared} {h₀ : Heap} {L a C cc cda f t0 : Addr} {m : Str → Option Value}
theorem sup_row {q : Str} {scope : Scope} {body : List Stmt} {p0 p1 ap p2 pos pos' : Pos} {x : Str} {j : Nat} {Q : Flow → Shared → Prop} {of : Obj} {fd : FuncData} {ar : Arg} (M : Mod K mg base) (kb : ∀ b o, base.get? b = some o → h₀.get? b = some o) (S : SupC P K C cc cda)
    (F : Fr h₀ L s.heap m) (N : News h₀ L s.heap [(a, excObj C t0 none .none)]) (hf : K.lookup f = some of) (hfd : of.data = .func fd) (hp : (fd.params.posonlyargs ++ fd.params.args).head? = some ar) (hv : m ar.arg = some (.ref a))
    (mS : mg "super" = none) (hk : scope.kind = .function) (hks : scope.names.lookup ("super" : Str) = some .globalImplicit) (hkc : scope.names.lookup ("__class__" : Str) = some .free) (hka : scope.names.lookup ar.arg = some .local)
    (htop : (P.main.scope.names.lookup ("super" : Str)).isSome = false) {pl : Sem Bool}
    (he : eval (.Call (.Attribute (.Call (.Name "super" p0) [] [] p1) "__init__" ap) [.Constant (.str x) j p2] [] pos) (ksEnv q scope L f (.ref cda) cc) = (do
      let ov ← attributeBase (.Call (.Name "super" p0) [] [] p1) "__init__" (ksEnv q scope L f (.ref cda) cc) (eval (.Call (.Name "super" p0) [] [] p1) (ksEnv q scope L f (.ref cda) cc))
      standAt ap.atName
      let (g, first) ← holding [ov] (getMethod ov "__init__" pl)
      callWith pos g first (backTo pos (starEach [.Constant (.str x) j p2] (ksEnv q scope L f (.ref cda) cc))) []))
    (h : ∀ h' t' tk, Fr h₀ L h' m → News h₀ L h' [(a, excObj C t' none .none)] → Q .next { s with heap := h', toks := tk }) :
    _root_.PySem.wpAt (model P w) A (.func body (ksEnv q scope L f (.ref cda) cc)) (exec (.Expr (.Call (.Attribute (.Call (.Name "super" p0) [] [] p1) "__init__" ap) [.Constant (.str x) j p2] [] pos) pos') (ksEnv q scope L f (.ref cda) cc)) Q E s := by
  obtain ⟨ccl, cdd, ccs, vs, file, tf, hcode, hvs, hfile⟩ := S.code
  obtain ⟨cl, cld, csl, hcell⟩ := S.cell
  obtain ⟨cdC, hcls⟩ := S.cls
  obtain ⟨mb, hb1, hb2⟩ := M.blt
  have X₀ : K.In h₀ := M.kin.keeps kb
  have X : K.In s.heap := X₀.keeps F.keep
  have kall : ∀ b o, base.get? b = some o → s.heap.get? b = some o := fun b o e => F.keep b o (kb b o e)
  have ho := (N (a, excObj C t0 none .none) List.mem_cons_self).1
  have I : InstAt s.heap a (excObj C t0 none .none) C none := ⟨ho, rfl, rfl, trivial⟩
  obtain ⟨oD, hD1, hD2⟩ : ∃ oD, s.heap.get? C = some oD ∧ oD.data = .cls cdC := by
    have z := hcls
    unfold clsIn at z
    split at z
    · rename_i c d cd' sl hc
      cases z
      exact ⟨_, X _ _ hc, rfl⟩
    · cases z
  refine ks_wpAt_Expr_any ?_ (by unfold interactive; rw [hk]; rfl)
  refine ks_wpAt_MethodCall (pl := pl) ?_ he
  refine ks_wpAt_super_base hks hkc rfl rfl (X _ _ hf) hfd hp rfl (X _ _ hcode) rfl hvs hfile htop ?_
  refine ks_loadName_global hk hks (loadGlobal_builtin (env := ksEnv q scope L f (.ref cda) cc) (M.glob.keeps kall) mS (hb1.keeps kall) ((hb2 "super" (by decide)).trans (by decide +kernel)) ⟨rfl, ?_⟩)
  refine wpAny_loadName_free hk hkc rfl ⟨_, X _ _ hcell, rfl⟩ ?_
  refine wpAny_loadName_local hk hka F.ns hv ?_
  refine ks_wpAny_isType_cls hD1 hD2 ⟨rfl, ?_⟩
  refine ks_wpAny_call_super hD1 hD2 I.at_ I.cls (fun c e => by cases e) (looks_mroIn X S.mro) fun h1 e1 k1 => ?_
  obtain ⟨F1, N1, l1⟩ := ks_newsPush F N rfl e1 k1
  refine kxs_method kxs_ValueError (s := { s with heap := h1 }) F1 X₀ N1 List.mem_cons_self (InstAt.of_exc0 N1 (.tail _ List.mem_cons_self)) S.tp S.sup S.ve (by decide) fun u h2 F2 N2 l2 => ?_
  refine kxs_callWith1 N2 List.mem_cons_self (spliced_cons ?_)
  refine (Constant_str ?_ : wpAny (model P w) A (eval (.Constant (.str x) j p2) (ksEnv q scope L f (.ref cda) cc)) _ _ _)
  refine spliced_nil ⟨kxs_at N2 List.mem_cons_self, ?_⟩
  have ne1 : s.heap.objs.size ≠ a := fun z => absurd (l1 _ List.mem_cons_self) (by rw [z]; exact Nat.lt_irrefl _)
  have ne2 : u ≠ a := fun z => absurd (l2 _ (.tail _ List.mem_cons_self)) (by rw [z]; exact Nat.lt_irrefl _)
  refine kxs_call F2 X₀ N2 PySem.F.excBase_ValueError S.ini List.mem_cons_self (.tail ne2 (.tail ne1 (.head fun _ z => (List.not_mem_nil z).elim))) (by simp only [List.length_cons, List.length_nil]; decide) fun t' h3 F3 N3 l3 => ?_
  exact h h3 t' _ F3 fun p hp => by
    rw [List.mem_singleton.mp hp]
    exact N3 _ (.tail _ (.tail _ (.tail _ List.mem_cons_self)))
end

/-! ### .. and the def around it -/
structure ScI (N ps : List Str) (sc : Scope) : Prop where
  kind : sc.kind = .function
  co : sc.isCoroutine = false
  gen : sc.isGenerator = false
  nd : N.Nodup
  pre : N.take ps.length = ps
  par : ∀ x ∈ ps, sc.names.lookup x = some .local
  nocell : ∀ y ∈ sc.names, y.2 ≠ .cell
  free : ∀ y ∈ sc.names, y.2 = .free → y.1 = "__class__"
  cls : sc.names.lookup ("__class__" : Str) = some .free
  sup : sc.names.lookup ("super" : Str) = some .globalImplicit
def cxI (CX : CXT) (P : Program) (w : World) (K : PySem.W.Frag) (mg : Str → Option Value) (base : Heap) (N : List Str) (qual : Str) (scope : Scope) (f cda cc : Addr) (A : Around) (outer : List PySem.Env) (s : Shared) (H : Hp) (E : XK) : Cx where
  prog := P
  w := w
  K := K
  mg := mg
  base := base
  A := A.deeper (ksEnv qual scope s.heap.objs.size f (.ref cda) cc)
  N := N
  s_0 := s
  H_0 := H
  env := ksEnv qual scope s.heap.objs.size f (.ref cda) cc
  outer := outer
  stack := ksEnv qual scope s.heap.objs.size f (.ref cda) cc :: outer
  ex := []
  calm := true
  fn := fun x => decide (x ≠ "__class__")
  pn := []
  xe := fun e s' => wpAny (model P w) (A.deeper (ksEnv qual scope s.heap.objs.size f (.ref cda) cc)) (leaving (ksEnv qual scope s.heap.objs.size f (.ref cda) cc) e) (fun _ s'' => CX outer H s E e s'') (fun e' s'' => CX outer H s E e' s'') s'
theorem zip_lookup {x : Str} {u : Value} : ∀ {ps : List Str} {us : List Value} {i : Nat}, ps.Nodup → ps[i]? = some x → us[i]? = some u → (ps.zip us).reverse.lookup x = some u := by
  intro ps us i nd h1 h2
  have key : ∀ {l : List (Str × Value)}, (∀ v, (x, v) ∈ l → v = u) → (x, u) ∈ l → l.lookup x = some u := by
    intro l
    induction l with
    | nil => intro _ h; cases h
    | cons p l ih =>
      intro h m
      obtain ⟨y, v⟩ := p
      by_cases e : x = y
      · subst e
        have := h v List.mem_cons_self
        subst this
        simp [List.lookup]
      · have e' : (x == y) = false := by simpa using e
        simp only [List.lookup, e']
        refine ih (fun v hv => h v (List.mem_cons_of_mem _ hv)) ?_
        rcases List.mem_cons.mp m with q | q
        · cases q
          exact absurd rfl e
        · exact q
  have at_ : ∀ {ps : List Str} {us : List Value} {i : Nat}, ps[i]? = some x → us[i]? = some u → (x, u) ∈ ps.zip us := by
    intro ps
    induction ps with
    | nil => intro us i h; cases i <;> cases h
    | cons p ps ih =>
      intro us i h1 h2
      cases us with
      | nil => cases i <;> cases h2
      | cons v us =>
        cases i with
        | zero => cases h1; cases h2; exact List.mem_cons_self
        | succ i => exact List.mem_cons_of_mem _ (ih h1 h2)
  have one : ∀ {ps : List Str} {us : List Value} {i : Nat}, ps.Nodup → ps[i]? = some x → us[i]? = some u → ∀ v, (x, v) ∈ ps.zip us → v = u := by
    intro ps
    induction ps with
    | nil => intro us i _ h; cases i <;> cases h
    | cons p ps ih =>
      intro us i nd h1 h2 v hv
      rw [List.nodup_cons] at nd
      cases us with
      | nil => cases hv
      | cons v0 us =>
        cases i with
        | zero =>
          cases h1
          cases h2
          rcases List.mem_cons.mp hv with q | q
          · cases q
            rfl
          · exact absurd (List.of_mem_zip q).1 nd.1
        | succ i =>
          rcases List.mem_cons.mp hv with q | q
          · cases q
            exact absurd (List.mem_of_getElem? (show ps[i]? = some x from h1)) nd.1
          · exact ih nd.2 h1 h2 v q
  refine key (fun v hv => one nd h1 h2 v (List.mem_reverse.mp hv)) (List.mem_reverse.mpr (at_ h1 h2))
section
variable {CX : CXT} {P : Program} {w : World} {K : PySem.W.Frag} {mg : Str → Option Value} {base : Heap} {N ps : List Str} {qual : Str} {scope : Scope} {f a C cda cc t1 : Addr} {A : Around} {outer : List PySem.Env} {s : Shared} {H : Hp} {E : XK} {us : List Value} {vs : List V} {h' : Heap} {tk : Nat}
theorem inv_sup (Sc : ScI N ps scope) (S : SupC P K C cc cda) (hd : A.handled = none) (e0 : Env0 P w K mg base A outer s H) (hl : vs.length = ps.length) (r : Vals vs us) (ha : H a = some (exo a C none))
    (F : Fr (hideAll s.heap [a]) s.heap.objs.size h' (fun y => (ps.zip us).reverse.lookup y)) (hx : h'.get? a = some (excObj C t1 none .none)) :
    Inv (cxI CX P w K mg base N qual scope f cda cc A outer s H E) [] (L2.start N vs) H { s with heap := h', toks := tk } := by
  have kp : ∀ b o, b ≠ a → s.heap.get? b = some o → h'.get? b = some o := fun b o n e => F.keep b o (hideAll_get [a] e fun z => n (List.mem_singleton.mp z))
  have nk : ∀ b o, base.get? b = some o → b ≠ a := fun b o e z => by
    have q := (e0.bs b o e).2
    rw [z, ha] at q
    cases q
  obtain ⟨cl, cld, csl, hcell⟩ := S.cell
  have hcb : base.get? cc = some ⟨cl, cld, .cell (some (.ref C)), csl⟩ := e0.mod.kin _ _ hcell
  have noA : ∀ b : Addr, b ∉ (cxI CX P w K mg base N qual scope f cda cc A outer s H E).ex := fun b z => absurd (show b ∈ ([] : List Addr) from z) (by simp)
  have cl1 : ∀ {x : Str} {c : Addr}, (cxI CX P w K mg base N qual scope f cda cc A outer s H E).env.cells.lookup x = some c → x = "__class__" ∧ c = cc := fun {x c} e => by
    have e : ([("__class__", cc)] : List (Str × Addr)).lookup x = some c := e
    by_cases q : x = "__class__"
    · subst q
      simp [List.lookup] at e
      exact ⟨rfl, e.symm⟩
    · have q' : (x == ("__class__" : Str)) = false := by simpa using q
      simp only [List.lookup, q'] at e
      cases e
  have un : Un (cxI CX P w K mg base N qual scope f cda cc A outer s H E).fs [] H H s.heap h' := {
    keep := fun b o e n _ _ => kp b o (fun z => by rw [z, ha] at n; cases n) e
    slot := fun b o e n _ _ => ⟨o.slots, kp b o (fun z => by rw [z, ha] at n; cases n) e⟩
    free := fun _ _ _ n _ => n
    there := fun b o e _ => by
      by_cases z : b = a
      · rw [z]
        exact ⟨_, hx⟩
      · exact ⟨o, kp b o z e⟩
    tups := fun _ _ q => q
    frzs := fun _ _ _ q => q
    tbls := fun _ ps q => ⟨#[], by rw [q]; simp⟩ }
  refine ⟨⟨e0.mod, Sc.kind, rfl, rfl, Nat.le_refl _, fun x y c h1 h2 => ?_, fun x hk => ?_, fun x c hfn h => ?_, fun _ => hd, Around.frames_deeper e0.frames, .inr ⟨rfl, rfl⟩, fun b z => absurd z (noA b), e0.bs, e0.bsz, fun b _ _ => noA b, fun b z => absurd z (noA b), e0.funs, e0.frf⟩,
    rfl, e0.bare, un, ⟨_, F.ns, fun i y v h1 h2 h3 => ?_⟩, fun x c h => ?_, e0.hok.fresh (Nat.le_refl _), fun x c h => ?_, fun p hp => absurd (show p ∈ ([] : List (Addr × Obj)) from hp) (by simp), fun b o q => ?_, ?_⟩
  · rw [(cl1 h1).1, (cl1 h2).1]
  · have hk : scope.names.lookup x = some .cell ∨ scope.names.lookup x = some .free := hk
    rcases hk with hk | hk
    · exact absurd rfl (Sc.nocell _ (PySem.mem_of_lookup hk))
    · have q : x = "__class__" := Sc.free _ (PySem.mem_of_lookup hk) rfl
      subst q
      exact ⟨cc, rfl⟩
  · have q := (cl1 h).1
    have hfn : decide (x ≠ "__class__") = true := hfn
    rw [q] at hfn
    exact absurd hfn (by decide)
  · have hi : i < vs.length := by
      unfold L2.start at h2
      by_cases hi : i < vs.length
      · exact hi
      · rw [List.getElem?_append_right (by simpa using hi), List.getElem?_replicate] at h2
        split at h2 <;> cases h2
    have hv : vs[i]? = some v := by
      unfold L2.start at h2
      rw [List.getElem?_append_left (by simpa using hi), List.getElem?_map] at h2
      cases e : vs[i]? with
      | none => rw [e] at h2; cases h2
      | some b => rw [e] at h2; cases h2; rfl
    obtain ⟨u, hu, rv⟩ := r.get hv
    have hp : ps[i]? = some y := by
      rw [← Sc.pre, List.getElem?_take_of_lt (by omega)]
      exact h1
    have ndP : ps.Nodup := by
      rw [← Sc.pre]
      exact Sc.nd.sublist (List.take_sublist _ _)
    exact ⟨u, rv, .inl ⟨Sc.par y (List.mem_of_getElem? hp), zip_lookup ndP hp hu⟩⟩
  · rw [(cl1 h).2]
    exact ⟨_, _, F.keep _ _ (hideAll_get [a] (e0.bs _ _ hcb).1 fun z => nk _ _ hcb (List.mem_singleton.mp z)), rfl⟩
  · rw [(cl1 h).2]
    exact (e0.bs _ _ hcb).2
  · by_cases z : b = a
    · subst z
      rw [ha] at q
      cases q
      exact exo_ok hx
    · exact (e0.hok b o q).stay (fun c v hc e => kp c v (by
        rcases hc with hc | hc
        · rw [hc]
          exact z
        · exact at_ne ha hc exo_own) e) (fun _ q => q) fun _ _ q => q
  · unfold L2.start
    show _ = N.length
    have hpl : ps.length ≤ N.length := by
      have := congrArg List.length Sc.pre
      rw [List.length_take] at this
      omega
    rw [List.length_append, List.length_map, List.length_replicate]
    omega
/-- THE RULE for such an __init__ -/
theorem fn_init {name : Str} {params : Arguments} {rest : List Stmt} {dV kV doc pm ct oc : Value} {an od : Option Addr} {osl : Array (Option Value)} {k : Nat} {sp : Sp} {p0 p1 ap p2 pos pos' : Pos} {x : Str} {j : Nat} {self : Arg} {pl : List PySem.Env → Sem Bool}
    (lk : K.lookup f = some ⟨oc, od, .func (ksFn name qual params (.Expr (.Call (.Attribute (.Call (.Name "super" p0) [] [] p1) "__init__" ap) [.Constant (.str x) j p2] [] pos) pos' :: rest) scope dV kV doc pm an (.ref cda) ct cc), osl⟩)
    (hcd : PySem.W.codeIn K (.ref cda) qual = true) (Sc : ScI N ps scope) (S : SupC P K C cc cda) (hp : (params.posonlyargs ++ params.args).head? = some self) (hps : ps[0]? = some self.arg) (mS : mg "super" = none) (htop : (P.main.scope.names.lookup ("super" : Str)).isSome = false)
    (he : ∀ L : Addr, eval (.Call (.Attribute (.Call (.Name "super" p0) [] [] p1) "__init__" ap) [.Constant (.str x) j p2] [] pos) (ksEnv qual scope L f (.ref cda) cc) = (do
      let ov ← attributeBase (.Call (.Name "super" p0) [] [] p1) "__init__" (ksEnv qual scope L f (.ref cda) cc) (eval (.Call (.Name "super" p0) [] [] p1) (ksEnv qual scope L f (.ref cda) cc))
      standAt ap.atName
      let (g, first) ← holding [ov] (getMethod ov "__init__" (pl [ksEnv qual scope L f (.ref cda) cc]))
      callWith pos g first (backTo pos (starEach [.Constant (.str x) j p2] (ksEnv qual scope L f (.ref cda) cc))) []))
    (len : ∀ vs H Q E, sp vs H Q E → vs.length = ps.length) (hsp : ∀ vs H Q E, sp vs H Q E → ∃ (a : Addr) (ws : List V), vs = .ref a :: ws ∧ H a = some (exo a C none))
    (hbody : ∀ (A : Around) (outer : List PySem.Env) (s : Shared) (H : Hp) (vs : List V) (Q : VK) (E : XK), Room k (A.deeper (ksEnv qual scope s.heap.objs.size f (.ref cda) cc)) → sp vs H Q E →
      ∃ t, PSs (cxI CX P w K mg base N qual scope f cda cc A outer s H E) rest t ∧ t { nx := fun _ H' => Q .non H', rt := Q } (L2.start N vs) H) :
    FnOk P w K mg base CX (k + 1) f (ksFn name qual params (.Expr (.Call (.Attribute (.Call (.Name "super" p0) [] [] p1) "__init__" ap) [.Constant (.str x) j p2] [] pos) pos' :: rest) scope dV kV doc pm an (.ref cda) ct cc) ps sp := by
  refine ⟨len, fun A outer s H args us vs Q E hr e0 hb r h => ?_⟩
  have hl := len _ _ _ _ h
  obtain ⟨a, ws, rfl, ha⟩ := hsp _ _ _ _ h
  have KX : K.In s.heap := e0.mod.kin.keeps fun b o e => (e0.bs b o e).1
  have lim : s.heap.NoLimit := e0.mod.nolimit.keeps fun b o e => (e0.bs b o e).1
  have nk : ∀ b o, base.get? b = some o → b ≠ a := fun b o e z => by
    have q := (e0.bs b o e).2
    rw [z, ha] at q
    cases q
  obtain ⟨t0, hoe⟩ := exo_at e0.hok ha
  have ndP : ps.Nodup := by
    rw [← Sc.pre]
    exact Sc.nd.sublist (List.take_sublist _ _)
  refine ks_codeAny_call_defAt hr.depth (KX _ _ lk) rfl lim (PySem.W.codeRec_of KX hcd) rfl hb Sc.nocell (fun y hy => Sc.par _ (List.of_mem_zip hy).1) (fun h1 hns hk1 => ?_) Sc.co Sc.gen Sc.kind
  have F1 : Fr (hideAll s.heap [a]) s.heap.objs.size h1 (fun y => (ps.zip us).reverse.lookup y) := ⟨hns, fun b o e => hk1 b o (of_hideAll _ e), Nat.le_of_eq (hideAll_size _ _)⟩
  have N1 : News (hideAll s.heap [a]) s.heap.objs.size h1 [(a, excObj C t0 none .none)] := fun p hp => by
    rw [List.mem_singleton.mp hp]
    exact ⟨hk1 _ _ hoe, Nat.ne_of_lt (Heap.lt_size hoe), hideAll_none [a] List.mem_cons_self⟩
  have kb : ∀ b o, base.get? b = some o → (hideAll s.heap [a]).get? b = some o := fun b o e => hideAll_get [a] (e0.bs b o e).1 fun z => nk b o e (List.mem_singleton.mp z)
  have hu : us[0]? = some (.ref a) := by
    cases r with
    | cons ra _ =>
      have ra : _ = Value.ref a := ra
      subst ra
      rfl
  refine ks_wpAt_execs_cons ?_
  refine sup_row e0.mod kb S F1 N1 lk rfl hp (zip_lookup ndP hps hu) mS Sc.kind Sc.sup Sc.cls (Sc.par _ (List.mem_of_getElem? hps)) htop (he _) fun h2 t2 tk F2 N2 => ?_
  obtain ⟨t, ht, hq⟩ := hbody A outer s H _ Q E (hr.deeper _) h
  have I := inv_sup (CX := CX) (w := w) (mg := mg) (N := N) (qual := qual) (f := f) (outer := outer) (E := E) (tk := tk) Sc S hr.hd e0 hl r ha F2 (N2 _ List.mem_cons_self).1
  refine wpAt_of_wpAny (wpAny_mono (ht.run [] _ _ H _ I hq) (fun fl s' hs => ?_) fun e s' hs => hs)
  have fin : ∀ {σ' : L2.St} {H' : Hp} {v : V} {u : Value}, Inv (cxI CX P w K mg base N qual scope f cda cc A outer s H E) [] σ' H' s' → RelV v u → Q v H' → CE outer P w H s Q u s' := fun {σ' H' v u} J rv q => ⟨v, H', J.os, J.bare, J.base, J.hok, rv, q⟩
  cases fl with
  | ret u => obtain ⟨v, σ', H', J, rv, q⟩ := hs; exact fin J rv q
  | next => obtain ⟨σ', H', J, q⟩ := hs; exact fin (v := V.non) (u := Value.none) J rfl q
  | brk => obtain ⟨_, _, _, q⟩ := hs; exact q.elim
  | cont => obtain ⟨_, _, _, q⟩ := hs; exact q.elim
/-- what __init__ leaves: the exception's dict with its fields -/
def spI (C : Addr) (fs : List Str) : Sp := fun vs H Q _ => ∃ (a : Addr) (ws : List V), vs = .ref a :: ws ∧ ws.length = fs.length ∧ H a = some (exo a C none) ∧
  ∀ d H', d ≠ a → H d = none → H' d = some (exd d (fs.zip ws).reverse) → H' a = some (exo a C (some d)) → (∀ b, b ≠ d → b ≠ a → H' b = H b) → Q .non H'
end
section
variable {P : Program} {w : World} {K : PySem.W.Frag} {mg : Str → Option Value} {base : Heap} {ps : List Str} {qual : Str} {scope : Scope} {f C cda cc : Addr} {name : Str} {params : Arguments} {dV kV doc pm ct oc : Value} {an od : Option Addr} {osl : Array (Option Value)} {k : Nat}
  {p0 p1 ap p2 pos pos' a1 a2 a3 a4 b1 b2 b3 b4 : Pos} {x : Str} {j : Nat} {q1 q2 f1 f2 : Str} {self : Arg} {pl : List PySem.Env → Sem Bool}
theorem init1 (lk : K.lookup f = some ⟨oc, od, .func (ksFn name qual params (.Expr (.Call (.Attribute (.Call (.Name "super" p0) [] [] p1) "__init__" ap) [.Constant (.str x) j p2] [] pos) pos' :: [.Assign [.Attribute (.Name "self" a1) f1 a2] (.Name q1 a3) a4]) scope dV kV doc pm an (.ref cda) ct cc), osl⟩)
    (hcd : PySem.W.codeIn K (.ref cda) qual = true) (Sc : ScI ["self", q1] ["self", q1] scope) (S : SupC P K C cc cda) (T : OexC K C) (hno : PySem.W.findIn K (.ref C) f1 = some none) (hp : (params.posonlyargs ++ params.args).head? = some self) (hself : self.arg = "self") (mS : mg "super" = none) (htop : (P.main.scope.names.lookup ("super" : Str)).isSome = false)
    (he : ∀ L : Addr, eval (.Call (.Attribute (.Call (.Name "super" p0) [] [] p1) "__init__" ap) [.Constant (.str x) j p2] [] pos) (ksEnv qual scope L f (.ref cda) cc) = (do
      let ov ← attributeBase (.Call (.Name "super" p0) [] [] p1) "__init__" (ksEnv qual scope L f (.ref cda) cc) (eval (.Call (.Name "super" p0) [] [] p1) (ksEnv qual scope L f (.ref cda) cc))
      standAt ap.atName
      let (g, first) ← holding [ov] (getMethod ov "__init__" (pl [ksEnv qual scope L f (.ref cda) cc]))
      callWith pos g first (backTo pos (starEach [.Constant (.str x) j p2] (ksEnv qual scope L f (.ref cda) cc))) []))
    (hs1 : ∀ L : Addr, swapsWith (.Name q1 a3) (some (.Attribute (.Name "self" a1) f1 a2)) a4.line (ksEnv qual scope L f (.ref cda) cc) = pure false) (hd1 : (q1 == ("__debug__" : Str)) = false) (hd2 : (q1 == ("__classdict__" : Str)) = false) :
    FnOk P w K mg base (L2.CX P w) (k + 1) f (ksFn name qual params (.Expr (.Call (.Attribute (.Call (.Name "super" p0) [] [] p1) "__init__" ap) [.Constant (.str x) j p2] [] pos) pos' :: [.Assign [.Attribute (.Name "self" a1) f1 a2] (.Name q1 a3) a4]) scope dV kV doc pm an (.ref cda) ct cc) ["self", q1] (spI C [f1]) := by
  refine fn_init (N := ["self", q1]) (pl := pl) lk hcd Sc S hp (by rw [hself]; rfl) mS htop he (fun vs H Q E h => ?_) (fun vs H Q E h => ?_) fun A outer s H vs Q E hr h => ?_
  · obtain ⟨a, ws, rfl, hl, _⟩ := h
    rw [List.length_cons, hl]
    rfl
  · obtain ⟨a, ws, rfl, _, ha, _⟩ := h
    exact ⟨a, ws, rfl, ha⟩
  · have v0 : ∀ X : Cx, X = cxI (L2.CX P w) P w K mg base ["self", q1] qual scope f cda cc A outer s H E → PE X (.Name "self" a1) (tVar 0) := fun X e => by
      subst e
      exact pe_var rfl (.inl (Sc.par _ List.mem_cons_self)) (by decide) (by decide)
    have v1 : ∀ X : Cx, X = cxI (L2.CX P w) P w K mg base ["self", q1] qual scope f cda cc A outer s H E → PE X (.Name q1 a3) (tVar 1) := fun X e => by
      subst e
      exact pe_var rfl (.inl (Sc.par _ (List.mem_cons_of_mem _ List.mem_cons_self))) hd1 hd2
    refine ⟨_, pss_cons (ps_ost (v0 _ rfl) (v1 _ rfl) (hs1 _)) pss_nil, ?_⟩
    obtain ⟨a, ws, rfl, hl, ha, hq⟩ := h
    match ws, hl with
    | [y], _ =>
      refine ⟨y, rfl, _, rfl, a, C, rfl, T, hno, .inl ⟨ha, fun dx n ne => ?_⟩⟩
      exact hq dx _ ne n (by rw [upd_ne ne, upd_same]; rfl) upd_same fun b n1 n2 => by rw [upd_ne n2, upd_ne n1]
theorem init2 (lk : K.lookup f = some ⟨oc, od, .func (ksFn name qual params (.Expr (.Call (.Attribute (.Call (.Name "super" p0) [] [] p1) "__init__" ap) [.Constant (.str x) j p2] [] pos) pos' :: [.Assign [.Attribute (.Name "self" a1) f1 a2] (.Name q1 a3) a4, .Assign [.Attribute (.Name "self" b1) f2 b2] (.Name q2 b3) b4]) scope dV kV doc pm an (.ref cda) ct cc), osl⟩)
    (hcd : PySem.W.codeIn K (.ref cda) qual = true) (Sc : ScI ["self", q1, q2] ["self", q1, q2] scope) (S : SupC P K C cc cda) (T : OexC K C) (hno : PySem.W.findIn K (.ref C) f1 = some none) (hno2 : PySem.W.findIn K (.ref C) f2 = some none) (hp : (params.posonlyargs ++ params.args).head? = some self) (hself : self.arg = "self") (mS : mg "super" = none) (htop : (P.main.scope.names.lookup ("super" : Str)).isSome = false)
    (he : ∀ L : Addr, eval (.Call (.Attribute (.Call (.Name "super" p0) [] [] p1) "__init__" ap) [.Constant (.str x) j p2] [] pos) (ksEnv qual scope L f (.ref cda) cc) = (do
      let ov ← attributeBase (.Call (.Name "super" p0) [] [] p1) "__init__" (ksEnv qual scope L f (.ref cda) cc) (eval (.Call (.Name "super" p0) [] [] p1) (ksEnv qual scope L f (.ref cda) cc))
      standAt ap.atName
      let (g, first) ← holding [ov] (getMethod ov "__init__" (pl [ksEnv qual scope L f (.ref cda) cc]))
      callWith pos g first (backTo pos (starEach [.Constant (.str x) j p2] (ksEnv qual scope L f (.ref cda) cc))) []))
    (hs1 : ∀ L : Addr, swapsWith (.Name q1 a3) (some (.Attribute (.Name "self" a1) f1 a2)) a4.line (ksEnv qual scope L f (.ref cda) cc) = pure false) (hs2 : ∀ L : Addr, swapsWith (.Name q2 b3) (some (.Attribute (.Name "self" b1) f2 b2)) b4.line (ksEnv qual scope L f (.ref cda) cc) = pure false)
    (hd1 : (q1 == ("__debug__" : Str)) = false) (hd2 : (q1 == ("__classdict__" : Str)) = false) (hd3 : (q2 == ("__debug__" : Str)) = false) (hd4 : (q2 == ("__classdict__" : Str)) = false) :
    FnOk P w K mg base (L2.CX P w) (k + 1) f (ksFn name qual params (.Expr (.Call (.Attribute (.Call (.Name "super" p0) [] [] p1) "__init__" ap) [.Constant (.str x) j p2] [] pos) pos' :: [.Assign [.Attribute (.Name "self" a1) f1 a2] (.Name q1 a3) a4, .Assign [.Attribute (.Name "self" b1) f2 b2] (.Name q2 b3) b4]) scope dV kV doc pm an (.ref cda) ct cc) ["self", q1, q2] (spI C [f1, f2]) := by
  refine fn_init (N := ["self", q1, q2]) (pl := pl) lk hcd Sc S hp (by rw [hself]; rfl) mS htop he (fun vs H Q E h => ?_) (fun vs H Q E h => ?_) fun A outer s H vs Q E hr h => ?_
  · obtain ⟨a, ws, rfl, hl, _⟩ := h
    rw [List.length_cons, hl]
    rfl
  · obtain ⟨a, ws, rfl, _, ha, _⟩ := h
    exact ⟨a, ws, rfl, ha⟩
  · have v0 : ∀ (X : Cx) (p : Pos), X = cxI (L2.CX P w) P w K mg base ["self", q1, q2] qual scope f cda cc A outer s H E → PE X (.Name "self" p) (tVar 0) := fun X p e => by
      subst e
      exact pe_var rfl (.inl (Sc.par _ List.mem_cons_self)) (by decide) (by decide)
    have v1 : ∀ X : Cx, X = cxI (L2.CX P w) P w K mg base ["self", q1, q2] qual scope f cda cc A outer s H E → PE X (.Name q1 a3) (tVar 1) := fun X e => by
      subst e
      exact pe_var rfl (.inl (Sc.par _ (List.mem_cons_of_mem _ List.mem_cons_self))) hd1 hd2
    have v2 : ∀ X : Cx, X = cxI (L2.CX P w) P w K mg base ["self", q1, q2] qual scope f cda cc A outer s H E → PE X (.Name q2 b3) (tVar 2) := fun X e => by
      subst e
      exact pe_var rfl (.inl (Sc.par _ (List.mem_cons_of_mem _ (List.mem_cons_of_mem _ List.mem_cons_self)))) hd3 hd4
    refine ⟨_, pss_cons (ps_ost (v0 _ _ rfl) (v1 _ rfl) (hs1 _)) (pss_cons (ps_ost (v0 _ _ rfl) (v2 _ rfl) (hs2 _)) pss_nil), ?_⟩
    obtain ⟨a, ws, rfl, hl, ha, hq⟩ := h
    match ws, hl with
    | [y, z], _ =>
      refine ⟨y, rfl, _, rfl, a, C, rfl, T, hno, .inl ⟨ha, fun dx n ne => ?_⟩⟩
      refine ⟨z, rfl, _, rfl, a, C, rfl, T, hno2, .inr ⟨dx, [(f1, y)], upd_same, by rw [upd_ne ne, upd_same], by simp, ?_⟩⟩
      exact hq dx _ ne n upd_same (by rw [upd_ne (Ne.symm ne), upd_same]) fun b n1 n2 => by rw [upd_ne n1, upd_ne n2, upd_ne n1]
end

/-! ### raise C(e, ..) -/
/-- class x stands at C; its fields, in the order of __init__ -/
def HasX (P : Program) (w : World) (K : PySem.W.Frag) (mg : Str → Option Value) (base : Heap) (x : Str) (C : Addr) (fs : List Str) : Prop := OexC K C ∧ mg x = some (.ref C) ∧ ∃ (fI : Addr) (fd : FuncData) (ps : List Str),
  PySem.W.findIn K (.ref C) "__init__" = some (some (.ref fI)) ∧ PySem.W.typeIn K (.ref fI) = some (.type "function") ∧ FnOk P w K mg base (L2.CX P w) 1 fI fd ps (spI C fs) ∧ Binds K fd ps []
def fRaise (C : Addr) (fs : List Str) (fa : DL.Env → R (List D)) : DL.Env → Out := fun ρ => stE (fa ρ) ρ fun l => .exc ⟨C, fs.reverse, l.reverse⟩ ρ
theorem RepL.rev {K : PySem.W.Frag} {G : Hp} : ∀ {vs : List V} {ds : List D}, RepL K G vs ds → RepL K G vs.reverse ds.reverse
  | _, [], h => by
    have h : _ = [] := h
    subst h
    exact RepL.nil
  | _, d :: ds, ⟨x, xs, h1, h2, h3⟩ => by
    subst h1
    rw [List.reverse_cons, List.reverse_cons]
    exact (RepL.rev h3).append (.one h2)
/-- (as the library's del) -/
def del2 (H : Hp) (a : Addr) : Hp := fun b => if b = a then none else H b
section
variable {X : Cx} {W : WX} {ow ow' : Ow} {owl : Ox} {x : Str} {C : Addr} {fs : List Str} {p pos pos2 : Pos} {e : Expr} {es : List Expr} {ea : List Nat} {fa : DL.Env → R (List D)}
theorem pds_raise (h : HasX X.prog X.w X.K X.mg X.base x C fs) (hc : X.calm = true) (tk : Takes X W) (hr : Room 2 X.A) (hg : Gl X x) (ha : PDA X W (e :: es) ea fa) (hn : ∀ ρ l, fa ρ = .ok l → l.length = fs.length) (hz : fs.length ≤ 10 := by decide) (hx : ∀ p ∈ owl.rx, p ∈ ow := by decide)
    (hdb : (x == ("__debug__" : Str)) = false := by decide) (he : starEach (e :: es) X.env = (false, eval e X.env) :: starEach es X.env := by rfl) (hpl : (backTo pos (starEach es X.env)).any (·.1) = false := by rfl) :
    PDS X W ow ow' owl (.Raise (some (.Call (.Name x p) (e :: es) [] pos)) none pos2) (fRaise C fs fa) := by
  obtain ⟨T, hm, fI, fd, ps, iC, tI, F1, hb⟩ := h
  refine PS.imp (ps_raise hc tk (pmk_oex T iC tI F1 hr hb .nil (passes_call tk fun _ _ _ _ z => z.elim) hg hm ha hdb he hpl)) fun D σ H ⟨B, O, L, ρ, S, w, P⟩ => ⟨B, O, L, ρ, S, ?_⟩
  have P : PostS X.K B O W ow' owl (stE (fa ρ) ρ fun l => .exc ⟨C, fs.reverse, l.reverse⟩ ρ) D := P
  cases q : fa ρ with
  | stuck => rw [q] at P; exact P
  | exc y => rw [q] at P; exact fun c dd H1 e1 r => P c dd σ H1 L (S.ext e1) (w.sub hx) r
  | ok l =>
    rw [q] at P
    intro vs H1 e1 r1
    have r1 : RepL X.K (hide (HS O (dropL ea L)) H1) vs l := r1
    have P : ∀ c dd σ H L, SR X.K B O L σ H ρ → OwOk owl.rx L → RepX X.K (hide O H) H c dd ⟨C, fs.reverse, l.reverse⟩ → W c dd σ H := P
    have hl := r1.length
    have hn2 := hn ρ l q
    refine ⟨by omega, fun a na => ?_⟩
    rw [List.append_nil]
    refine ⟨a, vs, rfl, by omega, upd_same, fun d H' dn hd h1 h2 h3 => ?_⟩
    rw [upd_ne dn] at hd
    have eH : upd (DL.del2 H' a) d (.xd (fs.zip vs).reverse) = upd H1 d (.xd (fs.zip vs).reverse) := by
      funext b
      by_cases q1 : b = d
      · rw [q1, upd_same, upd_same]
      · rw [upd_ne q1, upd_ne q1]
        unfold DL.del2
        by_cases q2 : b = a
        · rw [if_pos q2, q2, na]
        · rw [if_neg q2, h3 b q1 q2, upd_ne q2]
    refine ⟨rfl, d, (fs.zip vs).reverse, h2, h1, hd, ?_⟩
    show W (.ref C) (some d) σ (upd (DL.del2 H' a) d (.xd (fs.zip vs).reverse))
    rw [eH]
    have e2 : Same H1 (upd H1 d (.xd (fs.zip vs).reverse)) := same_new hd
    refine P _ _ σ _ L ((S.ext e1).ext e2) (w.sub hx) ⟨rfl, d, _, rfl, upd_same, ?_, ?_⟩
    · show List.map (·.1) (fs.zip vs).reverse = fs.reverse
      rw [List.map_reverse, List.map_fst_zip (by omega)]
    · show RepL X.K _ (List.map (·.2) (fs.zip vs).reverse) l.reverse
      rw [List.map_reverse, List.map_snd_zip (by omega)]
      exact (r1.mono (RdLe.trans (hide_same hs_0 (Same.refl H1)) (hide_same (fun _ z => z) e2))).rev
end
end DL
set_option Elab.async false
set_option linter.all false
set_option maxRecDepth 100000
/-! several except clauses, with or without a name -/
namespace DL
open PySem PySem.Spec PyProof.Rows L2
/-- an exception of the body has been caught by the frame; no clause is chosen yet -/
structure Flew (X : Cx) (pins : List (Addr × Obj)) (B : Heap) (sI : Shared) (a : Addr) (cls : Value) (d : Option Addr) (σ : L2.St) (H : Hp) (s : Shared) : Prop where
  inv : Inv X pins σ H sI
  old : ∀ b o, sI.heap.get? b = some o → b ∉ frs X.stack → B.get? b = some o
  fly : HandSPX.FlyingZ B (X.env :: X.outer) a (Zc cls d) s.heap
  upt : sI.heap.UpToSlots s.heap
  osy : s.os = sI.os
  gen : AllBare s.gens
  new : H a = none
theorem Flew.step {X : Cx} {pins : List (Addr × Obj)} {B : Heap} {sI : Shared} {a : Addr} {cls : Value} {d : Option Addr} {σ : L2.St} {H : Hp} {s : Shared} (F : Flew X pins B sI a cls d σ H s) {h : Heap}
    (fl : HandSPX.FlyingZ B (X.env :: X.outer) a (Zc cls d) h) (up : s.heap.UpToSlots h) : Flew X pins B sI a cls d σ H { s with heap := h } :=
  { inv := F.inv, old := F.old, fly := fl, upt := F.upt.trans up, osy := F.osy, gen := F.gen, new := F.new }
theorem Flew.here {X : Cx} {pins : List (Addr × Obj)} {B : Heap} {sI : Shared} {a : Addr} {cls : Value} {d : Option Addr} {σ : L2.St} {H : Hp} {s : Shared} (F : Flew X pins B sI a cls d σ H s) : Inv X pins σ H s :=
  F.inv.landed F.old F.fly.1 F.upt F.osy F.gen
/-- the exception's own object stands apart -/
theorem Flew.obj {X : Cx} {pins : List (Addr × Obj)} {B : Heap} {sI : Shared} {a : Addr} {cls : Value} {d : Option Addr} {σ : L2.St} {H : Hp} {s : Shared} (F : Flew X pins B sI a cls d σ H s) (hf : X.env.frame = some X.env.locals) :
    ∃ oe, s.heap.get? a = some oe ∧ Zc cls d oe ∧ (∃ vs, oe.data = .fields vs) ∧ Inv (X.suite a ((a, oe) :: (X.pn ++ pins))) [] σ H s := by
  obtain ⟨oe, vs, e1, e2, e3⟩ := F.fly.there
  have far : a ∉ frs (X.env :: X.outer) := fun m => by
    obtain ⟨_, o, g, nf⟩ := F.fly.2.2.1.mem m
    rw [e1] at g
    cases g
    exact nf _ e3
  refine ⟨oe, e1, e2, ⟨vs, e3⟩, F.here.suite e1 e3 F.new (fun z => far ?_) fun m => far ?_⟩
  · exact List.mem_filterMap.mpr ⟨X.env, List.mem_cons_self, hf.trans (congrArg some z.symm)⟩
  · obtain ⟨e, g1, g2⟩ := List.mem_filterMap.mp m
    exact List.mem_filterMap.mpr ⟨e, List.mem_cons_of_mem _ g1, g2⟩
/-- what clauses do with it: the wish behind them -/
structure PHd (X : Cx) (hds : List ExceptHandler) (wd : Ends → WX) : Prop where
  run : ∀ {pins : List (Addr × Obj)} {B : Heap} {sI : Shared} {a : Addr} {cls : Value} {d : Option Addr} {σ : L2.St} {H : Hp} {s : Shared} {D : Ends}, Flew X pins B sI a cls d σ H s → wd D cls d σ H →
    wpAny (model X.prog X.w) X.A (handleBy (.ref a) X.env hds) (SP X pins D) X.xe s
section
variable {X : Cx} {hds : List ExceptHandler} {wd : Ends → WX} {x n : Str} {c : Value} {i : Nat} {body suite : List Stmt} {b₀ : Stmt} {np pos pos' : Pos} {tb : WX → TS} {ts : Addr → Value → Option Addr → TS} {Wout : WX}
theorem phd_nil (hs : X.stack = X.env :: X.outer) (hf : X.env.frame = some X.env.locals) (tk : Takes X Wout) : PHd X [] (fun _ => Wout) := ⟨fun {pins B sI a cls d σ H s D} F w => by
  refine wpAny_handleBy_nil ?_
  obtain ⟨oe, vs, T, _, _, g1, _, g2, g3, _⟩ := F.fly.2.2.2
  unfold PySem.passOn
  have fin : wpAny (model X.prog X.w) X.A (setFlight (.ref a) X.env.frame) (fun _ s1 => wpAny (model X.prog X.w) X.A (throw (.ref a) : Sem Flow) (SP X pins D) X.xe s1) X.xe s := by
    rw [hf]
    exact HandSPX.setFlight_upZ F.fly fun h hh up => wpAny_throw (tk _ _ ⟨a, B, sI, pins, σ, H, cls, d, rfl, F.inv, F.old, F.upt.trans up, .inr (.inr (by rw [hs]; exact hh)), F.new, F.osy, F.gen, w⟩)
  refine wpAny_bind (wpAny_field g1 g2 g3 ?_)
  rw [if_neg (by simp : ¬ ((Value.ref T == Value.none) = true))]
  first
    | exact wpAny_bind (wpAny_pure (wpAny_bind fin))
    | exact wpAny_bind fin⟩
/-- clauses that no exception reaches -/
theorem phd_any : PHd X hds (fun _ _ _ _ _ => False) := ⟨fun _ w => w.elim⟩
/-- the test of a clause -/
theorem Flew.test {pins : List (Addr × Obj)} {B : Heap} {sI : Shared} {a : Addr} {cls : Value} {d : Option Addr} {σ : L2.St} {H : Hp} {s : Shared} (F : Flew X pins B sI a cls d σ H s) (hf : X.env.frame = some X.env.locals) (hc : Names X x c) {b : Bool} (hb : PySem.W.exmOne X.K cls c = some b)
    {Q : Bool → Shared → Prop} {E : Value → Shared → Prop} {E2 : Value → Shared → Prop} (q : Q b s) : wpAny (model X.prog X.w) (X.A.mark (some (.ref a))) (eval (.Name x np) X.env) (fun u s1 => wpAny (model X.prog X.w) (X.A.mark (some (.ref a))) (excMatches (.ref a) u) Q E s1) E2 s := by
  obtain ⟨oe, e1, e2, _, S⟩ := F.obj hf
  have L1 : PySem.W.Looks (model X.prog X.w) s.heap (typeOf (.ref a)) cls := fun _ _ _ s1 k q1 => wpAny_typeOf_ref (k _ _ e1) (by rw [e2.1]; exact q1)
  have L2' := PySem.W.exm_one (M := model X.prog X.w) F.here.kIn L1 hb
  obtain ⟨hg, hd, m | ⟨m, v, nn⟩⟩ := hc
  · exact ld_glob (X := X.suite a ((a, oe) :: (X.pn ++ pins))) S hg m (L2'.here q) hd
  · exact ld_blt (X := X.suite a ((a, oe) :: (X.pn ++ pins))) S hg m v (L2'.here q) nn hd
/-- except x as n: suite -/
theorem phd_as (hf : X.env.frame = some X.env.locals) (hN : X.N.Nodup) (hi : X.N[i]? = some n) (hln : X.env.kindOf n = some .local) (hc : Names X x c)
    (hsu : ∀ (a : Addr) (oe : Obj) (cls : Value) (d : Option Addr) (pn : List (Addr × Obj)), Zc cls d oe → (∃ vs, oe.data = .fields vs) → PSs (X.suite a ((a, oe) :: pn)) (b₀ :: suite) (ts a cls d)) (r : PHd X hds wd) :
    PHd X (.ExceptHandler (some (.Name x np)) (some n) (b₀ :: suite) pos' :: hds) (fun D cls d σ H => ∃ b, PySem.W.exmOne X.K cls c = some b ∧
      (b = true → ∀ a, H a = none → ts a cls d { nx := fun σ' H' => D.nx (σ'.set i none) H', rt := D.rt, bk := fun σ' H' => D.bk (σ'.set i none) H', ct := fun σ' H' => D.ct (σ'.set i none) H' } (σ.set i (some (.ref a))) H) ∧ (b = false → wd D cls d σ H)) :=
  ⟨fun {pins B sI a cls d σ H s D} F w => by
    obtain ⟨b, w1, yes, no⟩ := w
    have ok := F.inv.ok
    refine wpAny_handleBy_cons (codeAny_handlers_test (F.test hf hc w1 ?_)) (fun z => by cases z)
    cases b with
    | false => exact r.run F (no rfl)
    | true =>
      refine codeAny_handlers_suite_as (HandSPX.lands_againZ F.fly fun h4 fl4 up4 => ?_)
      obtain ⟨oe, _, e2, e3, S⟩ := (F.step fl4 up4).obj hf
      refine store_ok (X := X.suite a ((a, oe) :: (X.pn ++ pins))) (v := .ref a) S hN hi (.inl hln) rfl (fun s5 S5 => ?_) (.inr hln)
      refine wpAny_mono ((hsu a oe cls d (X.pn ++ pins) e2 e3).run [] s5 _ H _ S5 (yes rfl a F.new)) (fun f s6 z => ?_) fun _ _ z => z.elim
      have gone : ∀ {σ6 : L2.St} {H6 : Hp} {Q : Shared → Prop}, Inv (X.suite a ((a, oe) :: (X.pn ++ pins))) [] σ6 H6 s6 → (∀ s7, Inv X pins (σ6.set i none) H6 s7 → Q s7) →
          wpAny (model X.prog X.w) X.A (do bindName X.env n .none; unbindBehindTheSuite X.env n pos') (fun _ s7 => Q s7) X.xe s6 := fun S6 k => gone_ok (S6.unsuite ok) hN hi hln k
      match f, z with
      | .next, ⟨_, _, S6, z⟩ => exact gone S6 fun _ J => ⟨_, _, J, z⟩
      | .brk, ⟨_, _, S6, z⟩ => exact gone S6 fun _ J => ⟨_, _, J, z⟩
      | .cont, ⟨_, _, S6, z⟩ => exact gone S6 fun _ J => ⟨_, _, J, z⟩
      | .ret _, ⟨_, _, _, S6, r6, z⟩ => exact gone S6 fun _ J => ⟨_, _, _, J, r6, z⟩⟩
/-- try: body, and clauses -/
theorem ps_tryHd {h₀ : ExceptHandler} (hs : X.stack = X.env :: X.outer) (hf : X.env.frame = some X.env.locals) (r : PHd X (h₀ :: hds) wd)
    (hb : ∀ (W : WX) (pn : List (Addr × Obj)) (xe : Value → Shared → Prop), Takes (X.tr pn xe) W → PassesOwn (model X.prog X.w) X.A X.env xe → PSs (X.tr pn xe) body (tb W)) :
    PS X (.Try body (h₀ :: hds) [] [] pos) (fun D σ H => tb (wd D) D σ H) := ⟨fun pins s σ H D I q => by
  have ok := I.ok
  have fr : X.A.frames = some (X.env :: X.outer) := ok.frames.trans (congrArg some hs)
  let xe : Value → Shared → Prop := fun e s1 => wpAny (model X.prog X.w) X.A (noteFrame e X.env) (fun _ s2 => wpAny (model X.prog X.w) X.A (setFlight e none) (fun _ s3 => wpAny (model X.prog X.w) X.A (handleBy e X.env (h₀ :: hds)) (SP X pins D) X.xe s3) X.xe s2) X.xe s1
  have tk : Takes (X.tr (X.pn ++ pins) xe) (wd D) := fun u s' z => by
    obtain ⟨a, B, sI, pins', σ', H', cls, d, rfl, J, old, up, sky, na, os, ag, w⟩ := z
    have sky2 : Sky B (X.env :: X.outer) a (Zc cls d) X.env.locals s'.heap := by rw [← hs]; exact sky
    exact Sky.land Zc.steady fr hf sky2 fun h fl up2 => r.run { inv := J.ofTry ok, old := old, fly := fl, upt := up.trans up2, osy := os, gen := ag, new := na } w
  refine wpAny_Try_except (wpAny_mono ((hb (wd D) (X.pn ++ pins) xe tk PassesOwn.looking).run [] s σ H D (I.toTry _) q) (fun f s1 z => ?_) fun _ _ z => z)
  match f, z with
  | .next, ⟨_, _, J, z⟩ => exact wpAny_execs_nil ⟨_, _, J.ofTry ok, z⟩
  | .brk, ⟨_, _, J, z⟩ => exact ⟨_, _, J.ofTry ok, z⟩
  | .cont, ⟨_, _, J, z⟩ => exact ⟨_, _, J.ofTry ok, z⟩
  | .ret _, ⟨_, _, _, J, r6, z⟩ => exact ⟨_, _, _, J.ofTry ok, r6, z⟩⟩
end
end DL
set_option Elab.async false
set_option linter.all false
set_option maxRecDepth 100000
namespace DL
open PySem L2

/-! ### try: what raises nothing -/
def fTryN (f : DL.Env → Out) : DL.Env → Out := fun ρ =>
  match f ρ with
  | .exc _ _ => .stuck
  | o => o
theorem takes_no {X : Cx} : Takes X.nox W0 := fun u s' h => by
  obtain ⟨a, B, sI, pins, σ, H, cls, d, _, _, _, _, _, _, _, _, z⟩ := h
  exact z.elim
section
variable {X : Cx} {W : WX} {ow ow' : Ow} {owl : Ox} {body : List Stmt} {h₀ : ExceptHandler} {hs : List ExceptHandler} {pos : Pos} {f : DL.Env → Out}
theorem pds_tryN (hb : Takes X.nox W0 → PDB X.nox W0 ow ow' owl body f) : PDS X W ow ow' owl (.Try body (h₀ :: hs) [] [] pos) (fTryN f) := PS.imp (ps_try_thru0 (hb takes_no)) fun D σ H ⟨B, O, L, ρ, S, w, P⟩ => ⟨B, O, L, ρ, S, w, by
  unfold fTryN at P
  cases q : f ρ with
  | nx ρ' => rw [q] at P; exact P
  | rt d ρ' => rw [q] at P; exact P
  | bk ρ' => rw [q] at P; exact P
  | ct ρ' => rw [q] at P; exact P
  | exc x ρ' => rw [q] at P; exact P.elim
  | stuck => rw [q] at P; exact P⟩
end

/-! ### except C as n: return e -/
def XAt (K : PySem.W.Frag) (O : Addr → Prop) (H : Hp) (cls : Value) (d : Option Addr) (x : XN) : Prop := cls = .ref x.C ∧ ∃ dd us, d = some dd ∧ H dd = some (.xd us) ∧ us.map (·.1) = x.fs ∧ RepL K (hide O H) (us.map (·.2)) x.vs
theorem XAt.ext {K : PySem.W.Frag} {O : Addr → Prop} {H H' : Hp} {cls : Value} {d : Option Addr} {x : XN} (h : XAt K O H cls d x) (e : Same H H') : XAt K O H' cls d x := by
  obtain ⟨h1, dd, us, h2, h3, h4, h5⟩ := h
  exact ⟨h1, dd, us, h2, e dd _ h3, h4, h5.mono (hide_same (fun _ z => z) e)⟩
def rX (K : PySem.W.Frag) (O : Addr → Prop) : Hp → V → D → Prop := fun H v d => Rep K (hide O H) v d
def rXA (K : PySem.W.Frag) (O : Addr → Prop) : Hp → List V → List D → Prop := fun H v d => RepL K (hide O H) v d
def tX (K : PySem.W.Frag) (a : Addr) (cls : Value) (d : Option Addr) (i : Nat) (v : XN → R D) : TE := fun σ H Q => ∃ (O : Addr → Prop) (x : XN), (∀ p, O p → H p ≠ none) ∧ σ[i]? = some (some (.ref a)) ∧ XAt K O H cls d x ∧ PostG K O W0 (rX K O) (v x) σ H Q
def tXA (K : PySem.W.Frag) (a : Addr) (cls : Value) (d : Option Addr) (i : Nat) (v : XN → R (List D)) : TA := fun σ H Q => ∃ (O : Addr → Prop) (x : XN), (∀ p, O p → H p ≠ none) ∧ σ[i]? = some (some (.ref a)) ∧ XAt K O H cls d x ∧ PostG K O W0 (rXA K O) (v x) σ H Q
/-- an expression of an except suite: constants and the exception's fields -/
def PX (X : Cx) (i : Nat) (e : Expr) (v : XN → R D) : Prop := ∀ (a : Addr) (oe : Obj) (cls : Value) (d : Option Addr) (pn : List (Addr × Obj)), Zc cls d oe → (∃ vs, oe.data = .fields vs) → PE (X.suite a ((a, oe) :: pn)) e (tX X.K a cls d i v)
def PXA (X : Cx) (i : Nat) (e : List Expr) (v : XN → R (List D)) : Prop := ∀ (a : Addr) (oe : Obj) (cls : Value) (d : Option Addr) (pn : List (Addr × Obj)), Zc cls d oe → (∃ vs, oe.data = .fields vs) → PA (X.suite a ((a, oe) :: pn)) e (tXA X.K a cls d i v)
def fldX (C : Addr) (f : Str) (x : XN) : R D := if x.C = C then R.ofO (look x.fs x.vs) else .stuck
where look : List Str → List D → Option D
  | g :: gs, d :: ds => if g = f then some d else look gs ds
  | _, _ => none
theorem look_fld {K : PySem.W.Frag} {G : Hp} {f : Str} : ∀ {us : List (Str × V)} {ds : List D} {d : D}, RepL K G (us.map (·.2)) ds → fldX.look f (us.map (·.1)) ds = some d → ∃ v, us.lookup f = some v ∧ Rep K G v d
  | [], _, _, _, h => by cases h
  | (g, v) :: us, [], _, h, _ => by
    have h : _ = [] := h
    cases h
  | (g, v) :: us, d0 :: ds, d, ⟨y, ys, h1, h2, h3⟩, h => by
    cases h1
    have h : (if g = f then some d0 else fldX.look f (us.map (·.1)) ds) = some d := h
    rw [lookup_put]
    by_cases e : g = f
    · rw [if_pos e] at h
      cases h
      rw [if_pos e.symm]
      exact ⟨_, rfl, h2⟩
    · rw [if_neg e] at h
      rw [if_neg fun z => e z.symm]
      exact look_fld h3 h
section
variable {X : Cx} {i : Nat} {e : Expr} {es : List Expr} {v : XN → R D} {vs : XN → R (List D)} {pos : Pos}
theorem px_str {x : Str} {j pos} (l : List Nat) (hl : x = mkS l := by decide +kernel) (ho : l.all (fun c => decide (c < 0x110000)) = true := by decide +kernel) : PX X i (.Constant (.str x) j pos) (fun _ => .ok (.str l)) := fun a oe cls d pn hz hf =>
  PE.imp pe_str fun σ H Q ⟨O, x, dom, hs, xa, P⟩ => P _ H (Same.refl H) ⟨by rw [hl], fun c hc => of_decide_eq_true (List.all_eq_true.mp ho c hc)⟩
theorem px_int {z : Int} {j pos} : PX X i (.Constant (.int z) j pos) (fun _ => .ok (.int z)) := fun a oe cls d pn hz hf => PE.imp pe_int fun σ H Q ⟨O, x, dom, hs, xa, P⟩ => P _ H (Same.refl H) rfl
theorem px_bl {z : Bool} {j pos} : PX X i (.Constant (.bool z) j pos) (fun _ => .ok (.bl z)) := fun a oe cls d pn hz hf => PE.imp pe_bl fun σ H Q ⟨O, x, dom, hs, xa, P⟩ => P _ H (Same.refl H) rfl
theorem px_non {j pos} : PX X i (.Constant .none j pos) (fun _ => .ok .non) := fun a oe cls d pn hz hf => PE.imp pe_non fun σ H Q ⟨O, x, dom, hs, xa, P⟩ => P _ H (Same.refl H) rfl
theorem px_fld {C : Addr} {f n : Str} {np : Pos} (T : XfC X.K C) (hno : PySem.W.findIn X.K (.ref C) f = some none) (hN : X.N[i]? = some n) (hv : Vis X.env.scope n) (hd : (n == ("__debug__" : Str)) = false := by decide) (hcd : (n == ("__classdict__" : Str)) = false := by decide)
    (hb : attributeBase (.Name n np) f X.env (eval (.Name n np) X.env) = eval (.Name n np) X.env := by rfl) : PX X i (.Attribute (.Name n np) f pos) (fldX C f) := fun a oe cls d pn hz hf =>
  PE.imp (pe_xf T hno hz hf (pe_var (i := i) hN hv hd hcd) hb) fun σ H Q ⟨O, x, dom, hs, xa, P⟩ => by
    obtain ⟨h1, dd, us, h2, h3, h4, h5⟩ := xa
    have P : PostG X.K O W0 (rX X.K O) (if x.C = C then R.ofO (fldX.look f x.fs x.vs) else .stuck) σ H Q := P
    split at P
    case isFalse => exact P.elim
    rename_i hC
    obtain ⟨w, hw, k⟩ := P.ofO
    rw [← h4] at hw
    obtain ⟨u, hu, r⟩ := look_fld h5 hw
    exact ⟨_, hs, rfl, by rw [h1, hC], dd, us, u, h2, h3, hu, k u H (Same.refl H) r⟩
theorem pxa_nil : PXA X i [] (fun _ => .ok []) := fun a oe cls d pn hz hf => PA.imp pa_nil fun σ H Q ⟨O, x, dom, hs, xa, P⟩ => P [] H (Same.refl H) rfl
theorem pxa_cons (h : PX X i e v) (k : PXA X i es vs) (hs : starEach (e :: es) X.env = (false, eval e X.env) :: starEach es X.env := by rfl) : PXA X i (e :: es) (fun x => (v x).bind fun a => (vs x).bind fun l => .ok (a :: l)) := fun a oe cls d pn hz hf =>
  PA.imp (pa_cons (h a oe cls d pn hz hf) (k a oe cls d pn hz hf) hs) fun σ H Q ⟨O, x, dom, hs, xa, P⟩ => ⟨O, x, dom, hs, xa, PostG.bind P fun y yv H1 e1 r1 P1 => ⟨O, x, fun p hp z => dom p hp (e1.free z), hs, xa.ext e1, PostG.bind P1 fun ys yvs H2 e2 r2 P2 =>
    P2 (yv :: yvs) H2 (Same.refl H2) ⟨yv, yvs, rfl, Rep.mono (hide_same (fun _ z => z) e2) r1, r2⟩⟩⟩
theorem px_tup {x1} (h : PXA X i es vs) : PX X i (.Tuple es x1 pos) (fun x => (vs x).bind fun l => lenOk l (.ok (.tup l))) := fun a oe cls d pn hz hf =>
  PE.imp (pe_tup (h a oe cls d pn hz hf)) fun σ H Q ⟨O, x, dom, hs, xa, P⟩ => ⟨O, x, dom, hs, xa, PostG.bind P fun ds us H1 e1 r1 P1 => by
    have r1 : RepL X.K (hide O H1) us ds := r1
    have hl := r1.length
    unfold lenOk at P1
    split at P1
    case isFalse => exact P1.elim
    rename_i hz2
    refine ⟨by omega, fun p hp => P1 _ _ (same_new hp) ?_⟩
    obtain ⟨n, r2⟩ := fresh_rep (fun q hq z => dom q hq (e1.free z)) hp (same_new (o := .tup us) hp) r1
    exact ⟨p, us, rfl, by rw [hide_no n, upd_same], r2⟩⟩
end
/-- a clause: its name's slot, which classes it takes, what it gives back -/
structure Cl where
  i : Nat
  m : XN → Option Bool
  v : XN → R D
def clauses : List Cl → XN → DL.Env → Out
  | [], x, ρ => .exc x ρ
  | c :: r, x, ρ => match c.m x with
    | some true => if c.i < ρ.length ∧ x.vs.all isS = true then (match c.v x with | .ok d => .rt d ρ | _ => .stuck) else .stuck
    | some false => clauses r x ρ
    | none => .stuck
def fTryC (l : List Cl) (f : DL.Env → Out) : DL.Env → Out := fun ρ =>
  match f ρ with
  | .exc x ρ' => clauses l x ρ'
  | o => o
def tC (K : PySem.W.Frag) (W : WX) (ow' : Ow) (owl : Ox) (l : List Cl) : Ends → WX := fun D cls d σ H => ∃ B O L ρ x, SR K B O L σ H ρ ∧ OwOk owl.rx L ∧ RepX K (hide O H) H cls d x ∧ PostS K B O W ow' owl (clauses l x ρ) D
def PHC (X : Cx) (W : WX) (ow' : Ow) (owl : Ox) (hds : List ExceptHandler) (l : List Cl) : Prop := PHd X hds (tC X.K W ow' owl l)
theorem PHd.imp {X : Cx} {hds : List ExceptHandler} {w w' : Ends → WX} (h : PHd X hds w) (f : ∀ D c d σ H, w' D c d σ H → w D c d σ H) : PHd X hds w' := ⟨fun F q => h.run F (f _ _ _ _ _ q)⟩
theorem RepL.scal {K : PySem.W.Frag} {G G' : Hp} : ∀ {vs : List V} {ds : List D}, RepL K G vs ds → ds.all isS = true → RepL K G' vs ds
  | _, [], h, _ => h
  | _, d :: ds, ⟨x, xs, h1, h2, h3⟩, s => by
    rw [List.all_cons, Bool.and_eq_true] at s
    exact ⟨x, xs, h1, h2.scal s.1, RepL.scal h3 s.2⟩
section
variable {X : Cx} {W : WX} {ow ow' : Ow} {owl : Ox} {body : List Stmt} {hds : List ExceptHandler} {h₀ : ExceptHandler} {l : List Cl} {pos pos' rp np : Pos} {f : DL.Env → Out} {n x : Str} {c : Value} {e : Expr} {v : XN → R D} {m : XN → Option Bool}
theorem phc_nil (hs : X.stack = X.env :: X.outer) (hf : X.env.frame = some X.env.locals) (tk : Takes X W) : PHC X W ow' owl [] [] := PHd.imp (phd_nil hs hf tk) fun D c d σ H ⟨B, O, L, ρ, x, S, w, r, P⟩ => P c d σ H L S w r
/-- clauses that are not reached -/
theorem phc_any : PHC X W ow' owl hds [⟨0, fun _ => none, fun _ => .stuck⟩] := PHd.imp phd_any fun D c d σ H ⟨B, O, L, ρ, x, S, w, r, P⟩ => P
theorem phc_cons (i : Nat) (hf : X.env.frame = some X.env.locals) (hN : X.N.Nodup) (hi : X.N[i]? = some n) (hln : X.env.kindOf n = some .local) (hc : Names X x c) (hm : ∀ x b, m x = some b → PySem.W.exmOne X.K (.ref x.C) c = some b)
    (he : PX X i e v) (r : PHC X W ow' owl hds l) : PHC X W ow' owl (.ExceptHandler (some (.Name x np)) (some n) [.Return (some e) rp] pos' :: hds) (⟨i, m, v⟩ :: l) :=
  PHd.imp (phd_as (i := i) (ts := fun a cls d => tRet (tX X.K a cls d i v)) hf hN hi hln hc (fun a oe cls d pn hz hfd => pss_cons (ps_ret (he a oe cls d pn hz hfd)) pss_nil) r) fun D cls dd σ H ⟨B, O, L, ρ, y, S, w, rx, P⟩ => by
    have P : PostS X.K B O W ow' owl (match m y with
      | some true => if i < ρ.length ∧ y.vs.all isS = true then (match v y with | .ok d => .rt d ρ | _ => .stuck) else .stuck
      | some false => clauses l y ρ
      | none => .stuck) D := P
    obtain ⟨h1, a', us, h2, h3, h4, h5⟩ := id rx
    cases hmx : m y with
    | none => rw [hmx] at P; exact P.elim
    | some b =>
      rw [hmx] at P
      refine ⟨b, by rw [h1]; exact hm _ _ hmx, fun hb a na => ?_, fun hb => ?_⟩
      · subst hb
        have P : PostS X.K B O W ow' owl (if i < ρ.length ∧ y.vs.all isS = true then (match v y with | .ok d => .rt d ρ | _ => .stuck) else .stuck) D := P
        split at P
        case isFalse => exact P.elim
        rename_i hi
        refine ⟨HS O L, y, S.hdom, List.getElem?_set_self (by rw [S.len]; exact hi.1), ⟨h1, a', us, h2, h3, h4, h5.scal hi.2⟩, ?_⟩
        cases hv : v y with
        | ok d =>
          rw [hv] at P
          exact fun u H2 e2 r2 => P u σ H2 L (S.ext e2) w r2
        | exc z => rw [hv] at P; exact P.elim
        | stuck => rw [hv] at P; exact P.elim
      · subst hb
        exact ⟨B, O, L, ρ, y, S, w, rx, P⟩
theorem pds_tryC (hs : X.stack = X.env :: X.outer) (hf : X.env.frame = some X.env.locals) (hh : PHC X W ow' owl (h₀ :: hds) l)
    (hb : ∀ (W : WX) (pn : List (Addr × Obj)) (xe : Value → Shared → Prop), Takes (X.tr pn xe) W → PassesOwn (model X.prog X.w) X.A X.env xe → PDB (X.tr pn xe) W ow ow' owl body f) :
    PDS X W ow ow' owl (.Try body (h₀ :: hds) [] [] pos) (fTryC l f) :=
  PS.imp (ps_tryHd (tb := fun W => tDS X.K W ow ow' owl f) hs hf hh fun W pn xe t p => hb W pn xe t p) fun D σ H ⟨B, O, L, ρ, S, w, P⟩ => ⟨B, O, L, ρ, S, w, by
    unfold fTryC at P
    cases q : f ρ with
    | nx ρ' => rw [q] at P; exact P
    | rt d ρ' => rw [q] at P; exact P
    | bk ρ' => rw [q] at P; exact P
    | ct ρ' => rw [q] at P; exact P
    | stuck => rw [q] at P; exact P
    | exc x ρ' =>
      rw [q] at P
      exact fun cls dd σ' H' L' S' w' rx => ⟨B, O, L', ρ', x, S', w', rx, P⟩⟩
end
theorem exm_nil {K : PySem.W.Frag} {c : Value} : ∀ (x : XN) (b : Bool), (none : Option Bool) = some b → PySem.W.exmOne K (.ref x.C) c = some b := fun _ _ h => by cases h
theorem exm_cons {K : PySem.W.Frag} {c : Value} {y : Addr} {fs : List Str} {v : Bool} {m : XN → Option Bool} (h : PySem.W.exmOne K (.ref y) c = some v) (r : ∀ x b, m x = some b → PySem.W.exmOne K (.ref x.C) c = some b) : ∀ (x : XN) b, (if x.C = y ∧ x.fs = fs then some v else m x) = some b → PySem.W.exmOne K (.ref x.C) c = some b := fun x b q => by
  by_cases e : x.C = y ∧ x.fs = fs
  · rw [if_pos e] at q
    cases q
    rw [e.1]
    exact h
  · rw [if_neg e] at q
    exact r x b q
/-- a def of which nothing is asked -/
theorem has_stuck {P : Program} {w : World} {K : PySem.W.Frag} {mg : Str → Option Value} {base : Heap} {x : Str} {f : Addr} {fd : FuncData} {ps : List Str} {n : Nat} (m : mg x = some (.ref f)) (kp : PySem.W.keepIn K (.ref f) = true) (bd : Binds K fd ps []) (hn : ps.length = n) (k : Nat) : Has P w K mg base x k n (fun _ => .stuck) := by
  refine ⟨f, fd, ps, ⟨fun vs H Q E h => by rw [hn]; exact spD_len h, fun A outer s H args us vs Q E hr he hb hv hs => ?_⟩, m, kp, bd⟩
  obtain ⟨_, _, _, _, _, z⟩ := hs
  exact z.elim
end DL
set_option Elab.async false
set_option linter.all false
set_option maxRecDepth 100000
namespace DL
open PySem L2

/-! ### an owned list or dict is read in place: what is taken out of it is nobody's -/
section
variable {K : PySem.W.Frag} {B H : Hp} {O : Ob} {L : Lm} {σ : St} {ρ : DL.Env}
def RepS (K : PySem.W.Frag) (G H : Hp) (v : V) (c : D) : Prop := Rep K G v c ∨ ∃ p o, v = .ref p ∧ H p = some o ∧ Top K G o c
theorem SR.readS (S : SR K B O L σ H ρ) {i : Nat} {c : D} (h : ρ[i]? = some (some c)) (n : isIns c = false) : ∃ v, σ[i]? = some (some v) ∧ RepS K (hide (HS O L) H) H v c := by
  cases e : L i with
  | none =>
    obtain ⟨v, h1, h2⟩ := S.vars i c e h
    exact ⟨v, h1, .inl h2⟩
  | some x =>
    obtain ⟨k, as⟩ := x
    obtain ⟨v, d, h1, h2, h3⟩ := S.owns i k as e
    rw [h] at h2
    cases h2
    have hk := S.one i k as c e h n
    subst hk
    refine ⟨v, h1, ?_⟩
    cases q : isTop c with
    | true =>
      obtain ⟨p, o, h4, _, h5, t⟩ := top_own h3 q
      exact .inr ⟨p, o, h4, h5, t⟩
    | false => cases c <;> first | exact .inl h3.2 | cases q
theorem RepS.dget {P : Addr → Prop} {v y : V} {c b : D} {o : Option D} (r : RepS K (hide P H) H v c) (rb : Rep K (hide P H) y b) (h : dgetD c b = some o) : ∃ p w, v = .ref p ∧ DGet H p y w ∧ RelD K (hide P H) w o := by
  rcases r with r | ⟨p, ho, e, hp, t⟩
  · exact dget_rep r rb h
  · unfold dgetD at h
    split at h
    · obtain ⟨k, hk, h⟩ := Option.map_eq_some_iff.mp h
      subst h
      cases ho <;> first | exact t.elim | skip
      rename_i us
      obtain ⟨t1, t2⟩ := t
      subst t1
      exact ⟨p, _, e, .inl ⟨us, k, .inl hp, key_rep hk rb, rfl⟩, look_rel k t2⟩
    · obtain ⟨k, hk, h⟩ := Option.map_eq_some_iff.mp h
      subst h
      cases ho <;> first | exact t.elim | skip
      rename_i us
      obtain ⟨t1, t2⟩ := t
      obtain ⟨q, vs, e2, g1, g2⟩ := rb
      subst t1 e2
      refine ⟨p, _, e, .inr ⟨us, k, q, .inl hp, rfl, ?_, rfl⟩, look_rel k t2⟩
      rw [← keys_rep hk g2]
      exact (hide_some g1).2
    · cases ho <;> exact t.elim
    · cases ho <;> exact t.elim
    · cases h
theorem gd_ixS {P : Addr → Prop} {v y : V} {c b d : D} {Q : VK} (dom : ∀ p, P p → H p ≠ none) (r : RepS K (hide P H) H v c) (rb : Rep K (hide P H) y b) (h : gIx c b = some d) (k : ∀ v H', Same H H' → Rep K (hide P H') v d → Q v H') : rIxA K v y H Q := by
  rcases r with r | ⟨p, ho, e, hp, t⟩
  · exact gd_ix P H v y c b d Q dom r rb h k
  · have dict : (dgetD c b).join = some d → rIxA K v y H Q := fun hg => by
      cases z : dgetD c b with
      | none => rw [z] at hg; cases hg
      | some o =>
        rw [z] at hg
        have hg : o = some d := hg
        subst hg
        obtain ⟨p', w, e', g, rel⟩ := RepS.dget (.inr ⟨p, ho, e, hp, t⟩) rb z
        cases w with
        | none => exact rel.elim
        | some w => exact .inr (.inr (.inr ⟨p', w, e', g, k w H (Same.refl H) rel⟩))
    cases c <;> first | (cases ho <;> exact t.elim) | skip
    · cases ho <;> first | exact t.elim | skip
      cases b <;> first | (cases h; done) | skip
      rename_i ds us j
      have t : RepL K (hide P H) us ds := t
      obtain ⟨z, hz, rz⟩ := atI_rep t (show atI ds j = some d from h)
      exact .inl ⟨p, us, j, z, e, rb, SqL.of hp, hz, k z H (Same.refl H) rz⟩
    · exact dict h
    · exact dict h
    · cases h
end
section
variable {X : Cx} {W : WX} {a b o e f : Expr} {pos apos cpos : Pos} {eb ex : List Nat} {fb fx : DL.Env → R D} {i : Nat}
theorem pd_ixO (i : Nat) (hu : X.A.units + 1 < cLine) (ha : PE X a (tVar i)) (hb : PD X W b eb fb) (hs : PlainIx b) : PD X W (.Subscript a b pos) eb (fOp gIx (fun ρ => getE ρ i) fb) :=
  PE.imp (pe_ix (ix_all hu) ha hb hs) fun σ H Q ⟨B, O, L, ρ, S, P⟩ => by
    have P : PostG X.K O W (rV X.K O (dropL eb L)) ((getE ρ i).bind fun a => (fb ρ).bind fun b => R.ofO (gIx a b)) σ H Q := P
    unfold getE at P
    split at P
    case h_2 => exact P.elim
    rename_i c hc
    have P : PostG X.K O W (rV X.K O (dropL eb L)) ((fb ρ).bind fun b => R.ofO (gIx c b)) σ H Q := P
    obtain ⟨v, hs, _⟩ := S.read hc
    refine ⟨v, hs, B, O, L, ρ, S, PostG.bind P fun bd y H2 e2 r2 P2 => ?_⟩
    obtain ⟨d, hd, k⟩ := P2.ofO
    have n : isIns c = false := by cases c <;> first | rfl | cases hd
    have S2 := (S.ext e2).drop eb
    obtain ⟨v', hs', rs⟩ := S2.readS hc n
    rw [hs] at hs'
    cases hs'
    exact gd_ixS S2.hdom rs r2 hd k
theorem pd_dgetO (i : Nat) (hu : X.A.units + 1 < cLine) (ho : PE X o (tVar i)) (he : PD X W e eb fb) (hf : PD X W f ex fx) (m : M2 X o "get" apos e f cpos := by first | exact ⟨rfl, rfl, rfl, rfl⟩ | constructor <;> rfl) :
    PD X W (.Call (.Attribute o "get" apos) [e, f] [] cpos) (eb ++ ex) (fDGet (fun ρ => getE ρ i) fb fx) := PE.imp (pe_dget2 hu ho he hf m) fun σ H Q ⟨B, O, L, ρ, S, P⟩ => by
  have P : PostG X.K O W (rV X.K O (dropL (eb ++ ex) L)) ((getE ρ i).bind fun c => if isDct c = true then (fb ρ).bind fun k => (fx ρ).bind fun x => R.ofO (gDGet c k x) else .stuck) σ H Q := P
  unfold getE at P
  split at P
  case h_2 => exact P.elim
  rename_i c hc
  have P : PostG X.K O W (rV X.K O (dropL (eb ++ ex) L)) (if isDct c = true then (fb ρ).bind fun k => (fx ρ).bind fun x => R.ofO (gDGet c k x) else .stuck) σ H Q := P
  split at P
  case isFalse => exact P.elim
  rename_i hdc
  have n : isIns c = false := by cases c <;> first | rfl | cases hdc
  obtain ⟨v, hs, rs0⟩ := S.readS hc n
  have ia : ∃ a, v = .ref a ∧ IsD H a := by
    rcases rs0 with r | ⟨p, o, e, hp, t⟩
    · exact isDct_rep r hdc
    · refine ⟨p, e, ?_⟩
      cases c <;> first | (cases hdc; done) | skip
      · cases o <;> first | exact t.elim | exact .inl ⟨_, .inl hp⟩
      · cases o <;> first | exact t.elim | exact .inr ⟨_, .inl hp⟩
      · cases o <;> exact t.elim
      · cases o <;> exact t.elim
  obtain ⟨a, ea, ia⟩ := ia
  refine ⟨v, hs, a, ea, ia, B, O, L, ρ, S, PostG.bind P fun k y H2 e2 r2 P2 => ⟨B, O, L, ρ, S.ext e2, PostG.bind P2 fun z u H3 e3 r3 P3 => ?_⟩⟩
  obtain ⟨d, hd, P4⟩ := P3.ofO
  obtain ⟨w, hw, hd⟩ := Option.map_eq_some_iff.mp hd
  have S3 := (S.ext (e2.trans e3)).drop (eb ++ ex)
  obtain ⟨v', hs', rs⟩ := S3.readS hc n
  rw [hs] at hs'
  cases hs'
  have rb := drop_mono (es' := eb ++ ex) (fun i h => List.mem_append_left _ h) e3 r2
  have rc := drop_mono (es' := eb ++ ex) (fun i h => List.mem_append_right _ h) (Same.refl H3) r3
  obtain ⟨p, ov, ep, g, rel⟩ := rs.dget rb hw
  rw [ea] at ep
  cases ep
  refine ⟨ov, g, P4 _ H3 (Same.refl H3) ?_⟩
  subst hd
  cases ov <;> cases w <;> first | exact rel.elim | exact rc | exact rel
theorem pd_slO (i : Nat) {lo hi : Option Expr} {p2 : Pos} {fl fh : DL.Env → R (Option Int)} (he : PE X e (tVar i)) (hl : PDO X W lo fl) (hh : PDO X W hi fh) : PD X W (.Subscript e (.Slice lo hi none p2) pos) [] (fSl (fun ρ => getE ρ i) fl fh) :=
  PE.imp (pe_slice sl_all he hl hh) fun σ H Q ⟨B, O, L, ρ, S, P⟩ => by
    have P : PostG X.K O W (rV X.K O (dropL [] L)) ((getE ρ i).bind fun d => (fl ρ).bind fun l => (fh ρ).bind fun h => R.ofO (gSl l h d)) σ H Q := P
    unfold getE at P
    split at P
    case h_2 => exact P.elim
    rename_i c hc
    have P : PostG X.K O W (rV X.K O (dropL [] L)) ((fl ρ).bind fun l => (fh ρ).bind fun h => R.ofO (gSl l h c)) σ H Q := P
    obtain ⟨v, hs, _⟩ := S.read hc
    refine ⟨v, hs, B, O, L, ρ, S, PostG.bind P fun l l' H2 e2 r2 P2 => ⟨B, O, L, ρ, S.ext e2, PostG.bind P2 fun h h' H3 e3 r3 P3 => ?_⟩⟩
    obtain rfl : l' = l := r2
    obtain rfl : h' = h := r3
    obtain ⟨d, hd, k⟩ := P3.ofO
    have n : isIns c = false := by cases c <;> first | rfl | cases hd
    have S3 := (S.ext (e2.trans e3)).drop []
    obtain ⟨v', hs', rs⟩ := S3.readS hc n
    rw [hs] at hs'
    cases hs'
    rcases rs with r | ⟨p, ho, e, hp, t⟩
    · exact gd_sl S3.hdom r hd k
    · obtain ⟨ds, rfl⟩ : ∃ ds, c = .lst ds := by cases c <;> first | exact ⟨_, rfl⟩ | (cases hd; done) | (cases ho <;> exact t.elim)
      obtain ⟨us, rfl, t⟩ : ∃ us, ho = .lst us ∧ RepL X.K (hide (HS O (dropL [] L)) H3) us ds := by cases ho <;> first | exact t.elim | exact ⟨_, rfl, t⟩
      cases hd
      exact .inl ⟨p, us, e, SqL.of hp, new_lst S3.hdom (t.cut l' h') k⟩
end
end DL
set_option Elab.async false
set_option linter.all false
set_option maxRecDepth 100000
/-! classes, at the level of objects: what is raised is wished for at the caller's slots -/
namespace DL
open PySem PySem.Spec PyProof.Rows L2
section
variable {X : Cx} {k : Nat} {f g C : Addr} {sp : Sp} {E : L2.St → XK} {mc : Value} {m x : Str} {p pos apos : Pos} {o e a b : Expr} {es : List Expr} {t : TA} {to ti ta tb : TE}
theorem callR_at {A : Around} {pins : List (Addr × Obj)} {σ : L2.St} {H : Hp} {s : Shared} {Q : VK} {us : List Value} {vs : List V} (F : FnR X.prog X.w X.K X.mg X.base (L2.CX X.prog X.w) k f sp) (hr : Room k A) (he : Env0 X.prog X.w X.K X.mg X.base A X.stack s H) (hx : PassesAt (L2.CX X.prog X.w) X σ (E σ))
    (I : Inv X pins σ H s) (r : Vals vs us) (h : sp vs H Q (E σ)) : codeAny (model X.prog X.w) A (.call (.ref f) ⟨us, []⟩) (fun r s' => match r with | .ok (.ret v) => EP X pins σ Q v s' | .ok _ => False | .error e => X.xe e s') s :=
  codeAny_mono (F A X.stack s H us vs Q (E σ) hr he r h) fun r s' q => by
    cases r with
    | error e => exact hx pins H s e s' I q
    | ok fl =>
      cases fl with
      | ret u => exact I.after q
      | next => exact q
      | brk => exact q
      | cont => exact q
/-- C(..): the instance, its dict, then __init__ -/
def tMakeAt (C : Addr) (sp : Sp) (E : L2.St → XK) (t : TA) : TE := fun σ H Q => t σ H fun vs H1 => ∀ x dx, H1 x = none → H1 dx = none → dx ≠ x →
  sp (.ref x :: vs) (upd (upd H1 dx (.own x)) x (.ins C dx [])) (fun v H2 => v = .non ∧ Q (.ref x) H2) (E σ)
theorem make_at {pins : List (Addr × Obj)} {σ : L2.St} {H : Hp} {s : Shared} {Q : VK} {us : List Value} {vs : List V} (M : Mk X.K C f) (F : FnR X.prog X.w X.K X.mg X.base (L2.CX X.prog X.w) k f sp) (hr : Room (k + 1) X.A) (hx : PassesAt (L2.CX X.prog X.w) X σ (E σ))
    (I : Inv X pins σ H s) (r : Vals vs us) (h : ∀ x dx, H x = none → H dx = none → dx ≠ x → sp (.ref x :: vs) (upd (upd H dx (.own x)) x (.ins C dx [])) (fun v H2 => v = .non ∧ Q (.ref x) H2) (E σ)) :
    wpAny (model X.prog X.w) X.A (call (.ref C) us) (EP X pins σ Q) X.xe s := by
  have J := Inv.made (C := C) I
  have q := h (s.heap.objs.size + 1) s.heap.objs.size (I.hok.fresh (Nat.le_succ _)) (I.hok.fresh (Nat.le_refl _)) (Nat.ne_of_lt (Nat.lt_succ_self _))
  refine wpAny_call (make_map (f := f) I.kIn M.makes M.init (beq_iff_eq.mp M.fn) (codeAny_mono (callR_at (vs := V.ref (s.heap.objs.size + 1) :: vs) F (hr.make C us []) (J.env0.make C us []) hx J (.cons rfl r) q) fun r1 s1 z => ?_))
  match r1, z with
  | .error _, z => exact z
  | .ok (.ret u), ⟨v, H2, J2, rv, e1, q2⟩ =>
    cases e1
    exact ⟨rv, ⟨V.ref (s.heap.objs.size + 1), H2, J2, rfl, q2⟩⟩
theorem pe_makeAt (M : Mk X.K C f) (F : FnR X.prog X.w X.K X.mg X.base (L2.CX X.prog X.w) k f sp) (hr : Room (k + 1) X.A) (hg : Gl X x) (hm : X.mg x = some (.ref C)) (hx : ∀ σ, PassesAt (L2.CX X.prog X.w) X σ (E σ)) (ha : PA X (e :: es) t)
    (hdb : (x == ("__debug__" : Str)) = false := by decide) (he : starEach (e :: es) X.env = (false, eval e X.env) :: starEach es X.env := by rfl) (hpl : (backTo pos (starEach es X.env)).any (·.1) = false := by rfl) :
    PE X (.Call (.Name x p) (e :: es) [] pos) (tMakeAt C sp E t) := ⟨fun pins s σ H Q I h =>
  wpAny_Call_Name_kw (ld_glob I hg hm (PySem.W.callWith_K (h₀ := X.base) I.ok.mod.kin M.kp (thn (ha.run pos pins s σ H _ I h) fun us s1 ⟨vs, H1, I1, r, q⟩ => ⟨I1.kIn, make_at M F hr (hx σ) I1 r q⟩) he hpl) hdb)⟩
/-- the class stands in a slot -/
def tMakeL (i : Nat) (C : Addr) (sp : Sp) (E : L2.St → XK) (t : TA) : TE := fun σ H Q => σ[i]? = some (some (.ref C)) ∧ tMakeAt C sp E t σ H Q
theorem pe_makeL {i : Nat} (M : Mk X.K C f) (F : FnR X.prog X.w X.K X.mg X.base (L2.CX X.prog X.w) k f sp) (hr : Room (k + 1) X.A) (hN : X.N[i]? = some x) (hv : Vis X.env.scope x) (hx : ∀ σ, PassesAt (L2.CX X.prog X.w) X σ (E σ)) (ha : PA X (e :: es) t)
    (hdb : (x == ("__debug__" : Str)) = false := by decide) (hcd : (x == ("__classdict__" : Str)) = false := by decide) (he : starEach (e :: es) X.env = (false, eval e X.env) :: starEach es X.env := by rfl) (hpl : (backTo pos (starEach es X.env)).any (·.1) = false := by rfl) :
    PE X (.Call (.Name x p) (e :: es) [] pos) (tMakeL i C sp E t) := ⟨fun pins s σ H Q I h => by
  obtain ⟨h1, h⟩ := h
  refine wpAny_Call_Name_kw (thn ((pe_var (pos := p) hN hv hdb hcd).run pins s σ H (fun v H1 => v = .ref C ∧ H1 = H) I ⟨.ref C, h1, rfl, rfl⟩) fun u s1 ⟨v, H1, I1, r1, e1, e2⟩ => ?_)
  cases e1
  cases e2
  cases r1
  exact PySem.W.callWith_K (h₀ := X.base) I.ok.mod.kin M.kp (thn (ha.run pos pins s1 σ _ _ I1 h) fun us s2 ⟨vs, H2, I2, r, q⟩ => ⟨I2.kIn, make_at M F hr (hx σ) I2 r q⟩) he hpl⟩
/-- o[i], o of an own class with __getitem__ -/
structure GetC (K : PySem.W.Frag) (C f : Addr) : Prop where
  at_ : PySem.W.findIn K (.ref C) "__getitem__" = some (some (.ref f))
  fi : PySem.W.fnIn K f = true
  fn : PySem.W.isFn K (.ref f) = true
def tGetC (C : Addr) (sp : Sp) (E : L2.St → XK) (ta tb : TE) : TE := fun σ H Q => ta σ H fun x H1 => tb σ H1 fun y H2 => ∃ a dx fs, x = .ref a ∧ H2 a = some (.ins C dx fs) ∧ sp [x, y] H2 Q (E σ)
theorem pe_getC (c : GetC X.K C f) (F : FnR X.prog X.w X.K X.mg X.base (L2.CX X.prog X.w) k f sp) (hr : Room (k + 1) X.A) (hx : ∀ σ, PassesAt (L2.CX X.prog X.w) X σ (E σ)) (ha : PE X a ta) (hb : PE X b tb)
    (hs : ∀ (q : Addr) (i : Value), subscripted b true (.ref q) i = runValue (.builtin "lifetime.subscript" ⟨[.ref q, i], []⟩) := by intro _ _; rfl) : PE X (.Subscript a b pos) (tGetC C sp E ta tb) := ⟨fun pins s σ H Q I h => by
  refine Subscript_ (thn (ha.run pins s σ H _ I h) fun u s1 ⟨y, H1, I1, r1, h1⟩ => thn (hb.run pins s1 σ H1 _ I1 h1) fun w s2 ⟨z, H2, I2, r2, q, dx, fs, e1, e2, h2⟩ => ?_)
  subst e1
  obtain rfl : u = Value.ref q := r1
  obtain ⟨mA, O, _, _, _, _⟩ := ins_get I2.hok e2
  obtain ⟨od, J, _⟩ := O.look
  obtain ⟨m0, hF⟩ := I2.fr
  refine PySem.W.sub_K hF I2.ok.mod.kin J c.at_ c.fi c.fn ?_ (hs q w)
  refine wpAny_mono (wpAny_call (callR_at (vs := [V.ref q, z]) F hr.in1 I2.env0.in1 (hx σ) I2 (.cons rfl (.cons r2 .nil)) h2)) (fun _ _ z => z) fun _ _ z => z⟩
/-- o[i] = v, o of an own class with __setitem__ -/
structure SetC (K : PySem.W.Frag) (C f : Addr) : Prop where
  at_ : PySem.W.findIn K (.ref C) "__setitem__" = some (some (.ref f))
  ns : PySem.W.noSeq K C = true
  fn : PySem.W.isFn K (.ref f) = true
def gSetC (C : Addr) (sp : Sp) (E : L2.St → XK) (to ti : TE) : TG := fun v σ H Q => to σ H fun x H1 => ti σ H1 fun y H2 => ∃ a dx fs, x = .ref a ∧ H2 a = some (.ins C dx fs) ∧ sp [x, y, v] H2 (fun _ H3 => Q σ H3) (E σ)
theorem pg_setC (c : SetC X.K C f) (F : FnR X.prog X.w X.K X.mg X.base (L2.CX X.prog X.w) k f sp) (hr : Room k X.A) (hx : ∀ σ, PassesAt (L2.CX X.prog X.w) X σ (E σ)) (ho : PE X a to) (hi : PE X b ti)
    (ha : ∀ v, assign (.Subscript a b pos) X.env v = (do
      let ov ← holding [v] (eval a X.env)
      let iv ← holding [v, ov] (eval b X.env)
      standAt pos
      holding [v, ov, iv] (setItem ov iv v)
      release [v, ov, iv] []) := by intro _; rfl) : PG X (.Subscript a b pos) (gSetC C sp E to ti) := ⟨fun pins s σ H v u Q I r h => by
  rw [ha]
  refine wpAny_bind (wpAny_holding (thn (ho.run pins s σ H _ I h) fun ov s1 ⟨x, H1, I1, r1, h1⟩ => wpAny_bind (wpAny_holding (thn (hi.run pins s1 σ H1 _ I1 h1) fun iv s2 ⟨y, H2, I2, r2, q, dx, fs, e1, e2, h2⟩ => ?_))))
  subst e1
  obtain rfl : ov = Value.ref q := r1
  obtain ⟨mA, O, _, _, _, _⟩ := ins_get I2.hok e2
  obtain ⟨od, J, _⟩ := O.look
  obtain ⟨m0, hF⟩ := I2.fr
  refine wpAny_bind (wpAny_standAt (wpAny_bind (wpAny_holding (PySem.W.ksp_setItem hF I2.ok.mod.kin J c.ns c.at_ c.fn ?_))))
  refine wpAny_mono (wpAny_call (callR_at (vs := [V.ref q, y, v]) F hr I2.env0 (hx σ) I2 (.cons rfl (.cons r2 (.cons r .nil))) h2)) (fun _ s3 z => ?_) fun _ _ z => z
  obtain ⟨_, H3, I3, _, q3⟩ := z
  exact wpAny_release ⟨σ, H3, I3, q3⟩⟩
/-- e.m(..), e the class -/
def tCMethAt (C : Addr) (sp : Sp) (E : L2.St → XK) (ta : TE) (t : TA) : TE := fun σ H Q => ta σ H fun x H1 => x = .ref C ∧ t σ H1 fun vs H2 => sp (.ref C :: vs) H2 Q (E σ)
theorem pe_cmethAt {pl : Sem Bool} (he : PE X o ta) (r : ClX.CRead X.K C mc) (c : ClX.CMet X.K C mc m f g) (F : FnR X.prog X.w X.K X.mg X.base (L2.CX X.prog X.w) k g sp) (hr : Room k X.A) (hx : ∀ σ, PassesAt (L2.CX X.prog X.w) X σ (E σ)) (ha : PA X (e :: es) t)
    (hst : starEach (e :: es) X.env = (false, eval e X.env) :: starEach es X.env := by rfl) (hpl : (backTo pos (starEach es X.env)).any (·.1) = false := by rfl)
    (ht : eval (.Call (.Attribute o m apos) (e :: es) [] pos) X.env = (do
      let ov ← eval o X.env
      standAt apos.atName
      let (f, first) ← holding [ov] (getMethod ov m pl)
      callWith pos f first (backTo pos (starEach (e :: es) X.env)) (backToKw pos (keywordEach [] X.env))) := by rfl) :
    PE X (.Call (.Attribute o m apos) (e :: es) [] pos) (tCMethAt C sp E ta t) := ⟨fun pins s σ H Q I h => by
  refine PySem.W.methodCall_KW (pl := pl) (thn (he.run pins s σ H _ I h) fun u s1 ⟨x, H1, I1, rx, ex, q⟩ => ?_) ht
  subst ex
  obtain rfl : u = Value.ref C := rx
  refine ClX.getmethcm_ok I1 r c fun s2 I2 => ?_
  refine ClX.callwith_cm I2 (ClX.base_none I1 (Nat.le_refl _)) c.fi (thn (ha.run pos _ s2 σ H1 _ I2 q) fun us s3 ⟨vs, H2, I3, rv, q2⟩ => ⟨⟨ClX.pin_at I3, I3.kIn⟩, ?_⟩) hst hpl
  exact wpAny_mono (wpAny_call (PySem.W.method_call (ClX.pin_at I3) (callR_at (vs := V.ref C :: vs) F hr I3.env0 (hx σ) I3 (.cons rfl rv) q2))) (fun _ _ z => ClX.unpinE z) fun _ _ z => z⟩
end
end DL
set_option Elab.async false
set_option linter.all false
set_option maxRecDepth 100000
namespace DL
open PySem PySem.Spec PyProof.Rows L2
/-- an owned object and what it owns, changed -/
structure Kept (as : List Addr) (H : Hp) (as' : List Addr) (H' : Hp) : Prop where
  keep : ∀ a o, a ∉ as → H a = some o → H' a = some o
  nd : as'.Nodup
  new : ∀ p ∈ as', p ∈ as ∨ H p = none
  head : as'.head? = as.head?
section
variable {K : PySem.W.Frag} {B H H' : Hp} {O : Ob} {L : Lm} {σ : L2.St} {ρ : DL.Env}
theorem SR.keptLe (S : SR K B O L σ H ρ) {i k : Nat} {as as' : List Addr} (hL : L i = some (k, as)) (kt : Kept as H as' H') : RdLe (hide (HS O L) H) (hide (HS O (putL i (some (k, as')) L)) H') := by
  refine RdLe.ofKey fun a u e => ?_
  obtain ⟨n, e⟩ := hide_some e
  have na : a ∉ as := fun z => n (.inr ⟨i, k, as, hL, z⟩)
  rw [hide_no]
  · exact kt.keep a u na e
  · rintro (z | ⟨j, k2, bs, z, m⟩)
    · exact n (.inl z)
    · by_cases q : j = i
      · subst q
        rw [putL_same] at z
        cases z
        rcases kt.new a m with z | z
        · exact na z
        · rw [z] at e
          cases e
      · rw [putL_ne q] at z
        exact n (.inr ⟨j, k2, bs, z, m⟩)
theorem SR.replace (S : SR K B O L σ H ρ) {i k : Nat} {as as' : List Addr} {v : V} {d' : D} (hL : L i = some (k, as)) (hs : σ[i]? = some (some v)) (kt : Kept as H as' H') (hi : isIns d' = true) (w : Own K (hide (HS O (putL i (some (k, as')) L)) H') H' (dep k) v as' d') :
    SR K B O (putL i (some (k, as')) L) σ H' (ρ.set i (some d')) := by
  have le := S.keptLe hL kt
  have hiσ : i < σ.length := (List.getElem?_eq_some_iff.mp hs).1
  have hiρ : i < ρ.length := by rw [← S.len]; exact hiσ
  have oth : ∀ {j k2 : Nat} {bs : List Addr}, L j = some (k2, bs) → j ≠ i → ∀ p ∈ bs, p ∉ as ∧ H p ≠ none := fun {j k2 bs} h n p hp => ⟨S.sep j i k2 bs k as n h hL p hp, S.hdom p (.inr ⟨j, k2, bs, h, hp⟩)⟩
  refine ⟨fun a o e => ?_, S.dom, by rw [List.length_set]; exact S.len, fun j e h1 h2 => ?_, fun j k2 bs h => ?_, fun j k2 bs h => ?_, fun j1 j2 k1 b1 k2 b2 n h1 h2 p m1 m2 => ?_, fun j k2 bs e h h2 hn => ?_, fun j k2 bs h h10 => ?_⟩
  · refine kt.keep a o (fun z => ?_) (S.same a o e)
    rw [(S.nodup i k as hL).2 a z] at e
    cases e
  · have n : j ≠ i := fun q => by
      subst q
      rw [putL_same] at h1
      cases h1
    rw [putL_ne n] at h1
    rw [List.getElem?_set_ne (Ne.symm n)] at h2
    obtain ⟨x, h3, h4⟩ := S.vars j e h1 h2
    exact ⟨x, h3, h4.mono le⟩
  · by_cases n : j = i
    · subst n
      rw [putL_same] at h
      cases h
      exact ⟨v, d', hs, List.getElem?_set_self hiρ, w⟩
    · rw [putL_ne n] at h
      rw [List.getElem?_set_ne (Ne.symm n)]
      obtain ⟨x, e, h1, h2, h3⟩ := S.owns j k2 bs h
      refine ⟨x, e, h1, h2, h3.mono le fun p hp => ?_⟩
      obtain ⟨n1, n2⟩ := oth h n p hp
      cases q : H p with
      | none => exact absurd q n2
      | some o => exact kt.keep p o n1 q
  · by_cases n : j = i
    · subst n
      rw [putL_same] at h
      cases h
      refine ⟨kt.nd, fun p hp => ?_⟩
      rcases kt.new p hp with z | z
      · exact (S.nodup j _ as hL).2 p z
      · exact S.same.free z
    · rw [putL_ne n] at h
      exact S.nodup j k2 bs h
  · have key : ∀ {j k2 : Nat} {bs : List Addr}, L j = some (k2, bs) → j ≠ i → p ∈ bs → p ∈ as' → False := fun h n m m' => by
      obtain ⟨n1, n2⟩ := oth h n p m
      rcases kt.new p m' with z | z
      · exact n1 z
      · exact n2 z
    by_cases q1 : j1 = i
    · subst q1
      rw [putL_same] at h1
      cases h1
      rw [putL_ne (Ne.symm n)] at h2
      exact key h2 (Ne.symm n) m2 m1
    · rw [putL_ne q1] at h1
      by_cases q2 : j2 = i
      · subst q2
        rw [putL_same] at h2
        cases h2
        exact key h1 q1 m1 m2
      · rw [putL_ne q2] at h2
        exact S.sep j1 j2 k1 b1 k2 b2 n h1 h2 p m1 m2
  · by_cases n : j = i
    · subst n
      rw [List.getElem?_set_self hiρ] at h2
      cases h2
      rw [hi] at hn
      cases hn
    · rw [putL_ne n] at h
      rw [List.getElem?_set_ne (Ne.symm n)] at h2
      exact S.one j k2 bs e h h2 hn
  · by_cases n : j = i
    · subst n
      rw [putL_same] at h
      cases h
      rw [kt.head]
      exact S.pin j _ as hL h10
    · rw [putL_ne n] at h
      exact S.pin j k2 bs h h10
/-- a slot is given a new object, and all that it owns -/
theorem SR.freshK {H0 : Hp} (S : SR K B O L σ H0 ρ) (e : Same H0 H) {i k : Nat} {v : V} {as : List Addr} {d : D} (hk : k < 10) (hi : i < σ.length) (hins : isIns d = true) (hn : as.Nodup) (hp : ∀ p ∈ as, H0 p = none) (w : Own K (hide (fun a => HS O L a ∨ a ∈ as) H) H k v as d) :
    SR K B O (putL i (some (k, as)) L) (σ.set i (some v)) H (ρ.set i (some d)) := by
  have sub : ∀ a, HS O (putL i (some (k, as)) L) a → HS O L a ∨ a ∈ as := by
    rintro a (z | ⟨j, k2, bs, z, m⟩)
    · exact .inl (.inl z)
    · by_cases q : j = i
      · subst q
        rw [putL_same] at z
        cases z
        exact .inr m
      · rw [putL_ne q] at z
        exact .inl (.inr ⟨j, k2, bs, z, m⟩)
  have le : RdLe (hide (HS O L) H0) (hide (HS O (putL i (some (k, as)) L)) H) := RdLe.ofKey fun a u z => by
    obtain ⟨n, z⟩ := hide_some z
    rw [hide_no fun y => (sub a y).elim n fun m => by
      rw [hp a m] at z
      cases z]
    exact e a u z
  refine (S.ext e).setOwn (fun z => by rw [hins] at z; cases z) (fun z => absurd z (by omega)) hi hn (fun p m => ⟨fun z => S.hdom p z (hp p m), S.same.free (hp p m)⟩) (fun j e1 h1 h2 _ => ?_) (fun j k2 bs h _ => ?_) ?_
  · obtain ⟨x, h3, h4⟩ := S.vars j e1 h1 h2
    exact ⟨x, h3, h4.mono le⟩
  · obtain ⟨x, e1, h1, h2, h3⟩ := S.owns j k2 bs h
    refine ⟨x, e1, h1, h2, h3.mono le fun p m => ?_⟩
    cases q : H0 p with
    | none => exact absurd q (h3.dom p m)
    | some o => exact e p o q
  · have hd : dep k = k := if_pos hk
    rw [hd]
    exact w.mono (hide_same sub (Same.refl H)) fun _ _ => rfl
end
/-! ### defs that change their first argument -/
inductive RM where
  | ok (d s : D) | exc (x : XN) (s : D) | stuck
def OA (O : Addr → Prop) (as : List Addr) : Addr → Prop := fun a => O a ∨ a ∈ as
def spM (K : PySem.W.Frag) (k n : Nat) (F : List D → RM) : Sp := fun vs H Q E => ∃ (O : Addr → Prop) (p0 : Addr) (as : List Addr) (self : D) (us : List V) (ds : List D),
  (∀ p, O p → H p ≠ none ∧ p ∉ as) ∧ as.Nodup ∧ vs = .ref p0 :: us ∧ as.head? = some p0 ∧ isIns self = true ∧ Own K (hide (OA O as) H) H k (.ref p0) as self ∧ RepL K (hide (OA O as) H) us ds ∧ ds.length + 1 = n ∧
  match F (self :: ds) with
  | .ok d s => ∀ v as' H', Kept as H as' H' → isIns s = true → Own K (hide (OA O as') H') H' k (.ref p0) as' s → Rep K (hide (OA O as') H') v d → Q v H'
  | .exc x s => ∀ c dd as' H', Kept as H as' H' → isIns s = true → Own K (hide (OA O as') H') H' k (.ref p0) as' s → RepX K (hide (OA O as') H') H' c dd x → E c dd H'
  | .stuck => False
theorem spM_len {K : PySem.W.Frag} {k n : Nat} {F : List D → RM} {vs : List V} {H : Hp} {Q : VK} {E : XK} (h : spM K k n F vs H Q E) : vs.length = n := by
  obtain ⟨O, p0, as, self, us, ds, _, _, e, _, _, _, r, hl, _⟩ := h
  rw [e, List.length_cons, r.length, hl]
def selfOf (ρ : DL.Env) (k : D → RM) : RM :=
  match ρ[0]? with
  | some (some s) => k s
  | _ => .stuck
def runM (N n : Nat) (fs : DL.Env → Out) (ds : List D) : RM :=
  match fs (ds.map some ++ List.replicate (N - n) none) with
  | .nx ρ => selfOf ρ (.ok .non)
  | .rt d ρ => selfOf ρ (.ok d)
  | .exc x ρ => if x.vs.all isS = true then selfOf ρ (.exc x) else .stuck
  | _ => .stuck
def L1 (k : Nat) (as : List Addr) : Lm := fun i => if i = 0 then some (k, as) else none
theorem L1_0 {k : Nat} {as : List Addr} : L1 k as 0 = some (k, as) := rfl
theorem L1_some {k i : Nat} {as : List Addr} {x : Nat × List Addr} (h : L1 k as i = some x) : i = 0 ∧ x = (k, as) := by
  unfold L1 at h
  split at h
  · cases h; exact ⟨by assumption, rfl⟩
  · cases h
theorem dep_10 {k : Nat} : dep (10 + k) = k := by unfold dep; rw [if_neg (by omega)]; omega
theorem SR.beginM {K : PySem.W.Frag} {H : Hp} {O : Addr → Prop} {p0 : Addr} {as : List Addr} {self : D} {us : List V} {ds : List D} {N : List Str} {k : Nat} (dom : ∀ p, O p → H p ≠ none ∧ p ∉ as) (nd : as.Nodup) (hh : as.head? = some p0) (hins : isIns self = true)
    (w : Own K (hide (OA O as) H) H k (.ref p0) as self) (r : RepL K (hide (OA O as) H) us ds) :
    SR K (hide (fun a => a ∈ as) H) ⟨O, fun _ => some p0⟩ (L1 (10 + k) as) (L2.start N (.ref p0 :: us)) H ((self :: ds).map some ++ List.replicate (N.length - (self :: ds).length) none) := by
  have hl := r.length
  have hO : ∀ a, HS ⟨O, fun _ => some p0⟩ (L1 (10 + k) as) a → OA O as a := fun a h => h.elim .inl fun ⟨i, k2, bs, e, m⟩ => by
    obtain ⟨_, e⟩ := L1_some e
    cases e
    exact .inr m
  have le : RdLe (hide (OA O as) H) (hide (HS ⟨O, fun _ => some p0⟩ (L1 (10 + k) as)) H) := hide_same hO (Same.refl H)
  refine ⟨fun a o e => (hide_some e).2, fun p hp => ?_, (by unfold L2.start; simp [hl]), fun i d h1 h2 => ?_, fun i k2 bs h => ?_, fun i k2 bs h => ?_, fun i j k1 b1 k2 b2 n h1 h2 => ?_, fun i k2 bs d h h2 hn => ?_, fun i k2 bs h _ => ?_⟩
  · obtain ⟨d1, d2⟩ := dom p hp
    rw [hide_no d2]
    exact d1
  · have n0 : i ≠ 0 := fun q => by
      subst q
      cases h1
    obtain ⟨j, rfl⟩ : ∃ j, i = j + 1 := ⟨i - 1, by omega⟩
    have h2 : (ds.map some ++ List.replicate (N.length - (self :: ds).length) none)[j]? = some (some d) := h2
    by_cases hi : j < ds.length
    · rw [List.getElem?_append_left (by rw [List.length_map]; exact hi), List.getElem?_map] at h2
      cases q : ds[j]? with
      | none => rw [q] at h2; cases h2
      | some e =>
        rw [q] at h2
        cases h2
        obtain ⟨v, hv, rv⟩ := r.get q
        refine ⟨v, ?_, rv.mono le⟩
        show (us.map some ++ _)[j]? = _
        rw [List.getElem?_append_left (by rw [List.length_map]; omega), List.getElem?_map, hv]
        rfl
    · rw [List.getElem?_append_right (by rw [List.length_map]; omega), List.getElem?_replicate] at h2
      split at h2 <;> cases h2
  · obtain ⟨rfl, e⟩ := L1_some h
    cases e
    refine ⟨.ref p0, self, rfl, rfl, ?_⟩
    rw [dep_10]
    exact w.mono le fun _ _ => rfl
  · obtain ⟨rfl, e⟩ := L1_some h
    cases e
    exact ⟨nd, fun p hp => hide_yes hp⟩
  · obtain ⟨rfl, _⟩ := L1_some h1
    obtain ⟨rfl, _⟩ := L1_some h2
    exact absurd rfl n
  · obtain ⟨rfl, _⟩ := L1_some h
    cases h2
    rw [hins] at hn
    cases hn
  · obtain ⟨rfl, e⟩ := L1_some h
    cases e
    exact hh
theorem own_ref {K : PySem.W.Frag} {G H : Hp} {k : Nat} {v : V} {as : List Addr} {d : D} (h : Own K G H (k + 1) v as d) (hi : isIns d = true) : ∃ p, v = .ref p ∧ as.head? = some p := by
  cases d <;> first | (cases hi; done) | skip
  obtain ⟨p, dx, us, bs, h1, h2, h3, h4, h5⟩ := h
  exact ⟨p, h1, by rw [h4]; rfl⟩
/-- what stands at the exit -/
theorem SR.exitM {K : PySem.W.Frag} {H H' : Hp} {O : Addr → Prop} {p0 : Addr} {as : List Addr} {L : Lm} {σ : L2.St} {ρ : DL.Env} {k : Nat} (hh : as.head? = some p0) (S : SR K (hide (fun a => a ∈ as) H) ⟨O, fun _ => some p0⟩ L σ H' ρ) (w : OwOk [(0, 10 + (k + 1))] L) :
    ∃ (as' : List Addr) (s : D), ρ[0]? = some (some s) ∧ isIns s = true ∧ Kept as H as' H' ∧ Own K (hide (OA O as') H') H' (k + 1) (.ref p0) as' s ∧ ∀ a, OA O as' a → HS ⟨O, fun _ => some p0⟩ L a := by
  obtain ⟨as', hL⟩ := w (0, 10 + (k + 1)) List.mem_cons_self
  obtain ⟨v, s, h1, h2, h3⟩ := S.owns 0 _ as' hL
  have hins : isIns s = true := by
    cases q : isIns s with
    | true => rfl
    | false =>
      have := S.one 0 _ as' s hL h2 q
      have this : 10 + (k + 1) = 1 := this
      omega
  rw [show dep (0, 10 + (k + 1)).2 = k + 1 from dep_10] at h3
  obtain ⟨p, rfl, e⟩ := own_ref h3 hins
  have hp := S.pin 0 _ as' hL (show 10 ≤ 10 + (k + 1) by omega)
  rw [e] at hp
  have hp : some p = some p0 := hp
  cases hp
  have sub : ∀ a, OA O as' a → HS ⟨O, fun _ => some p0⟩ L a := fun a z => z.elim .inl fun m => .inr ⟨0, _, as', hL, m⟩
  refine ⟨as', s, h2, hins, ⟨fun a o n e => S.same a o (by rw [hide_no n]; exact e), (S.nodup 0 _ as' hL).1, fun q hq => ?_, e.trans hh.symm⟩, h3.mono (hide_same sub (Same.refl H')) fun _ _ => rfl, sub⟩
  have z := (S.nodup 0 _ as' hL).2 q hq
  by_cases m : q ∈ as
  · exact .inl m
  · rw [hide_no m] at z
    exact .inr z
section
variable {P : Program} {w : World} {K : PySem.W.Frag} {mg : Str → Option Value} {base : Heap}
theorem repX_scal {K : PySem.W.Frag} {G G' H : Hp} {c : Value} {dd : Option Addr} {x : XN} (r : RepX K G H c dd x) (s : x.vs.all isS = true) : RepX K G' H c dd x := by
  obtain ⟨h1, a, us, h2, h3, h4, h5⟩ := r
  exact ⟨h1, a, us, h2, h3, h4, h5.scal s⟩
/-- a body that changes its first argument -/
theorem bodyM {qual : Str} {scope : Scope} {body : List Stmt} {f : Addr} {N ps : List Str} {k m : Nat} (F : List D → RM)
    (hbody : ∀ (cdv : Value) (A : Around) (outer : List PySem.Env) (s : Shared) (H : Hp) (E : XK), Room k (A.deeper (envOfC qual scope s.heap.objs.size f cdv)) →
      ∃ fs, PDB (cxOf (L2.CX P w) P w K mg base N qual scope f cdv A outer s H E) (fun c d _ H => E c d H) [(0, 10 + (m + 1))] [(0, 10 + (m + 1))] ⟨[], [(0, 10 + (m + 1))]⟩ body fs ∧ ∀ ds, ds.length = ps.length → F ds = .stuck ∨ runM N.length ps.length fs ds = F ds) :
    ∀ (cdv : Value) (A : Around) (outer : List PySem.Env) (s : Shared) (H : Hp) (vs : List V) (Q : VK) (E : XK), Room k (A.deeper (envOfC qual scope s.heap.objs.size f cdv)) → spM K (m + 1) ps.length F vs H Q E →
      ∃ t, PSs (cxOf (L2.CX P w) P w K mg base N qual scope f cdv A outer s H E) body t ∧ t { nx := fun _ H' => Q .non H', rt := Q } (L2.start N vs) H := by
  intro cdv A outer s H vs Q E hr h
  obtain ⟨fs, hb, he⟩ := hbody cdv A outer s H E hr
  refine ⟨_, hb, ?_⟩
  obtain ⟨O, p0, as, self, us, ds, dom, nd, ev, hh, hins, w0, r, hl, h⟩ := h
  subst ev
  have hl2 : (self :: ds).length = ps.length := hl
  have e : runM N.length (self :: ds).length fs (self :: ds) = F (self :: ds) := by
    rw [hl2]
    rcases he _ hl2 with z | z
    · rw [z] at h
      exact h.elim
    · exact z
  refine ⟨_, ⟨O, fun _ => some p0⟩, L1 (10 + (m + 1)) as, _, SR.beginM (N := N) dom nd hh hins w0 r, fun p hp => ?_, ?_⟩
  · obtain rfl := List.mem_singleton.mp hp
    exact ⟨as, rfl⟩
  unfold runM at e
  cases q : fs ((self :: ds).map some ++ List.replicate (N.length - (self :: ds).length) none) with
  | nx ρ =>
    rw [q] at e
    intro σ H' L S' w'
    obtain ⟨as', s', h1, h2, h3, h4, h5⟩ := S'.exitM hh w'
    have e : selfOf ρ (.ok .non) = F (self :: ds) := e
    unfold selfOf at e
    rw [h1] at e
    rw [← e] at h
    exact h .non as' H' h3 h2 h4 rfl
  | rt d ρ =>
    rw [q] at e
    intro v σ H' L S' w' rv
    obtain ⟨as', s', h1, h2, h3, h4, h5⟩ := S'.exitM hh w'
    have e : selfOf ρ (.ok d) = F (self :: ds) := e
    unfold selfOf at e
    rw [h1] at e
    rw [← e] at h
    exact h v as' H' h3 h2 h4 (rv.mono (hide_same h5 (Same.refl H')))
  | exc x ρ =>
    rw [q] at e
    intro c dd σ H' L S' w' rx
    obtain ⟨as', s', h1, h2, h3, h4, h5⟩ := S'.exitM hh w'
    have e : (if x.vs.all isS = true then selfOf ρ (.exc x) else .stuck) = F (self :: ds) := e
    split at e
    · rename_i hsc
      unfold selfOf at e
      rw [h1] at e
      rw [← e] at h
      exact h c dd as' H' h3 h2 h4 (repX_scal rx hsc)
    · rw [← e] at h
      exact h.elim
  | bk ρ => rw [q] at e; rw [← e] at h; exact h.elim
  | ct ρ => rw [q] at e; rw [← e] at h; exact h.elim
  | stuck => rw [q] at e; rw [← e] at h; exact h.elim
/-- THE RULE for a def that changes its first argument -/
theorem okM {x qual : Str} {st : Stmt} {f : Addr} {fd : FuncData} {N ps : List Str} {k m : Nat} (F : List D → RM) (Fn : Fun K x qual st f fd) (S : FnScope N ps (defScope st))
    (body : ∀ (cdv : Value) (A : Around) (outer : List PySem.Env) (s : Shared) (H : Hp) (E : XK), Room k (A.deeper (envOfC qual (defScope st) s.heap.objs.size f cdv)) →
      ∃ fs, PDB (cxOf (L2.CX P w) P w K mg base N qual (defScope st) f cdv A outer s H E) (fun c d _ H => E c d H) [(0, 10 + (m + 1))] [(0, 10 + (m + 1))] ⟨[], [(0, 10 + (m + 1))]⟩ (defBody st) fs ∧ ∀ ds, ds.length = ps.length → F ds = .stuck ∨ runM N.length ps.length fs ds = F ds) :
    FnOk P w K mg base (L2.CX P w) (k + 1) f fd ps (spM K (m + 1) ps.length F) := Fn.okX S (fun vs H Q E h => spM_len h) (bodyM F body)
end
end DL
set_option Elab.async false
set_option linter.all false
set_option maxRecDepth 100000
namespace DL
open PySem PySem.Spec PyProof.Rows L2
/-! ### classes named, fields read -/
def gFld (C : Addr) (f : Str) : D → Option D
  | .ins C' fs vs => if C' = C then fldX.look f fs vs else none
  | _ => none
section
variable {X : Cx} {W : WX} {k n : Nat} {f g C : Addr} {F : List D → R D} {FM : List D → RM} {mc : Value} {m x : Str} {p pos apos : Pos} {o e a b : Expr} {es : List Expr} {ea eb : List Nat} {fa fb fe : DL.Env → R D} {fl : DL.Env → R (List D)}
theorem pd_cls {C : Addr} (hg : Gl X x) (hm : X.mg x = some (.ref C)) (hd : (x == ("__debug__" : Str)) = false := by decide) : PD X W (.Name x pos) [] (fun _ => .ok (.cl C)) :=
  PE.imp (pe_glob (v := .ref C) hg hm rfl hd) fun σ H Q ⟨B, O, L, ρ, S, P⟩ => P (.ref C) H (Same.refl H) rfl
theorem ins_rep {K : PySem.W.Frag} {P : Addr → Prop} {H : Hp} {v : V} {C : Addr} {fs : List Str} {ds : List D} (r : Rep K (hide P H) v (.ins C fs ds)) : ∃ a dx us, v = .ref a ∧ H a = some (.ins C dx us) ∧ us.map (·.1) = fs ∧ RepL K (hide P H) (us.map (·.2)) ds := by
  obtain ⟨a, dx, us, h1, h2, h3, h4⟩ := r
  exact ⟨a, dx, us, h1, (hide_some h2).2, h3, h4⟩
theorem pd_fld {nm : Str} (c : Cls X.K C) (n : NoAttr X.K C nm) (h : PD X W e ea fe) (hb : attributeBase e nm X.env (eval e X.env) = eval e X.env := by rfl) : PD X W (.Attribute e nm pos) ea (fUn (gFld C nm) fe) :=
  PE.imp (pe_fld h hb) fun σ H Q ⟨B, O, L, ρ, S, P⟩ => ⟨B, O, L, ρ, S, PostG.bind P fun d v H1 e1 r P1 => by
    obtain ⟨u, hu, k⟩ := P1.ofO
    cases d <;> first | (cases hu; done) | skip
    rename_i C' fs ds
    have hu2 : (if C' = C then fldX.look nm fs ds else none) = some u := hu
    clear hu
    split at hu2
    case isFalse => cases hu2
    rename_i hC
    subst hC
    obtain ⟨q, dx, us, h1, h2, h3, h4⟩ := ins_rep r
    rw [← h3] at hu2
    obtain ⟨w, hw, rw'⟩ := look_fld h4 hu2
    exact ⟨q, C', dx, us, w, h1, h2, c, n, hw, k w H1 (Same.refl H1) rw'⟩⟩
/-- a property: its getter raises nothing -/
def fProp (C : Addr) (F : List D → R D) (fe : DL.Env → R D) : DL.Env → R D := fun ρ => (fe ρ).bind fun o => match o with
  | .ins C' fs vs => if C' = C then (match F [o] with | .ok d => .ok d | _ => .stuck) else .stuck
  | _ => .stuck
structure HasF (P : Program) (w : World) (K : PySem.W.Frag) (mg : Str → Option Value) (base : Heap) (f : Addr) (k : Nat) (sp : Sp) : Prop where
  run : ∃ fd ps, FnOk P w K mg base (L2.CX P w) k f fd ps sp ∧ Binds K fd ps []
theorem HasF.raw {P : Program} {w : World} {K : PySem.W.Frag} {mg : Str → Option Value} {base : Heap} {f : Addr} {k : Nat} {sp : Sp} (h : HasF P w K mg base f k sp) : FnR P w K mg base (L2.CX P w) k f sp := by
  obtain ⟨fd, ps, F, hb⟩ := h.run
  have := F.raw hb .nil
  simpa only [List.append_nil] using this
theorem pd_prop {nm : Str} {pa : Addr} (c : Cls X.K C) (hp : PropOf X.K C nm pa g) (G : HasF X.prog X.w X.K X.mg X.base g k (spD X.K 1 F)) (hr : Room n X.A) (hk : k + 1 ≤ n) (h : PD X W e ea fe) (hb : attributeBase e nm X.env (eval e X.env) = eval e X.env := by rfl) :
    PD X W (.Attribute e nm pos) ea (fProp C F fe) := by
  obtain ⟨fd, ps, F1, hbd⟩ := G.run
  refine PE.imp (pe_prop (E := fun _ _ _ => False) h c hp F1 (hr.mono hk) hbd .nil (passes_call takes_no fun _ _ _ _ z => z.elim) hb) fun σ H Q ⟨B, O, L, ρ, S, P⟩ => ⟨B, O, L, ρ, S, PostG.bind P fun d v H1 e1 r P1 => ?_⟩
  cases d <;> first | exact P1.elim | skip
  rename_i C' fs ds
  have P2 : PostG X.K O W (rV X.K O (dropL ea L)) (if C' = C then (match F [.ins C' fs ds] with | .ok d => R.ok d | _ => .stuck) else .stuck) σ H1 Q := P1
  clear P1
  split at P2
  case isFalse => exact P2.elim
  rename_i hC
  subst hC
  have r : Rep X.K (hide (HS O (dropL ea L)) H1) v (.ins C' fs ds) := r
  obtain ⟨q, dx, us, h1, h2, _, _⟩ := ins_rep r
  refine ⟨q, dx, us, h1, h2, HS O (dropL ea L), [.ins C' fs ds], ((S.ext e1).drop ea).hdom, by rw [← h1]; exact RepL.one r, rfl, ?_⟩
  cases z : F [.ins C' fs ds] with
  | ok d =>
    rw [z] at P2
    exact fun v' H' e2 r2 => P2 v' H' e2 r2
  | exc y => rw [z] at P2; exact P2.elim
  | stuck => rw [z] at P2; exact P2.elim
/-- what a promise gives, in the place where it is called -/
theorem post_call {O : Ob} {L : Lm} {B : Hp} {σ : L2.St} {ρ : DL.Env} {H H1 : Hp} {vs : List V} {l : List D} {Q : VK} {r : R D} (S : SR X.K B O L σ H ρ) (e1 : Same H H1) (rl : RepL X.K (hide (HS O (dropL ea L)) H1) vs l) (hn : l.length = n) (hF : F l = r)
    (P : PostG X.K O W (rV X.K O (dropL ea L)) r σ H1 Q) : spD X.K n F vs H1 Q (WE W σ) := by
  refine ⟨HS O (dropL ea L), l, ((S.ext e1).drop ea).hdom, rl, hn, ?_⟩
  rw [hF]
  cases r with
  | stuck => exact P
  | ok d => exact fun v H' e2 r2 => P v H' e2 r2
  | exc y =>
    refine fun c dd H' e2 r2 => P c dd H' e2 ?_
    obtain ⟨h1, a, us, h2, h3, h4, h5⟩ := r2
    exact ⟨h1, a, us, h2, h3, h4, h5.mono (hide_same hs_0 (Same.refl H'))⟩
/-- o[i], o of an own class -/
def fGetC (C : Addr) (F : List D → R D) (fa fb : DL.Env → R D) : DL.Env → R D := fun ρ => (fa ρ).bind fun o => (fb ρ).bind fun i => match o with
  | .ins C' fs vs => if C' = C then F [o, i] else .stuck
  | _ => .stuck
theorem pd_getC (c : GetC X.K C f) (G : HasF X.prog X.w X.K X.mg X.base f k (spD X.K 2 F)) (tk : Takes X W) (hr : Room n X.A) (hk : k + 1 ≤ n) (ha : PD X W a ea fa) (hb : PD X W b eb fb)
    (hs : ∀ (q : Addr) (i : Value), subscripted b true (.ref q) i = runValue (.builtin "lifetime.subscript" ⟨[.ref q, i], []⟩) := by intro _ _; rfl) : PD X W (.Subscript a b pos) (ea ++ eb) (fGetC C F fa fb) :=
  PE.imp (pe_getC c G.raw (hr.mono hk) (fun σ => passAt tk σ) ha hb hs) fun σ H Q ⟨B, O, L, ρ, S, P⟩ => ⟨B, O, L, ρ, S, PostG.bind P fun d v H1 e1 r1 P1 => ⟨B, O, L, ρ, S.ext e1, PostG.bind P1 fun i y H2 e2 r2 P2 => by
    cases d <;> first | exact P2.elim | skip
    rename_i C' fs ds
    have P3 : PostG X.K O W (rV X.K O (dropL (ea ++ eb) L)) (if C' = C then F [.ins C' fs ds, i] else .stuck) σ H2 Q := P2
    clear P2
    split at P3
    case isFalse => exact P3.elim
    rename_i hC
    subst hC
    have r1 : Rep X.K (hide (HS O (dropL (ea ++ eb) L)) H2) v (.ins C' fs ds) := drop_mono (fun i h => List.mem_append_left _ h) e2 r1
    have r2 : Rep X.K (hide (HS O (dropL (ea ++ eb) L)) H2) y i := drop_mono (fun i h => List.mem_append_right _ h) (Same.refl H2) r2
    obtain ⟨q, dx, us, h1, h2, _, _⟩ := ins_rep r1
    exact ⟨q, dx, us, h1, h2, post_call (ea := ea ++ eb) (S.ext e1) e2 (.cons r1 (.one r2)) rfl rfl P3⟩⟩⟩
/-- C.m(..) of a classmethod -/
def fCM (C : Addr) (F : List D → R D) (fe : DL.Env → R D) (fl : DL.Env → R (List D)) : DL.Env → R D := fun ρ => (fe ρ).bind fun o => match o with
  | .cl C' => if C' = C then (fl ρ).bind fun l => F (.cl C :: l) else .stuck
  | _ => .stuck
theorem pd_cmeth {pl : Sem Bool} (r : ClX.CRead X.K C mc) (c : ClX.CMet X.K C mc m f g) (G : HasF X.prog X.w X.K X.mg X.base g k (spD X.K n F)) (tk : Takes X W) {j : Nat} (hr : Room j X.A) (hk : k ≤ j) (ho : PD X W o ea fe) (ha : PDA X W (e :: es) eb fl) (hn : ∀ ρ l, fl ρ = .ok l → l.length + 1 = n)
    (hst : starEach (e :: es) X.env = (false, eval e X.env) :: starEach es X.env := by rfl) (hpl : (backTo pos (starEach es X.env)).any (·.1) = false := by rfl)
    (ht : eval (.Call (.Attribute o m apos) (e :: es) [] pos) X.env = (eval o X.env >>= fun ov => standAt apos.atName >>= fun _ => holding [ov] (getMethod ov m pl) >>= fun z => callWith pos z.1 z.2 (backTo pos (starEach (e :: es) X.env)) (backToKw pos (keywordEach [] X.env))) := by rfl) :
    PD X W (.Call (.Attribute o m apos) (e :: es) [] pos) (ea ++ eb) (fCM C F fe fl) :=
  PE.imp (pe_cmethAt (pl := pl) ho r c G.raw (hr.mono hk) (fun σ => passAt tk σ) ha hst hpl ht) fun σ H Q ⟨B, O, L, ρ, S, P⟩ => ⟨B, O, L, ρ, S, PostG.bind P fun d v H1 e1 r1 P1 => by
    cases d <;> first | exact P1.elim | skip
    rename_i C'
    have P4 : PostG X.K O W (rV X.K O (dropL (ea ++ eb) L)) (if C' = C then (fl ρ).bind fun l => F (.cl C :: l) else .stuck) σ H1 Q := P1
    clear P1
    split at P4
    case isFalse => exact P4.elim
    rename_i hC
    subst hC
    refine ⟨r1, B, O, L, ρ, S.ext e1, ?_⟩
    cases q : fl ρ with
    | stuck => rw [q] at P4; exact P4
    | exc y => rw [q] at P4; exact P4
    | ok l =>
      rw [q] at P4
      intro vs H2 e2 r2
      have P2 : PostG X.K O W (rV X.K O (dropL (ea ++ eb) L)) (F (.cl C' :: l)) σ H1 Q := P4
      have r2 : RepL X.K (hide (HS O (dropL eb L)) H2) vs l := r2
      exact post_call (ea := ea ++ eb) (S.ext e1) e2 (.cons (show Rep X.K _ (.ref C') (.cl C') from rfl) (r2.mono (hide_same (hs_dropLe fun i h => List.mem_append_right _ h) (Same.refl H2)))) (by rw [List.length_cons]; exact hn ρ l q) rfl (P2.ext e2)⟩
/-! ### a new instance -/
def PostFk (K : PySem.W.Frag) (O : Ob) (W : WX) (L : Lm) (k : Nat) (r : R D) (σ : L2.St) (H : Hp) (Q : V → Hp → Prop) : Prop :=
  match r with
  | .ok d => ∀ v as H', (∀ p ∈ as, H p = none) → as.Nodup → Same H H' → isIns d = true → Own K (hide (fun a => HS O L a ∨ a ∈ as) H') H' k v as d → Q v H'
  | .exc x => ∀ c dd H', Same H H' → RepX K (hide O H') H' c dd x → W c dd σ H'
  | .stuck => False
def tDFk (K : PySem.W.Frag) (W : WX) (k : Nat) (es : List Nat) (fe : DL.Env → R D) : TE := fun σ H Q => ∃ B O L ρ, SR K B O L σ H ρ ∧ PostFk K O W (dropL es L) k (fe ρ) σ H Q
def PDFk (X : Cx) (W : WX) (k : Nat) (e : Expr) (es : List Nat) (fe : DL.Env → R D) : Prop := PE X e (tDFk X.K W k es fe)
theorem PDFk.pd (h : PDFk X W k e ea fa) : PD X W e ea fa := PE.imp h fun σ H Q ⟨B, O, L, ρ, S, P⟩ => ⟨B, O, L, ρ, S, by
  cases q : fa ρ with
  | ok d =>
    rw [q] at P
    intro v as H' hp nd e' hi w
    have dis : ∀ a ∈ as, ¬ HS O (dropL ea L) a := fun a m z => (S.drop ea).hdom a z (hp a m)
    exact P v H' e' (w.rep (hide_same (fun a z => .inl z) (Same.refl H')) fun a m o ho => by rw [hide_no (dis a m)]; exact ho)
  | exc x => rw [q] at P; exact P
  | stuck => rw [q] at P; exact P⟩
def fMake (C : Addr) (F : List D → RM) (dds : List D) (fl : DL.Env → R (List D)) : DL.Env → R D := fun ρ => (fl ρ).bind fun l => match F (.ins C [] [] :: (l ++ dds)) with
  | .ok .non s => .ok s
  | .exc x _ => .exc x
  | _ => .stuck
/-- the promise of __init__, from the arguments -/
theorem make_post {O : Ob} {L : Lm} {B : Hp} {σ : L2.St} {ρ : DL.Env} {H H1 : Hp} {vs : List V} {l : List D} {Q : VK} {x dx : Addr} (S : SR X.K B O L σ H ρ) (e1 : Same H H1) (rl : RepL X.K (hide (HS O (dropL ea L)) H1) vs l) (hn : l.length + 1 = n) (hx : H1 x = none) (hdx : H1 dx = none) (ne : dx ≠ x)
    (P : PostFk X.K O W (dropL ea L) (k + 1) (match FM (.ins C [] [] :: l) with | .ok .non s => .ok s | .exc x _ => .exc x | _ => .stuck) σ H Q) :
    spM X.K (k + 1) n FM (.ref x :: vs) (upd (upd H1 dx (.own x)) x (.ins C dx [])) (fun v H2 => v = .non ∧ Q (.ref x) H2) (WE W σ) := by
  have S1 := (S.ext e1).drop ea
  have sm : Same H1 (upd (upd H1 dx (.own x)) x (.ins C dx [])) := (same_new hdx).trans (same_new (by rw [upd_ne (Ne.symm ne)]; exact hx))
  have nx : ¬ HS O (dropL ea L) x := fun z => S1.hdom x z hx
  have le : RdLe (hide (HS O (dropL ea L)) H1) (hide (OA (HS O (dropL ea L)) [x]) (upd (upd H1 dx (.own x)) x (.ins C dx []))) := RdLe.ofKey fun a u z => by
    obtain ⟨z1, z2⟩ := hide_some z
    rw [hide_no]
    · exact sm a u z2
    · rintro (y | y)
      · exact z1 y
      · rw [List.mem_singleton.mp y, hx] at z2
        cases z2
  refine ⟨HS O (dropL ea L), x, [x], .ins C [] [], vs, l, fun p hp => ⟨fun z => ?_, fun z => nx ?_⟩, (by simp), rfl, rfl, rfl, ⟨x, dx, [], [], rfl, upd_same, rfl, rfl, rfl, rfl⟩, rl.mono le, hn, ?_⟩
  · exact S1.hdom p hp (sm.free z)
  · rw [← List.mem_singleton.mp z]
    exact hp
  · have back : ∀ {as' : List Addr} {H3 : Hp}, Kept [x] (upd (upd H1 dx (.own x)) x (.ins C dx [])) as' H3 → (∀ p ∈ as', H p = none) ∧ Same H H3 := fun {as' H3} kt => by
      refine ⟨fun p hp => ?_, fun a o e => ?_⟩
      · rcases kt.new p hp with z | z
        · rw [List.mem_singleton.mp z]
          exact e1.free hx
        · exact e1.free (sm.free z)
      · have e := e1 a o e
        refine kt.keep a o (fun z => ?_) (sm a o e)
        rw [List.mem_singleton.mp z, hx] at e
        cases e
    cases q : FM (.ins C [] [] :: l) with
    | stuck => rw [q] at P; exact P
    | exc y s =>
      rw [q] at P
      refine fun c dd as' H3 kt hi w rx => P c dd H3 (back kt).2 ?_
      obtain ⟨h1, a, us, h2, h3, h4, h5⟩ := rx
      exact ⟨h1, a, us, h2, h3, h4, h5.mono (hide_same (fun a z => .inl (hs_0 a z)) (Same.refl H3))⟩
    | ok d s =>
      rw [q] at P
      intro v as' H3 kt hi w rv
      cases d <;> first | exact P.elim | skip
      obtain ⟨b1, b2⟩ := back kt
      exact ⟨rv, P (.ref x) as' H3 b1 kt.nd b2 hi w⟩
theorem pdk_make {dvs : List V} {ds : List Value} {dds : List D} {fd : FuncData} {ps : List Str} {j : Nat} (M : Mk X.K C f) (G : FnOk X.prog X.w X.K X.mg X.base (L2.CX X.prog X.w) j f fd ps (spM X.K (k + 1) n FM)) (hb : Binds X.K fd ps ds) (hd : Vals dvs ds) (hdd : ∀ G, RepL X.K G dvs dds) (tk : Takes X W) {i : Nat} (hr : Room i X.A) (hk : j + 1 ≤ i)
    (hg : Gl X x) (hm : X.mg x = some (.ref C)) (ha : PDA X W (e :: es) ea fl) (hn : ∀ ρ l, fl ρ = .ok l → (l ++ dds).length + 1 = n) (hdb : (x == ("__debug__" : Str)) = false := by decide) (he : starEach (e :: es) X.env = (false, eval e X.env) :: starEach es X.env := by rfl) (hpl : (backTo pos (starEach es X.env)).any (·.1) = false := by rfl) :
    PDFk X W (k + 1) (.Call (.Name x p) (e :: es) [] pos) ea (fMake C FM dds fl) :=
  PE.imp (pe_makeAt M (G.raw hb hd) (hr.mono hk) hg hm (fun σ => passAt tk σ) ha hdb he hpl) fun σ H Q ⟨B, O, L, ρ, S, P⟩ => ⟨B, O, L, ρ, S, by
    have P : PostFk X.K O W (dropL ea L) (k + 1) ((fl ρ).bind fun l => match FM (.ins C [] [] :: (l ++ dds)) with | .ok .non s => R.ok s | .exc x _ => .exc x | _ => .stuck) σ H Q := P
    cases q : fl ρ with
    | stuck => rw [q] at P; exact P
    | exc y => rw [q] at P; exact P
    | ok l =>
      rw [q] at P
      exact fun vs H1 e1 r1 y dx h1 h2 ne => make_post S e1 (RepL.append r1 (hdd _)) (hn ρ l q) h1 h2 ne P⟩
/-- .. the class in a slot -/
def fMakeL (i : Nat) (C : Addr) (F : List D → RM) (dds : List D) (fl : DL.Env → R (List D)) : DL.Env → R D := fun ρ => match ρ[i]? with
  | some (some (.cl C')) => if C' = C then fMake C F dds fl ρ else .stuck
  | _ => .stuck
theorem pdk_makeL (s : Nat) {dvs : List V} {ds : List Value} {dds : List D} {fd : FuncData} {ps : List Str} {j : Nat} (M : Mk X.K C f) (G : FnOk X.prog X.w X.K X.mg X.base (L2.CX X.prog X.w) j f fd ps (spM X.K (k + 1) n FM)) (hb : Binds X.K fd ps ds) (hd : Vals dvs ds) (hdd : ∀ G, RepL X.K G dvs dds) (tk : Takes X W) {i : Nat} (hr : Room i X.A) (hk : j + 1 ≤ i)
    (hN : X.N[s]? = some x) (hv : Vis X.env.scope x) (ha : PDA X W (e :: es) ea fl) (hn : ∀ ρ l, fl ρ = .ok l → (l ++ dds).length + 1 = n) (hdb : (x == ("__debug__" : Str)) = false := by decide) (hcd : (x == ("__classdict__" : Str)) = false := by decide) (he : starEach (e :: es) X.env = (false, eval e X.env) :: starEach es X.env := by rfl) (hpl : (backTo pos (starEach es X.env)).any (·.1) = false := by rfl) :
    PDFk X W (k + 1) (.Call (.Name x p) (e :: es) [] pos) ea (fMakeL s C FM dds fl) :=
  PE.imp (pe_makeL (i := s) M (G.raw hb hd) (hr.mono hk) hN hv (fun σ => passAt tk σ) ha hdb hcd he hpl) fun σ H Q ⟨B, O, L, ρ, S, P⟩ => by
    unfold fMakeL at P
    split at P
    case h_2 => exact P.elim
    rename_i C' hC
    split at P
    case isFalse => exact P.elim
    rename_i eC
    subst eC
    obtain ⟨v, h1, h2⟩ := S.read hC
    obtain rfl : v = .ref C' := h2
    refine ⟨h1, B, O, L, ρ, S, ?_⟩
    have P : PostFk X.K O W (dropL ea L) (k + 1) ((fl ρ).bind fun l => match FM (.ins C' [] [] :: (l ++ dds)) with | .ok .non s => R.ok s | .exc x _ => .exc x | _ => .stuck) σ H Q := P
    cases q : fl ρ with
    | stuck => rw [q] at P; exact P
    | exc y => rw [q] at P; exact P
    | ok l =>
      rw [q] at P
      exact fun vs H1 e1 r1 y dx h1 h2 ne => make_post S e1 (RepL.append r1 (hdd _)) (hn ρ l q) h1 h2 ne P
end
section
variable {X : Cx} {W : WX} {ow ow' : Ow} {owl : Ox} {st : Stmt} {es ei : List Nat} {fe fi : DL.Env → R D}
/-- name = C(..), owned -/
theorem pds_asgK {i k : Nat} (h : PS X st (tAsg (tDFk X.K W k es fe) (gName i))) (hk : k < 10 := by decide) (ho : ∀ p ∈ ow', p = (i, k) ∨ (p ∈ ow ∧ p.1 ∉ i :: es) := by decide) (hx : ∀ p ∈ owl.rx, p ∈ ow := by decide) : PDS X W ow ow' owl st (fAsgF i fe) := PS.imp h fun D σ H ⟨B, O, L, ρ, S, w, P⟩ => ⟨B, O, L, ρ, S, by
  have P : PostS X.K B O W ow' owl (if i < ρ.length then stE (fe ρ) ρ fun d => .nx (ρ.set i (some d)) else .stuck) D := P
  split at P
  · rename_i hi
    cases q : fe ρ with
    | ok d =>
      rw [q] at P
      intro v as H' hp nd e hins w2
      refine P _ _ _ ((S.drop es).freshK e hk (by rw [S.len]; exact hi) hins nd hp w2) fun z hz => ?_
      rcases ho z hz with rfl | ⟨h1, h2⟩
      · exact ⟨_, putL_same⟩
      · rw [putL_ne (fun y => h2 (by rw [y]; exact List.mem_cons_self)), dropL_no fun y => h2 (List.mem_cons_of_mem _ y)]
        exact w z h1
    | exc x => rw [q] at P; exact fun c dd H' e r => P c dd σ H' L (S.ext e) (w.sub hx) r
    | stuck => rw [q] at P; exact P
  · exact P.elim⟩
end
end DL
set_option Elab.async false
set_option linter.all false
set_option maxRecDepth 100000
namespace DL
open PySem PySem.Spec PyProof.Rows L2
/-! ### fields stored -/
def putV (f : Str) : List Str → List D → D → List D
  | g :: gs, e :: es, d => if g = f then d :: es else e :: putV f gs es d
  | _, _, d => [d]
def putK (f : Str) : List Str → List Str
  | [] => [f]
  | g :: gs => if g = f then g :: gs else g :: putK f gs
theorem putK_eq {f : Str} {y : V} : ∀ us : List (Str × V), (putF f y us).map (·.1) = putK f (us.map (·.1))
  | [] => rfl
  | (g, x) :: us => by
    show List.map (·.1) (if g = f then (g, y) :: us else (g, x) :: putF f y us) = if g = f then g :: us.map (·.1) else g :: putK f (us.map (·.1))
    by_cases h : g = f
    · rw [if_pos h, if_pos h]; rfl
    · rw [if_neg h, if_neg h, List.map_cons, putK_eq us]
theorem allP_put {P P' : V → List Addr → D → Prop} {f : Str} {y : V} {d : D} {a : List Addr} (hy : P' y a d) : ∀ {us : List (Str × V)} {bs : List Addr} {ds : List D}, AllP P (us.map (·.2)) bs ds → (∀ x b e, (∀ p ∈ b, p ∈ bs) → P x b e → P' x b e) →
    ∃ bs', AllP P' ((putF f y us).map (·.2)) bs' (putV f (us.map (·.1)) ds d) ∧ (∀ p ∈ bs', p ∈ bs ∨ p ∈ a) ∧ (bs.Nodup → a.Nodup → (∀ p ∈ a, p ∉ bs) → bs'.Nodup)
  | [], bs, [], h, _ => by
    obtain ⟨_, e⟩ := h
    subst e
    exact ⟨a, ⟨y, [], a, [], rfl, by simp, hy, rfl, rfl⟩, fun p hp => .inr hp, fun _ n _ => n⟩
  | [], bs, d0 :: ds, h, _ => by
    obtain ⟨x, xs, a1, a2, h1, _⟩ := h
    cases h1
  | (g, x0) :: us, bs, [], h, _ => by
    obtain ⟨h1, _⟩ := h
    cases h1
  | (g, x0) :: us, bs, e0 :: ds, h, imp => by
    obtain ⟨x, xs, a1, a2, h1, h2, h3, h4⟩ := h
    cases h1
    subst h2
    by_cases q : g = f
    · refine ⟨a ++ a2, ?_, fun p hp => ?_, fun n1 n2 n3 => ?_⟩
      · show AllP P' (List.map (·.2) (if g = f then (g, y) :: us else (g, x0) :: putF f y us)) _ (if g = f then d :: ds else e0 :: putV f (us.map (·.1)) ds d)
        rw [if_pos q, if_pos q]
        exact ⟨y, _, a, a2, rfl, rfl, hy, h4.imp fun x b e hb z => imp x b e (fun p hp => List.mem_append_right _ (hb p hp)) z⟩
      · rcases List.mem_append.mp hp with z | z
        · exact .inr z
        · exact .inl (List.mem_append_right _ z)
      · rw [List.nodup_append] at n1 ⊢
        exact ⟨n2, n1.2.1, fun p m1 p2 m2 e => n3 p m1 (List.mem_append_right _ (by rw [e]; exact m2))⟩
    · obtain ⟨b2, k1, k2, k3⟩ := allP_put (f := f) (y := y) (d := d) (a := a) hy h4 (fun x b e hb z => imp x b e (fun p hp => List.mem_append_right _ (hb p hp)) z)
      refine ⟨a1 ++ b2, ?_, fun p hp => ?_, fun n1 n2 n3 => ?_⟩
      · show AllP P' (List.map (·.2) (if g = f then (g, y) :: us else (g, x0) :: putF f y us)) _ (if g = f then d :: ds else e0 :: putV f (us.map (·.1)) ds d)
        rw [if_neg q, if_neg q]
        exact ⟨x0, _, a1, b2, rfl, rfl, imp _ _ _ (fun p hp => List.mem_append_left _ hp) h3, k1⟩
      · rcases List.mem_append.mp hp with z | z
        · exact .inl (List.mem_append_left _ z)
        · rcases k2 p z with y | y
          · exact .inl (List.mem_append_right _ y)
          · exact .inr y
      · rw [List.nodup_append] at n1 ⊢
        refine ⟨n1.1, k3 n1.2.1 n2 fun p m z => n3 p m (List.mem_append_right _ z), fun p m1 p2 m2 e => ?_⟩
        subst e
        rcases k2 p m2 with z | z
        · exact n1.2.2 p m1 p z rfl
        · exact n3 p z (List.mem_append_left _ m1)
/-- one field's data are changed, its object stays -/
theorem allP_upd {P : V → List Addr → D → Prop} {f : Str} {c : D} : ∀ {us : List (Str × V)} {bs : List Addr} {ds : List D}, bs.Nodup → AllP P (us.map (·.2)) bs ds → fldX.look f (us.map (·.1)) ds = some c →
    ∃ x a, us.lookup f = some x ∧ P x a c ∧ (∀ p ∈ a, p ∈ bs) ∧ ∀ (P' : V → List Addr → D → Prop) (c' : D), P' x a c' → (∀ y b e, (∀ p ∈ b, p ∈ bs ∧ p ∉ a) → P y b e → P' y b e) → AllP P' (us.map (·.2)) bs (putV f (us.map (·.1)) ds c')
  | [], bs, ds, _, h, hl => by cases ds <;> cases hl
  | (g, x0) :: us, bs, [], _, h, hl => by cases hl
  | (g, x0) :: us, bs, e0 :: ds, nd, h, hl => by
    obtain ⟨x, xs, a1, a2, h1, h2, h3, h4⟩ := h
    cases h1
    subst h2
    rw [List.nodup_append] at nd
    have hl : (if g = f then some e0 else fldX.look f (us.map (·.1)) ds) = some c := hl
    rw [lookup_put]
    by_cases q : g = f
    · rw [if_pos q] at hl
      cases hl
      rw [if_pos q.symm]
      refine ⟨x0, a1, rfl, h3, fun p hp => List.mem_append_left _ hp, fun P' c' k1 k2 => ?_⟩
      show AllP P' _ _ (if g = f then c' :: ds else _)
      rw [if_pos q]
      exact ⟨x0, _, a1, a2, rfl, rfl, k1, h4.imp fun y b e hb z => k2 y b e (fun p hp => ⟨List.mem_append_right _ (hb p hp), fun m => nd.2.2 p m p (hb p hp) rfl⟩) z⟩
    · rw [if_neg q] at hl
      rw [if_neg fun z => q z.symm]
      obtain ⟨x, a, l1, l2, l3, l4⟩ := allP_upd nd.2.1 h4 hl
      refine ⟨x, a, l1, l2, fun p hp => List.mem_append_right _ (l3 p hp), fun P' c' k1 k2 => ?_⟩
      show AllP P' _ _ (if g = f then _ else e0 :: putV f (us.map (·.1)) ds c')
      rw [if_neg q]
      exact ⟨x0, _, a1, a2, rfl, rfl, k2 _ _ _ (fun p hp => ⟨List.mem_append_left _ hp, fun m => nd.2.2 p hp p (l3 p m) rfl⟩) h3, l4 P' c' k1 fun y b e hb z => k2 y b e (fun p hp => ⟨List.mem_append_right _ (hb p hp).1, (hb p hp).2⟩) z⟩
def insOf (C : Addr) (d : D) (k : List Str → List D → Out) : Out :=
  match d with
  | .ins C' fs vs => if C' = C then k fs vs else .stuck
  | _ => .stuck
section
variable {X : Cx} {W : WX} {ow ow' : Ow} {owl : Ox} {st : Stmt} {es ei : List Nat} {fe fi : DL.Env → R D} {C : Addr} {nm : Str}
/-- self.nm = a new list or dict -/
def fFldF (i : Nat) (C : Addr) (nm : Str) (fe : DL.Env → R D) : DL.Env → Out := fun ρ => stE (fe ρ) ρ fun d => match ρ[i]? with
  | some (some c) => insOf C c fun fs vs => if fs.length < 1000 then .nx (ρ.set i (some (.ins C (putK nm fs) (putV nm fs vs d)))) else .stuck
  | _ => .stuck
theorem pds_fldF {i k : Nat} (h : PS X st (sFld X.K (tVar i) (tDF X.K W es fe) nm)) (c : Cls X.K C) (n : NoAttr X.K C nm) (hk : dep k = 2 := by rfl) (hi : (i, k) ∈ ow := by decide) (hn : i ∉ es := by decide) (ho : ∀ p ∈ ow', p ∈ ow ∧ p.1 ∉ es := by decide) (hx : ∀ p ∈ owl.rx, p ∈ ow := by decide) :
    PDS X W ow ow' owl st (fFldF i C nm fe) := PS.imp h fun D σ H ⟨B, O, L, ρ, S, w, P⟩ => ⟨B, O, L, ρ, S, by
  have P : PostS X.K B O W ow' owl (stE (fe ρ) ρ fun d => match ρ[i]? with
    | some (some c) => insOf C c fun fs vs => if fs.length < 1000 then .nx (ρ.set i (some (.ins C (putK nm fs) (putV nm fs vs d)))) else .stuck
    | _ => .stuck) D := P
  cases q : fe ρ with
  | stuck => rw [q] at P; exact P
  | exc x => rw [q] at P; exact fun c dd H' e r => P c dd σ H' L (S.ext e) (w.sub hx) r
  | ok d =>
    rw [q, stE_ok] at P
    intro p o H' hp e hpo t
    obtain ⟨as, hL⟩ := w (i, k) hi
    have S1 := S.drop es
    have hL1 : dropL es L i = some (k, as) := by rw [dropL_no hn]; exact hL
    obtain ⟨v, c0, hs, hd, hw⟩ := S1.owns i k as hL1
    rw [hd] at P
    rw [hk] at hw
    cases c0 <;> first | exact P.elim | skip
    rename_i C' fs vs
    have P2 : PostS X.K B O W ow' owl (if C' = C then (if fs.length < 1000 then .nx (ρ.set i (some (.ins C (putK nm fs) (putV nm fs vs d)))) else .stuck) else .stuck) D := P
    clear P
    split at P2
    case isFalse => exact P2.elim
    rename_i hC
    subst hC
    split at P2
    case isFalse => exact P2.elim
    rename_i hz
    obtain ⟨p0, dx, us, bs, rfl, h2, h3, h4, h5⟩ := hw
    subst h4
    have nd := (S1.nodup i k _ hL1).1
    rw [List.nodup_cons] at nd
    have hne : p ≠ p0 := fun z => by rw [z, h2] at hp; cases hp
    have hpb : ∀ b ∈ bs, b ≠ p := fun b hb z => S1.hdom b (.inr ⟨i, k, _, hL1, List.mem_cons_of_mem _ hb⟩) (by rw [z]; exact hp)
    refine ⟨.ref p0, hs, p0, C', dx, us, rfl, e p0 _ h2, c, n, by rw [← h3, List.length_map] at hz; exact hz, ?_⟩
    obtain ⟨bs', b1, b2, b3⟩ := allP_put (P := Own X.K (hide (HS O (dropL es L)) H) H 1) (P' := fun v as d => Own X.K (hide (HS O (dropL es L)) H) H 1 v as d ∨ (v = .ref p ∧ as = [p] ∧ Top X.K (hide (fun a => HS O (dropL es L) a ∨ a = p) H') o d)) (f := nm) (y := .ref p) (d := d) (a := [p]) (.inr ⟨rfl, rfl, t⟩) h5 fun x b e _ z => .inl z
    have kt : Kept (p0 :: bs) H (p0 :: bs') (upd H' p0 (.ins C' dx (putF nm (.ref p) us))) := by
      refine ⟨fun a u na ea => ?_, ?_, fun a ha => ?_, rfl⟩
      · rw [upd_ne fun z => na (by rw [z]; exact List.mem_cons_self)]
        exact e a u ea
      · rw [List.nodup_cons]
        refine ⟨fun m => ?_, b3 nd.2 (by simp) fun a ha m => hpb a m (List.mem_singleton.mp ha)⟩
        rcases b2 p0 m with z | z
        · exact nd.1 z
        · exact hne (List.mem_singleton.mp z).symm
      · rcases List.mem_cons.mp ha with z | z
        · exact .inl (by rw [z]; exact List.mem_cons_self)
        · rcases b2 a z with y | y
          · exact .inl (List.mem_cons_of_mem _ y)
          · exact .inr (by rw [List.mem_singleton.mp y]; exact hp)
    have le := S1.keptLe hL1 kt
    have le2 : RdLe (hide (fun a => HS O (dropL es L) a ∨ a = p) H') (hide (HS O (putL i (some (k, p0 :: bs')) (dropL es L))) (upd H' p0 (.ins C' dx (putF nm (.ref p) us)))) := RdLe.ofKey fun a u z => by
      obtain ⟨z1, z2⟩ := hide_some z
      have a0 : a ≠ p0 := fun y => z1 (.inl (.inr ⟨i, k, _, hL1, by rw [y]; exact List.mem_cons_self⟩))
      rw [hide_no, upd_ne a0]
      · exact z2
      · rintro (y | ⟨j, k2, cs, y, m⟩)
        · exact z1 (.inl (.inl y))
        · by_cases qj : j = i
          · subst qj
            rw [putL_same] at y
            cases y
            rcases List.mem_cons.mp m with m | m
            · exact a0 m
            · rcases b2 a m with y | y
              · exact z1 (.inl (.inr ⟨j, k, _, hL1, List.mem_cons_of_mem _ y⟩))
              · exact z1 (.inr (List.mem_singleton.mp y))
          · rw [putL_ne qj] at y
            exact z1 (.inl (.inr ⟨j, k2, cs, y, m⟩))
    refine P2 σ _ _ (S1.replace hL1 hs kt rfl ?_) fun z hz2 => ?_
    · rw [hk]
      refine ⟨p0, dx, _, bs', rfl, upd_same, by rw [putK_eq, h3], rfl, ?_⟩
      rw [← h3]
      refine b1.imp fun x b y hb z => ?_
      rcases z with z | ⟨rfl, rfl, t2⟩
      · refine z.mono le fun a ha => ?_
        have hab : a ∈ bs := by
          rcases b2 a (hb a ha) with y | y
          · exact y
          · exact absurd (z.dom a ha) (by rw [List.mem_singleton.mp y]; exact fun n => n hp)
        rw [upd_ne fun z2 => nd.1 (by rw [← z2]; exact hab)]
        cases qa : H a with
        | none => exact absurd qa (z.dom a ha)
        | some u => exact e a u qa
      · exact own_top (by rw [upd_ne hne]; exact hpo) (t2.mono le2)
    · obtain ⟨z1, z2⟩ := ho z hz2
      obtain ⟨as2, hz3⟩ := w z z1
      by_cases qz : z.1 = i
      · rw [qz, putL_same]
        rw [qz, hL] at hz3
        cases hz3
        exact ⟨_, rfl⟩
      · rw [putL_ne qz, dropL_no z2]
        exact ⟨_, hz3⟩⟩
end
end DL
set_option Elab.async false
set_option linter.all false
set_option maxRecDepth 100000
namespace DL
open PySem PySem.Spec PyProof.Rows L2
theorem ow_put {ow ow' : Ow} {L : Lm} {i k : Nat} {as as' : List Addr} {es : List Nat} (w : OwOk ow L) (hL : L i = some (k, as)) (ho : ∀ p ∈ ow', p ∈ ow ∧ p.1 ∉ es) : OwOk ow' (putL i (some (k, as')) (dropL es L)) := fun z hz => by
  obtain ⟨z1, z2⟩ := ho z hz
  obtain ⟨as2, hz3⟩ := w z z1
  by_cases qz : z.1 = i
  · rw [qz, putL_same]
    rw [qz, hL] at hz3
    cases hz3
    exact ⟨_, rfl⟩
  · rw [putL_ne qz, dropL_no z2]
    exact ⟨_, hz3⟩
theorem putL_self {i : Nat} {L : Lm} {x : Nat × List Addr} (h : L i = some x) : putL i (some x) L = L := by
  funext j
  by_cases q : j = i
  · rw [q, putL_same, h]
  · exact putL_ne q
section
variable {X : Cx} {W : WX} {ow ow' : Ow} {owl : Ox} {st : Stmt} {es ei : List Nat} {fe fi : DL.Env → R D} {C : Addr} {nm : Str}
/-- self.nm[index] = value -/
def fFput (i : Nat) (C : Addr) (nm : Str) (fe fi : DL.Env → R D) : DL.Env → Out := fun ρ => stE (fe ρ) ρ fun d => match ρ[i]? with
  | some (some c) => insOf C c fun fs vs => match fldX.look nm fs vs with
    | some l => if isTop l = true then stE (fi ρ) ρ fun a => (match putD l a d with | some l' => .nx (ρ.set i (some (.ins C fs (putV nm fs vs l')))) | none => .stuck) else .stuck
    | none => .stuck
  | _ => .stuck
theorem pds_fput {i k : Nat} (h : PS X st (tAsg (tD X.K W es fe) (gSub (tFld X.K (tVar i) nm) (tD X.K W ei fi) rSetA))) (c : Cls X.K C) (n : NoAttr X.K C nm) (hk : dep k = 2 := by rfl) (hi : (i, k) ∈ ow := by decide) (hn : i ∉ es ++ ei := by decide) (ho : ∀ p ∈ ow', p ∈ ow ∧ p.1 ∉ es ++ ei := by decide) (hx : ∀ p ∈ owl.rx, p ∈ ow := by decide) :
    PDS X W ow ow' owl st (fFput i C nm fe fi) := PS.imp h fun D σ H ⟨B, O, L, ρ, S, w, P⟩ => ⟨B, O, L, ρ, S, PostS.bind P S (w.sub hx) fun d y H1 e1 r1 P1 => by
  obtain ⟨as, hL⟩ := w (i, k) hi
  obtain ⟨v, c0, hs, hd, hw0⟩ := S.owns i k as hL
  rw [hd] at P1
  cases c0 <;> first | exact P1.elim | skip
  rename_i C' fs vs
  have P2 : PostS X.K B O W ow' owl (if C' = C then (match fldX.look nm fs vs with
    | some l => if isTop l = true then stE (fi ρ) ρ fun a => (match putD l a d with | some l' => .nx (ρ.set i (some (.ins C fs (putV nm fs vs l')))) | none => .stuck) else .stuck
    | none => .stuck) else .stuck) D := P1
  clear P1
  split at P2
  case isFalse => exact P2.elim
  rename_i hC
  subst hC
  cases hl : fldX.look nm fs vs with
  | none => rw [hl] at P2; exact P2.elim
  | some l =>
  rw [hl] at P2
  have P3 : PostS X.K B O W ow' owl (if isTop l = true then stE (fi ρ) ρ fun a => (match putD l a d with | some l' => .nx (ρ.set i (some (.ins C' fs (putV nm fs vs l')))) | none => .stuck) else .stuck) D := P2
  clear P2
  split at P3
  case isFalse => exact P3.elim
  rename_i ht
  have view : ∀ {H : Hp} (S : SR X.K B O (dropL (es ++ ei) L) σ H ρ), ∃ p0 dx us bs q o, v = .ref p0 ∧ H p0 = some (.ins C' dx us) ∧ us.map (·.1) = fs ∧ as = p0 :: bs ∧ us.lookup nm = some (.ref q) ∧ q ∈ bs ∧ q ≠ p0 ∧ H q = some o ∧ Top X.K (hide (HS O (dropL (es ++ ei) L)) H) o l ∧
      ∀ (P' : V → List Addr → DL.D → Prop) (c' : DL.D), P' (.ref q) [q] c' → (∀ y b e, (∀ p ∈ b, p ∈ bs ∧ p ≠ q) → Own X.K (hide (HS O (dropL (es ++ ei) L)) H) H 1 y b e → P' y b e) → AllP P' (us.map (·.2)) bs (putV nm fs vs c') := fun {H} S => by
    have hL1 : dropL (es ++ ei) L i = some (k, as) := by rw [dropL_no hn]; exact hL
    obtain ⟨v', c', hs', hd', hw⟩ := S.owns i k as hL1
    rw [hs] at hs'
    cases hs'
    rw [hd] at hd'
    cases hd'
    rw [hk] at hw
    obtain ⟨p0, dx, us, bs, rfl, h2, h3, h4, h5⟩ := hw
    have nd := (S.nodup i k as hL1).1
    rw [h4, List.nodup_cons] at nd
    rw [← h3] at hl
    obtain ⟨x, a, l1, l2, l3, l4⟩ := allP_upd nd.2 h5 hl
    obtain ⟨q, o, rfl, rfl, hq, t⟩ := top_own l2 ht
    have qb := l3 q List.mem_cons_self
    refine ⟨p0, dx, us, bs, q, o, rfl, h2, h3, h4, l1, qb, fun z => nd.1 (by rw [← z]; exact qb), hq, t, fun P' c' k1 k2 => ?_⟩
    rw [← h3]
    exact l4 P' c' k1 fun y b e hb z => k2 y b e (fun p hp => ⟨(hb p hp).1, fun z2 => (hb p hp).2 (by rw [z2]; exact List.mem_cons_self)⟩) z
  obtain ⟨p0, dx, us, bs, q, o, ev, h2, h3, h4, h5, _, _, _, _, _⟩ := view ((S.ext e1).drop _)
  subst ev
  refine ⟨.ref p0, hs, p0, C', dx, us, .ref q, rfl, h2, c, n, h5, B, O, L, ρ, S.ext e1, PostS.bind P3 (S.ext e1) (w.sub hx) fun a x H2 e2 r2 P4 => ?_⟩
  cases hp : putD l a d with
  | none => rw [hp] at P4; exact P4.elim
  | some l' =>
  rw [hp] at P4
  have S2 := ((S.ext e1).ext e2).drop (es ++ ei)
  have hL2 : dropL (es ++ ei) L i = some (k, as) := by rw [dropL_no hn]; exact hL
  obtain ⟨p1, dx1, us1, bs1, q1, o1, ev, g2, g3, g4, g5, g6, g7, g8, g9, g10⟩ := view S2
  cases ev
  have eq1 : q1 = q := by
    have z := e2 p0 _ h2
    rw [g2] at z
    cases z
    rw [h5] at g5
    cases g5
    rfl
  subst eq1
  refine put_top g8 g9 (drop_mono (fun i h => List.mem_append_right _ h) (Same.refl H2) r2) (drop_mono (fun i h => List.mem_append_left _ h) e2 r1) hp fun o2 t2 => ?_
  have hqas : q1 ∈ as := by rw [g4]; exact List.mem_cons_of_mem _ g6
  have kt : Kept as H2 as (upd H2 q1 o2) := ⟨fun a' u na ea => by rw [upd_ne fun z => na (by rw [z]; exact hqas)]; exact ea, (S2.nodup i k as hL2).1, fun p hp => .inl hp, rfl⟩
  have le := S2.keptLe hL2 kt
  refine P4 σ _ _ (S2.replace hL2 hs kt rfl ?_) (ow_put w hL ho)
  rw [hk]
  refine ⟨p0, dx1, us1, bs1, rfl, by rw [upd_ne fun z => g7 z.symm]; exact g2, g3, g4, g10 _ _ (own_top upd_same (t2.mono le)) fun y b e hb z => z.mono le fun a' ha => upd_ne (hb a' ha).2⟩⟩
/-- o[index] = value, o an owned object of an own class -/
def fSetO (i : Nat) (C : Addr) (F : List D → RM) (fe fi : DL.Env → R D) : DL.Env → Out := fun ρ => stE (fe ρ) ρ fun d => match ρ[i]? with
  | some (some c) => insOf C c fun _ _ => stE (fi ρ) ρ fun a => (match F [c, a, d] with
    | .ok _ s => .nx (ρ.set i (some s))
    | .exc x s => .exc x (ρ.set i (some s))
    | .stuck => .stuck)
  | _ => .stuck
/-- what a changing promise gives, where it is called -/
theorem postM_call {i k m n : Nat} {O : Ob} {L : Lm} {B : Hp} {σ : L2.St} {ρ : DL.Env} {H : Hp} {vs : List V} {l : List DL.D} {De : Ends} {as : List Addr} {p0 : Addr} {c : DL.D} {F : List DL.D → RM} {fs : List Str} {cv : List DL.D} (S : SR X.K B O L σ H ρ) (w : OwOk ow L) (hL : L i = some (k, as)) (hi : i ∉ es)
    (hs : σ[i]? = some (some (.ref p0))) (hd : ρ[i]? = some (some c)) (hk : dep k = m + 1) (hc : c = .ins C fs cv) (r : RepL X.K (hide (HS O (dropL es L)) H) vs l) (hn : l.length + 1 = n) (ho : ∀ p ∈ ow', p ∈ ow ∧ p.1 ∉ es) (hx : ∀ p ∈ owl.rx, p ∈ ow ∧ p.1 ∉ es) {Q : VK}
    (P : PostS X.K B O W ow' owl (match F (c :: l) with | .ok _ s => .nx (ρ.set i (some s)) | .exc x s => .exc x (ρ.set i (some s)) | .stuck => .stuck) De) (hQ : ∀ v H', De.nx σ H' → Q v H') : spM X.K (m + 1) n F (.ref p0 :: vs) H Q (WE W σ) := by
  have S1 := S.drop es
  have hL1 : dropL es L i = some (k, as) := by rw [dropL_no hi]; exact hL
  obtain ⟨v, c', hs', hd', hw⟩ := S1.owns i k as hL1
  rw [hs] at hs'
  cases hs'
  rw [hd] at hd'
  cases hd'
  rw [hk] at hw
  have hins : isIns c = true := by rw [hc]; rfl
  obtain ⟨p1, ep, hh⟩ := own_ref hw hins
  cases ep
  have sub : ∀ a, OA (fun a => HS O (dropL es L) a ∧ a ∉ as) as a → HS O (dropL es L) a := fun a z => z.elim (fun y => y.1) fun y => .inr ⟨i, k, as, hL1, y⟩
  have le := hide_same sub (Same.refl H)
  refine ⟨fun a => HS O (dropL es L) a ∧ a ∉ as, p0, as, c, vs, l, fun p hp => ⟨S1.hdom p hp.1, hp.2⟩, (S1.nodup i k as hL1).1, rfl, hh, hins, hw.mono le fun _ _ => rfl, r.mono le, hn, ?_⟩
  have sub2 : ∀ (as' : List Addr) (a : Addr), HS O (putL i (some (k, as')) (dropL es L)) a → OA (fun a => HS O (dropL es L) a ∧ a ∉ as) as' a := fun as' a z => by
    rcases z with z | ⟨j, k2, bs, z, m⟩
    · refine .inl ⟨.inl z, fun y => ?_⟩
      exact S1.dom a z ((S1.nodup i k as hL1).2 a y)
    · by_cases q : j = i
      · subst q
        rw [putL_same] at z
        cases z
        exact .inr m
      · rw [putL_ne q] at z
        exact .inl ⟨.inr ⟨j, k2, bs, z, m⟩, S1.sep j i k2 bs k as q z hL1 a m⟩
  cases q : F (c :: l) with
  | stuck => rw [q] at P; exact P
  | ok d s =>
    rw [q] at P
    intro v as' H' kt hi' w' _
    refine hQ v H' (P σ H' _ (S1.replace hL1 hs kt hi' ?_) (ow_put w hL ho))
    rw [hk]
    exact w'.mono (hide_same (sub2 as') (Same.refl H')) fun _ _ => rfl
  | exc x s =>
    rw [q] at P
    intro cc dd as' H' kt hi' w' rx
    refine P cc dd σ H' _ (S1.replace hL1 hs kt hi' ?_) (ow_put w hL hx) ?_
    · rw [hk]
      exact w'.mono (hide_same (sub2 as') (Same.refl H')) fun _ _ => rfl
    · obtain ⟨h1, a, us', h2, h3, h4, h5⟩ := rx
      exact ⟨h1, a, us', h2, h3, h4, h5.mono (hide_same (fun a z => sub2 as' a (.inl z)) (Same.refl H'))⟩
theorem pds_setO {i k m : Nat} {F : List D → RM} (h : PS X st (tAsg (tD X.K W es fe) (gSetC C (spM X.K (m + 1) 3 F) (WE W) (tVar i) (tD X.K W ei fi)))) (hk : dep k = m + 1 := by rfl) (hi : (i, k) ∈ ow := by decide) (hn : i ∉ es ++ ei := by decide) (ho : ∀ p ∈ ow', p ∈ ow ∧ p.1 ∉ es ++ ei := by decide) (hx : ∀ p ∈ owl.rx, p ∈ ow ∧ p.1 ∉ es ++ ei := by decide) :
    PDS X W ow ow' owl st (fSetO i C F fe fi) := PS.imp h fun D σ H ⟨B, O, L, ρ, S, w, P⟩ => ⟨B, O, L, ρ, S, PostS.bind P S (w.sub fun p hp => (hx p hp).1) fun d y H1 e1 r1 P1 => by
  obtain ⟨as, hL⟩ := w (i, k) hi
  obtain ⟨v, c0, hs, hd, hw⟩ := S.owns i k as hL
  rw [hd] at P1
  cases c0 <;> first | exact P1.elim | skip
  rename_i C' fs vs
  have P2 : PostS X.K B O W ow' owl (if C' = C then stE (fi ρ) ρ fun a => (match F [.ins C' fs vs, a, d] with
    | .ok _ s => .nx (ρ.set i (some s))
    | .exc x s => .exc x (ρ.set i (some s))
    | .stuck => .stuck) else .stuck) D := P1
  clear P1
  split at P2
  case isFalse => exact P2.elim
  rename_i hC
  subst hC
  rw [show dep (i, k).2 = m + 1 from hk] at hw
  obtain ⟨p0, dx, us, bs, rfl, h2, h3, h4, h5⟩ := hw
  refine ⟨.ref p0, hs, B, O, L, ρ, S.ext e1, PostS.bind P2 (S.ext e1) (w.sub fun p hp => (hx p hp).1) fun a x H2 e2 r2 P3 => ⟨p0, dx, us, rfl, e2 _ _ (e1 _ _ h2), ?_⟩⟩
  exact postM_call (l := [a, d]) ((S.ext e1).ext e2) w hL hn hs hd hk rfl (.cons (drop_mono (fun i h => List.mem_append_right _ h) (Same.refl H2) r2) (.one (drop_mono (fun i h => List.mem_append_left _ h) e2 r1))) rfl ho hx P3 fun v H' z => z⟩
end
/-! ### a list's count -/
def numsOf : List D → Option (List Int)
  | [] => some []
  | .int i :: ds => (numsOf ds).map fun l => i :: l
  | _ :: _ => none
theorem numsOf_rep {K : PySem.W.Frag} {G : Hp} : ∀ {vs : List V} {ds : List D} {ns : List Int}, RepL K G vs ds → numsOf ds = some ns → vs = ns.map V.int
  | _, [], _, h, e => by
    cases e
    exact h
  | _, d :: ds, ns, ⟨x, xs, h1, h2, h3⟩, e => by
    cases d <;> first | (cases e; done) | skip
    rename_i i
    have e : (numsOf ds).map (fun l => i :: l) = some ns := e
    cases q : numsOf ds with
    | none => rw [q] at e; cases e
    | some l =>
      rw [q] at e
      cases e
      obtain rfl : x = .int i := h2
      rw [h1, numsOf_rep h3 q]
      rfl
def gCount : D → D → Option D
  | .lst ds, .int k => (numsOf ds).map fun ns => .int (ns.count k : Nat)
  | _, _ => none
def fCount (fa fb : DL.Env → R D) : DL.Env → R D := fun ρ => (fa ρ).bind fun a => match a with
  | .lst ds => (fb ρ).bind fun b => R.ofO (gCount (.lst ds) b)
  | _ => .stuck
section
variable {X : Cx} {W : WX} {o e : Expr} {ea eb : List Nat} {fa fb : DL.Env → R D} {apos cpos : Pos}
theorem pd_count (ho : PD X W o ea fa) (he : PD X W e eb fb) (hbase : attributeBase o "count" X.env (eval o X.env) = eval o X.env := by rfl)
    (hfew : ((backTo cpos (starEach [e] X.env)).all (fun x => !x.1) && (backToKw cpos (keywordEach [] X.env)).all (fun x => x.1.isSome) && decide (([e] : List Expr).length + ([] : List Keyword).length + (if ([] : List Keyword).isEmpty then 0 else 1) < 30)) = true := by rfl)
    (hline : (apos.endLine == cpos.line) = true := by rfl) (hs : starEach [e] X.env = (false, eval e X.env) :: starEach [] X.env := by rfl) (hplain : (backTo cpos (starEach [] X.env)).any (·.1) = false := by rfl) :
    PD X W (.Call (.Attribute o "count" apos) [e] [] cpos) (ea ++ eb) (fCount fa fb) :=
  PE.imp (pe_bm PySem.F.plainAttrs_list PySem.F.slot_list_count PySem.F.type_list_count mt_lcount ho (pa_cons he pa_nil hs) hbase hfew hline hs hplain) fun σ H Q ⟨B, O, L, ρ, S, P⟩ => ⟨B, O, L, ρ, S, PostG.bind P fun a x H1 e1 r1 P1 => by
    have r1 : Rep X.K (hide (HS O (dropL ea L)) H1) x a := r1
    by_cases hl : ∃ ds, a = .lst ds
    · obtain ⟨ds, rfl⟩ := hl
      obtain ⟨p, vs, rfl, h1, h2⟩ := r1
      refine ⟨.inl ⟨rfl, vs, .inl (hide_rd h1)⟩, B, O, L, ρ, S.ext e1, PostG.bind P1 fun b y H2 e2 r2 P2 => ?_⟩
      obtain ⟨d, hd, P3⟩ := P2.ofO
      cases b <;> first | (cases hd; done) | skip
      rename_i k
      have hd : (numsOf ds).map (fun ns => D.int (ns.count k : Nat)) = some d := hd
      cases q : numsOf ds with
      | none => rw [q] at hd; cases hd
      | some ns =>
        rw [q] at hd
        cases hd
        obtain rfl : y = .int k := r2
        have ev := numsOf_rep h2 q
        subst ev
        have le2 : Rd H2 p (.lst (ns.map V.int)) := (RdLe.of e2).rd _ _ (hide_rd h1)
        exact ⟨p, ns, k, rfl, rfl, .inl le2, P3 _ H2 (Same.refl H2) rfl⟩
    · cases a <;> first | exact P1.elim | exact absurd ⟨_, rfl⟩ hl⟩
end
end DL
set_option Elab.async false
set_option linter.all false
set_option maxRecDepth 100000
namespace DL
open PySem PySem.Spec PyProof.Rows L2
/-- .. with defaults -/
theorem okMD {P : Program} {w : World} {K : PySem.W.Frag} {mg : Str → Option Value} {base : Heap} {x qual : Str} {st : Stmt} {dvs : List V} {f : Addr} {fd : FuncData} {N ps : List Str} {k m : Nat} (F : List D → RM) (Fn : FunD K x qual (defArgs st) (defBody st) (defScope st) dvs [] f fd) (S : FnScope N ps (defScope st))
    (body : ∀ (cdv : Value) (A : Around) (outer : List PySem.Env) (s : Shared) (H : Hp) (E : XK), Room k (A.deeper (envOfC qual (defScope st) s.heap.objs.size f cdv)) →
      ∃ fs, PDB (cxOf (L2.CX P w) P w K mg base N qual (defScope st) f cdv A outer s H E) (fun c d _ H => E c d H) [(0, 10 + (m + 1))] [(0, 10 + (m + 1))] ⟨[], [(0, 10 + (m + 1))]⟩ (defBody st) fs ∧ ∀ ds, ds.length = ps.length → F ds = .stuck ∨ runM N.length ps.length fs ds = F ds) :
    FnOk P w K mg base (L2.CX P w) (k + 1) f fd ps (spM K (m + 1) ps.length F) := Fn.ok S (fun vs H Q E h => spM_len h) (bodyM F body)
/-- what a class must have so that C(..) makes an instance; dds: the defaults that fill up -/
def HasMk (P : Program) (w : World) (K : PySem.W.Frag) (mg : Str → Option Value) (base : Heap) (x : Str) (C : Addr) (j n : Nat) (FM : List D → RM) (dds : List D) : Prop :=
  ∃ f fd ps ds dvs, mg x = some (.ref C) ∧ Mk K C f ∧ FnOk P w K mg base (L2.CX P w) j f fd ps (spM K 2 n FM) ∧ Binds K fd ps ds ∧ Vals dvs ds ∧ ∀ G, RepL K G dvs dds
section
variable {X : Cx} {W : WX} {n : Nat} {C : Addr} {FM : List D → RM} {x : Str} {p pos : Pos} {e : Expr} {es : List Expr} {ea : List Nat} {fl : DL.Env → R (List D)} {dds : List D} {j i : Nat}
theorem len1 {fl : DL.Env → R (List D)} {m : Nat} (h : ∀ ρ l, fl ρ = .ok l → l.length = m) : ∀ ρ l, fl ρ = .ok l → l.length + 1 = m + 1 := fun ρ l q => congrArg (· + 1) (h ρ l q)
theorem len2 {fl : DL.Env → R (List D)} {m : Nat} {dds : List D} (h : ∀ ρ l, fl ρ = .ok l → l.length = m) : ∀ ρ l, fl ρ = .ok l → (l ++ dds).length + 1 = m + dds.length + 1 := fun ρ l q => by rw [List.length_append, h ρ l q]
theorem pdk_mk (M : HasMk X.prog X.w X.K X.mg X.base x C j n FM dds) (tk : Takes X W) (hr : Room i X.A) (hk : j + 1 ≤ i) (hg : Gl X x) (ha : PDA X W (e :: es) ea fl) (hn : ∀ ρ l, fl ρ = .ok l → (l ++ dds).length + 1 = n) (hdb : (x == ("__debug__" : Str)) = false := by decide)
    (he : starEach (e :: es) X.env = (false, eval e X.env) :: starEach es X.env := by rfl) (hpl : (backTo pos (starEach es X.env)).any (·.1) = false := by rfl) : PDFk X W 2 (.Call (.Name x p) (e :: es) [] pos) ea (fMake C FM dds fl) := by
  obtain ⟨f, fd, ps, ds, dvs, hm, M, G, hb, hd, hdd⟩ := M
  exact pdk_make (k := 1) M G hb hd hdd tk hr hk hg hm ha hn hdb he hpl
theorem pdk_mkL (s : Nat) {y : Str} (M : HasMk X.prog X.w X.K X.mg X.base y C j n FM dds) (tk : Takes X W) (hr : Room i X.A) (hk : j + 1 ≤ i) (hN : X.N[s]? = some x) (hv : Vis X.env.scope x) (ha : PDA X W (e :: es) ea fl) (hn : ∀ ρ l, fl ρ = .ok l → (l ++ dds).length + 1 = n) (hdb : (x == ("__debug__" : Str)) = false := by decide) (hcd : (x == ("__classdict__" : Str)) = false := by decide)
    (he : starEach (e :: es) X.env = (false, eval e X.env) :: starEach es X.env := by rfl) (hpl : (backTo pos (starEach es X.env)).any (·.1) = false := by rfl) : PDFk X W 2 (.Call (.Name x p) (e :: es) [] pos) ea (fMakeL s C FM dds fl) := by
  obtain ⟨f, fd, ps, ds, dvs, hm, M, G, hb, hd, hdd⟩ := M
  exact pdk_makeL (k := 1) s M G hb hd hdd tk hr hk hN hv ha hn hdb hcd he hpl
end
end DL
set_option Elab.async false
set_option linter.all false
set_option maxRecDepth 100000
set_option maxHeartbeats 1000000
namespace GE
open PySem PySem.Spec PyProof.Rows GenW L2

section
variable {X : Cx}
/-! ### if -/
def tGIf (c : TT) (ta tb : TGn) : TGn := fun D ys σ H => c σ H fun b H1 => if b = true then ta D ys σ H1 else tb D ys σ H1
theorem gs_if {c : Expr} {a b : List Stmt} {pos : Pos} {tc : TT} {ta tb : TGn} (hc : PT X c tc) (ha : GSs X a ta) (hb : GSs X b tb) : GS X (.If c a b pos) (tGIf tc ta tb) := by
  refine ⟨fun A S ip R n ys s₀ cd fs K J gd lv s σ H D g hn k hI ht => ?_⟩
  obtain ⟨acc, cc, r, I⟩ := hI
  rw [exec_If]
  refine seg_at ?_
  show Seg _ _ _ _ n s₀ cd ((isTrue c X.env (eval c X.env) >>= fun x => if x = true then execs a X.env else execs b X.env).wrap K J gd lv) fs s
  rw [Sem.bind_eq_wrap', Sem.wrap_wrap]
  refine seg_wrap ?_
  rw [g.over]
  refine wpAny_mono (hc.run _ s σ H _ I ht) (fun k' s' hs => ?_) fun x s' hx => k.exc n s₀ x s' hx
  obtain ⟨H1, I1, q⟩ := hs
  have G1 : GI X S ip ys σ H1 s' := ⟨acc, cc, r, I1⟩
  cases k' with
  | true => exact ha.run A S ip R n ys s₀ cd fs K J gd lv s' σ H1 D g hn k G1 q
  | false => exact hb.run A S ip R n ys s₀ cd fs K J gd lv s' σ H1 D g hn k G1 q
theorem GS.imp {st : Stmt} {t t' : TGn} (h : GS X st t) (f : ∀ D ys σ H, t' D ys σ H → t D ys σ H) : GS X st t' :=
  ⟨fun A C ip R n ys s₀ c fs K J gd lv s σ H D g hn k hI ht => h.run A C ip R n ys s₀ c fs K J gd lv s σ H D g hn k hI (f D ys σ H ht)⟩
theorem GSs.imp {rest : List Stmt} {t t' : TGn} (h : GSs X rest t) (f : ∀ D ys σ H, t' D ys σ H → t D ys σ H) : GSs X rest t' :=
  ⟨fun A C ip R n ys s₀ c fs K J gd lv s σ H D g hn k hI ht => h.run A C ip R n ys s₀ c fs K J gd lv s σ H D g hn k hI (f D ys σ H ht)⟩
/-! ### for -/
def tGFor (wi : TI) (g : TG) (tb : TGn) : TGn := fun D ys σ H => wi σ H fun J H1 => ∃ W : Nat → Nat → List V → L2.St → Hp → Prop, (∃ m, W 0 m ys σ H1) ∧ ∀ i m ys σ H, W i m ys σ H →
  (J.stop i H ∧ D.nx ys σ H) ∨ (J.go i H ∧ ∃ N : List V → L2.St → Hp → Prop, (∀ ys' σ' H', N ys' σ' H' → ∃ m', m' < m ∧ W (i + 1) m' ys' σ' H') ∧ ∀ x H', J.yld i H x H' → g x σ H' fun σ2 H2 => tb { D with nx := N, ct := N, bk := D.nx } ys σ2 H2)
theorem gs_for {tg iter : Expr} {body : List Stmt} {wi : TI} {g : TG} {tb : TGn} {pos : Pos} (hp : PassesOwn (model X.prog X.w) X.A X.env X.xe) (hc : X.calm = true) (hi : PI X tg iter wi) (hg : PG X tg g) (hb : GSs X body tb)
    (hs : ∀ x, foldedSetIterable iter X.env x = pure x := by intro _; rfl) : GS X (.For tg iter body [] pos) (tGFor wi g tb) := by
  refine ⟨fun A S ip R n ys s₀ c fs K J gd lv s σ H D gc hn k hI ht => ?_⟩
  obtain ⟨acc, cc, r, I⟩ := hI
  rw [exec_For]
  refine seg_at ?_
  show Seg _ _ _ _ n s₀ c ((eval iter X.env >>= fun x0 => foldedSetIterable iter X.env x0 >>= fun x => standAt iter.pos >>= fun _ => holding [x] (pyIter x) >>= fun it => runOwn (.forLoop tg it body [] X.env) X.env).wrap K J gd lv) fs s
  refine seg_bind_wrap ?_
  rw [gc.over]
  refine (wpAny_mono (hi.run _ s σ H _ I ht) (fun v s1 h1 => ?_) fun x s' hx => k.exc n s₀ x s' hx)
  rw [hs v]
  refine seg_bind_wrap (wpAny_pure ?_)
  refine seg_bind_wrap (wpAny_standAt ?_)
  refine seg_bind_wrap (wpAny_holding ?_)
  rw [gc.over]
  refine (wpAny_mono h1 (fun itv s2 h2 => ?_) fun x s' hx => k.exc n s₀ x s' hx)
  obtain ⟨it, fp, tn, Jt, H2, e, I2, T, st2, f2, W, ⟨m0, w0⟩, turn⟩ := h2
  subst e
  have fpn : ∀ b ∈ fp, S ≠ b := fun b hb => (f2 b hb).2.2.2.2.2 (S, lstObj acc cc) (List.mem_append_right _ List.mem_cons_self)
  have stat : ∀ {H' : Hp} {acc' : Array Value} {c' : Nat}, (∀ b ∈ fp, H' b = none) → ∀ b ∈ fp, FpOk X ((S, lstObj acc' c') :: ip) H' b := fun {H' acc' c'} hn b hb => by
    obtain ⟨_, h2, h3, h4, h5, h6⟩ := f2 b hb
    refine ⟨hn b hb, h2, h3, h4, h5, fun p hp => ?_⟩
    rcases List.mem_append.mp hp with hp | hp
    · exact h6 p (List.mem_append_left _ hp)
    · rcases List.mem_cons.mp hp with rfl | hp
      · exact fpn b hb
      · exact h6 p (List.mem_append_right _ (List.mem_cons_of_mem _ hp))
  refine seg_call fun p => ?_
  have gl := fun (kk : Result → Sem PySem.Fin) => gc_loop (k := kk) (c' := .forLoop tg (.ref it) body [] X.env) (l := lv []) (kp := []) (p := p) gc rfl rfl
  have loop : ∀ (m i n : Nat) (ys : List V) (s₀ s : Shared) (σ : L2.St) (H : Hp), n + ys.length = sizeLine → W i m ys σ H → GI X S ip ys σ H s → tn i s.heap → (∀ b ∈ fp, H b = none) →
      Seg (model X.prog X.w) A R (GY X S) n s₀ (.forLoop tg (.ref it) body [] X.env) ((model X.prog X.w).den (.forLoop tg (.ref it) body [] X.env))
        (.ret (fun r => ((match r with | .ok f => (.pure f : Sem Flow) | .error e => .raise e).onRaise (cameBack X.env)).wrap K J gd lv) none (gd false) (lv []) c p [] :: fs) s := by
    intro m
    induction m using Nat.strongRecOn with
    | ind m ih =>
      intro i n ys s₀ s σ H hn w hI st fr
      have ee : ∀ (n : Nat) (s₀ : Shared) (x : Value) (s' : Shared), X.xe x s' → Seg (model X.prog X.w) A R (GY X S) n s₀ (.forLoop tg (.ref it) body [] X.env)
          ((do noteFrame x X.env; theTreesLotGoes x : Sem Unit).bind (fun _ => (.raise x : Sem PySem.Fin)))
          (.ret (fun r => ((match r with | .ok f => (.pure f : Sem Flow) | .error e => .raise e).onRaise (cameBack X.env)).wrap K J gd lv) none (gd false) (lv []) c p [] :: fs) s' := fun n s₀ x s' hx => by
        rw [Sem.bind_eq_wrap]
        refine seg_wrap ?_
        rw [(gl _).over]
        refine wpAny_bind (wpAny_mono (hp x s' hx) (fun _ s'' hcb => wpAny_theTreesLotGoes ?_) fun y s'' hcb => ?_)
        · exact seg_leaf (.error x) (seg_cameBack gc k hcb)
        · exact seg_leaf (.error y) (seg_cameBack gc k hcb)
      obtain ⟨acc, cc, r, I⟩ := hI
      show Seg _ A R _ n s₀ _ ((forTurn tg (.ref it) body [] X.env).onRaise (fun x => do noteFrame x X.env; theTreesLotGoes x)) _ s
      rw [Sem.onRaise_eq_wrap]
      unfold forTurn
      refine seg_bind_wrap (wpAny_standAt ?_)
      refine seg_bind_wrap (wpAny_onRaise ?_)
      rw [(gl _).over]
      rcases turn i m ys σ H w with ⟨stop, qn⟩ | ⟨go, N, hN', step⟩
      · refine (wpAny_mono (T.done X rfl rfl rfl hc i _ s σ H X.xe I (stat fr) st stop) (fun r' s4 hs4 => ?_) fun x s' hx => wpAny_standAt (ee n s₀ x s' hx))
        obtain ⟨hr', I4⟩ := hs4
        subst hr'
        show Seg _ A R _ n s₀ _ (.pure (.again (.block [] X.env))) _ s4
        refine seg_again rfl ?_
        show Seg _ A R _ n s₀ _ (.pure (.done .next)) _ s4
        exact seg_leaf (.ok .next) (k.ok n ys s₀ s4 .next hn ⟨σ, H, ⟨acc, cc, r, I4⟩, qn⟩)
      · refine (wpAny_mono (T.item X rfl rfl rfl hc i _ s σ H X.xe I (stat fr) st go) (fun r' s4 hs4 => ?_) fun x s' hx => wpAny_standAt (ee n s₀ x s' hx))
        obtain ⟨u, hr', h4⟩ := hs4
        subst hr'
        refine seg_bind_wrap ?_
        rw [(gl _).over]
        refine (wpAny_mono h4 (fun _ s5 hs5 => ?_) fun x s' hx => ee n s₀ x s' hx)
        obtain ⟨x, H5, I5, r5, y5, st5, fr5⟩ := hs5
        have I5' := I5.pinned (stat fr5) (T.obj _ _ st5)
        refine seg_bind_wrap ?_
        rw [(gl _).over]
        refine (wpAny_mono (hg.run _ s5 σ H5 x u _ I5' r5 (step x H5 y5)) (fun _ s6 hs6 => ?_) fun x s' hx => ee n s₀ x s' hx)
        obtain ⟨σ6, H6, I6, q6⟩ := hs6
        rw [Sem.bind_eq_wrap', Sem.wrap_wrap]
        have hip : ∀ q ∈ ip ++ pinsAt fp s5.heap, q.1 ≠ S := fun q hq => by
          rcases List.mem_append.mp hq with hq | hq
          · exact gc.ip q hq
          · exact fun e => fpn q.1 (of_pinsAt hq).1 e.symm
        have gl' := fun (kk : Result → Sem PySem.Fin) => gl kk
        refine hb.run A S (ip ++ pinsAt fp s5.heap) R n ys s₀ _ _ _ _ id id s6 σ6 H6 { D with nx := N, ct := N, bk := D.nx } ⟨gc.pn, hip, gc.apart, (gl _).over, (gl _).split, (gl _).guard, rfl⟩ hn ⟨fun n' ys' s₀' s7 f hn' hs7 => ?_, fun n' s₀' x s7 hx => ee n' s₀' x s7 hx⟩ ⟨acc, cc, r, I6⟩ q6
        have unp : ∀ {ys7 : List V} {σ7 : L2.St} {H7 : Hp}, GI X S (ip ++ pinsAt fp s5.heap) ys7 σ7 H7 s7 → GI X S ip ys7 σ7 H7 s7 := fun {ys7 σ7 H7} G7 => by
          obtain ⟨a4, a5, a6, I7⟩ := G7
          refine ⟨a4, a5, a6, I7.pins_of fun q hq => I7.pin q (List.mem_append_right _ ?_)⟩
          rcases List.mem_cons.mp hq with hq | hq
          · exact List.mem_cons.mpr (.inl hq)
          · exact List.mem_cons_of_mem _ (List.mem_append_left _ hq)
        have again : ∀ {σ7 : L2.St} {H7 : Hp}, GI X S (ip ++ pinsAt fp s5.heap) ys' σ7 H7 s7 → N ys' σ7 H7 → Seg (model X.prog X.w) A R (GY X S) n' s₀' (.forLoop tg (.ref it) body [] X.env) (.pure (.again (.forLoop tg (.ref it) body [] X.env)))
            (.ret (fun r => ((match r with | .ok f => (.pure f : Sem Flow) | .error e => .raise e).onRaise (cameBack X.env)).wrap K J gd lv) none (gd false) (lv []) c p [] :: fs) s7 := fun {σ7 H7} G7 n7 => by
          obtain ⟨m', hm, w7⟩ := hN' ys' σ7 H7 n7
          have pinned : ∀ b ∈ fp, ∀ o, s5.heap.get? b = some o → s7.heap.get? b = some o ∧ H7 b = none := fun b hb o e => by
            obtain ⟨_, _, _, I7⟩ := G7
            obtain ⟨z1, z2, _⟩ := I7.pin (b, o) (List.mem_append_right _ (List.mem_cons_of_mem _ (List.mem_append_right _ (mem_pinsAt hb e))))
            exact ⟨z1, z2⟩
          refine seg_again rfl (ih m' hm (i + 1) n' ys' s₀' s7 σ7 H7 hn' w7 (unp G7) (T.keep _ _ _ st5 fun b hb o e => (pinned b hb o e).1) fun b hb => ?_)
          obtain ⟨o, e, d⟩ := T.obj _ _ st5 b hb
          exact (pinned b hb o e).2
        cases f with
        | next => obtain ⟨σ7, H7, I7, n7⟩ := hs7; exact again I7 n7
        | cont => obtain ⟨σ7, H7, I7, n7⟩ := hs7; exact again I7 n7
        | brk =>
          obtain ⟨σ7, H7, I7, q7⟩ := hs7
          exact seg_leaf (.ok .next) (k.ok n' ys' s₀' s7 .next hn' ⟨σ7, H7, unp I7, q7⟩)
        | ret v =>
          obtain ⟨x7, σ7, H7, I7, r7, q7⟩ := hs7
          exact seg_leaf (.ok (.ret v)) (k.ok n' ys' s₀' s7 (.ret v) hn' ⟨x7, σ7, H7, unp I7, r7, q7⟩)
  exact loop m0 0 n ys s₀ s2 σ H2 hn w0 ⟨acc, cc, r, I2⟩ st2 fun b hb => (f2 b hb).1
end
end GE
set_option Elab.async false
set_option linter.all false
set_option maxRecDepth 100000
namespace DL
open PySem PySem.Spec PyProof.Rows L2 GE

/-! ### generators: what a body hands out, how it ends -/
abbrev GO := List D × Out
def PostGS (K : PySem.W.Frag) (B : Hp) (O : Ob) (W : WX) (ow : Ow) (owl : Ox) (ys : List V) (r : GO) (D : GEnds) : Prop :=
  match r.2 with
  | .nx ρ => ∀ B' us σ H L, Same B B' → RepL K (hide O B') us r.1 → SR K B' O L σ H ρ → OwOk ow L → D.nx (ys ++ us) σ H
  | .rt d ρ => ∀ B' us v σ H L, Same B B' → RepL K (hide O B') us r.1 → SR K B' O L σ H ρ → OwOk owl.rx L → Rep K (hide (HS O L) H) v d → D.rt (ys ++ us) v H
  | .bk ρ => ∀ B' us σ H L, Same B B' → RepL K (hide O B') us r.1 → SR K B' O L σ H ρ → OwOk owl.lp L → D.bk (ys ++ us) σ H
  | .ct ρ => ∀ B' us σ H L, Same B B' → RepL K (hide O B') us r.1 → SR K B' O L σ H ρ → OwOk owl.lp L → D.ct (ys ++ us) σ H
  | .exc x ρ => ∀ B' c dd σ H L, Same B B' → SR K B' O L σ H ρ → OwOk owl.rx L → RepX K (hide O H) H c dd x → W c dd σ H
  | .stuck => False
def tGD (K : PySem.W.Frag) (W : WX) (ow ow' : Ow) (owl : Ox) (fs : DL.Env → GO) : TGn := fun D ys σ H => ∃ B O L ρ, SR K B O L σ H ρ ∧ OwOk ow L ∧ ys.length + (fs ρ).1.length ≤ sizeLine ∧ PostGS K B O W ow' owl ys (fs ρ) D
def GDS (X : Cx) (W : WX) (ow ow' : Ow) (owl : Ox) (st : Stmt) (fs : DL.Env → GO) : Prop := GS X st (tGD X.K W ow ow' owl fs)
def GDB (X : Cx) (W : WX) (ow ow' : Ow) (owl : Ox) (st : List Stmt) (fs : DL.Env → GO) : Prop := GSs X st (tGD X.K W ow ow' owl fs)
def gE {α : Type} (r : R α) (ρ : DL.Env) (k : α → GO) : GO :=
  match r with
  | .ok a => k a
  | .exc x => ([], .exc x ρ)
  | .stuck => ([], .stuck)
section
variable {K : PySem.W.Frag} {B B' H : Hp} {O : Ob} {W : WX} {ow ow' : Ow} {owl : Ox} {L : Lm} {σ : L2.St} {ρ : DL.Env} {D : GEnds} {ys us : List V} {α β : Type}
theorem PostGS.shift {zs zs2 : List DL.D} {o : Out} (P : PostGS K B O W ow owl ys (zs ++ zs2, o) D) (e : Same B B') (r : RepL K (hide O B') us zs) : PostGS K B' O W ow owl (ys ++ us) (zs2, o) D := by
  have ap : ∀ {B3 : Hp} {us2 : List V}, Same B' B3 → RepL K (hide O B3) us2 zs2 → RepL K (hide O B3) (us ++ us2) (zs ++ zs2) := fun e3 r2 => RepL.append (r.mono (hide_same (fun _ h => h) e3)) r2
  cases o with
  | nx ρ => exact fun B3 us2 σ H L e3 r2 S w => by rw [List.append_assoc]; exact P B3 (us ++ us2) σ H L (e.trans e3) (ap e3 r2) S w
  | rt d ρ => exact fun B3 us2 v σ H L e3 r2 S w q => by rw [List.append_assoc]; exact P B3 (us ++ us2) v σ H L (e.trans e3) (ap e3 r2) S w q
  | bk ρ => exact fun B3 us2 σ H L e3 r2 S w => by rw [List.append_assoc]; exact P B3 (us ++ us2) σ H L (e.trans e3) (ap e3 r2) S w
  | ct ρ => exact fun B3 us2 σ H L e3 r2 S w => by rw [List.append_assoc]; exact P B3 (us ++ us2) σ H L (e.trans e3) (ap e3 r2) S w
  | exc x ρ => exact fun B3 c dd σ H L e3 S w q => P B3 c dd σ H L (e.trans e3) S w q
  | stuck => exact P
theorem PostGS.ext {r : GO} (P : PostGS K B O W ow owl ys r D) (e : Same B B') : PostGS K B' O W ow owl ys r D := by
  have q := PostGS.shift (us := []) (zs := []) (zs2 := r.1) (o := r.2) P e rfl
  rw [List.append_nil] at q
  exact q
theorem PostGS.bind {rel : Hp → β → α → Prop} {r : R α} {k : α → GO} {Q : β → Hp → Prop} (P : PostGS K B O W ow owl ys (gE r ρ k) D) (S : SR K B O L σ H ρ) (w : OwOk owl.rx L)
    (h : ∀ a b H1, r = .ok a → Same H H1 → rel H1 b a → PostGS K B O W ow owl ys (k a) D → Q b H1) : PostG K O W rel r σ H Q := by
  cases r with
  | ok a => exact fun b H1 e hr => h a b H1 rfl e hr P
  | exc x => exact fun c dd H1 e hr => P B c dd σ H1 L (Same.refl B) (S.ext e) w hr
  | stuck => exact P
end
section
variable {X : Cx} {W : WX} {ow ow' ow1 ow2 lo : Ow} {owl : Ox} {st : Stmt} {sts rest : List Stmt} {f g : DL.Env → GO} {fp : DL.Env → Out} {e c : Expr} {es ts : List Nat} {fe : DL.Env → R D} {fc : DL.Env → R Bool} {pos yp : Pos}
def gPl (f : DL.Env → Out) : DL.Env → GO := fun ρ => ([], f ρ)
theorem gds_ps (h : PDS X W ow ow' owl st fp) : GDS X W ow ow' owl st (gPl fp) := GE.GS.imp (gs_ps h) fun D ys σ H ⟨B, O, L, ρ, S, w, hl, P⟩ => ⟨B, O, L, ρ, S, w, by
  have P : PostGS X.K B O W ow' owl ys ([], fp ρ) D := P
  cases q : fp ρ with
  | nx ρ' =>
    rw [q] at P
    intro σ' H' L' S' w'
    have p := P B [] σ' H' L' (Same.refl B) rfl S' w'
    rw [List.append_nil] at p
    exact p
  | rt d ρ' =>
    rw [q] at P
    intro v σ' H' L' S' w' r'
    have p := P B [] v σ' H' L' (Same.refl B) rfl S' w' r'
    rw [List.append_nil] at p
    exact p
  | bk ρ' =>
    rw [q] at P
    intro σ' H' L' S' w'
    have p := P B [] σ' H' L' (Same.refl B) rfl S' w'
    rw [List.append_nil] at p
    exact p
  | ct ρ' =>
    rw [q] at P
    intro σ' H' L' S' w'
    have p := P B [] σ' H' L' (Same.refl B) rfl S' w'
    rw [List.append_nil] at p
    exact p
  | exc x ρ' => rw [q] at P; exact fun c dd σ' H' L' S' w' r' => P B c dd σ' H' L' (Same.refl B) S' w' r'
  | stuck => rw [q] at P; exact P⟩
def gNext : DL.Env → GO := fun ρ => ([], .nx ρ)
theorem gdb_nil (h : ∀ p ∈ ow', p ∈ ow := by decide) : GDB X W ow ow' owl [] gNext := GE.GSs.imp gss_nil fun D ys σ H ⟨B, O, L, ρ, S, w, hl, P⟩ => by
  have p := P B [] σ H L (Same.refl B) rfl S (w.sub h)
  rw [List.append_nil] at p
  exact p
def gThen (r : GO) (g : DL.Env → GO) : GO :=
  match r.2 with
  | .nx ρ' => (r.1 ++ (g ρ').1, (g ρ').2)
  | o => (r.1, o)
def gSeq (f g : DL.Env → GO) : DL.Env → GO := fun ρ => gThen (f ρ) g
theorem gdb_cons (h : GDS X W ow ow1 owl st f) (k : GDB X W ow1 ow2 owl rest g) : GDB X W ow ow2 owl (st :: rest) (gSeq f g) := GE.GSs.imp (gss_cons h k) fun D ys σ H ⟨B, O, L, ρ, S, w, hl, P⟩ => by
  obtain ⟨zs, o, hfo⟩ : ∃ zs o, f ρ = (zs, o) := ⟨_, _, rfl⟩
  have e : gSeq f g ρ = gThen (zs, o) g := by
    unfold gSeq
    rw [hfo]
  rw [e] at hl P
  refine ⟨B, O, L, ρ, S, w, ?_, ?_⟩
  · rw [hfo]
    cases o with
    | nx ρ' =>
      have hl : ys.length + (zs ++ (g ρ').1).length ≤ sizeLine := hl
      rw [List.length_append] at hl
      show ys.length + zs.length ≤ _
      omega
    | _ => exact hl
  · rw [hfo]
    cases o with
    | nx ρ' =>
      intro B' us σ' H' L' e' r' S' w'
      have hl : ys.length + (zs ++ (g ρ').1).length ≤ sizeLine := hl
      have hr : us.length = zs.length := RepL.length r'
      refine ⟨B', O, L', ρ', S', w', ?_, PostGS.shift (zs := zs) (zs2 := (g ρ').1) (o := (g ρ').2) P e' r'⟩
      rw [List.length_append] at hl ⊢
      omega
    | rt d ρ' => exact P
    | bk ρ' => exact P
    | ct ρ' => exact P
    | exc x ρ' => exact P
    | stuck => exact P
theorem GDB.sub (h : GDB X W ow1 ow' owl sts f) (s : ∀ p ∈ ow1, p ∈ ow := by decide) : GDB X W ow ow' owl sts f := GE.GSs.imp h fun D ys σ H ⟨B, O, L, ρ, S, w, hl, P⟩ => ⟨B, O, L, ρ, S, w.sub s, hl, P⟩
def gIf (c : DL.Env → R Bool) (f g : DL.Env → GO) : DL.Env → GO := fun ρ => gE (c ρ) ρ fun b => if b = true then f ρ else g ρ
theorem gds_if {a b : List Stmt} (hc : PDT X W c fc) (ha : GDB X W ow ow' owl a f) (hb : GDB X W ow ow' owl b g) (hx : ∀ p ∈ owl.rx, p ∈ ow := by decide) : GDS X W ow ow' owl (.If c a b pos) (gIf fc f g) := GE.GS.imp (GE.gs_if hc ha hb) fun D ys σ H ⟨B, O, L, ρ, S, w, hl, P⟩ =>
  ⟨B, O, L, ρ, S, PostGS.bind P S (w.sub hx) fun k k' H1 ek e r P1 => by
    obtain rfl : k' = k := r
    have hl : ys.length + (gIf fc f g ρ).1.length ≤ sizeLine := hl
    unfold gIf at hl
    rw [ek] at hl
    cases k' with
    | true => exact ⟨B, O, L, ρ, S.ext e, w, hl, P1⟩
    | false => exact ⟨B, O, L, ρ, S.ext e, w, hl, P1⟩⟩
def gYield (fe : DL.Env → R D) : DL.Env → GO := fun ρ =>
  match fe ρ with
  | .ok d => ([d], .nx ρ)
  | .exc x => ([.non], .exc x ρ)
  | .stuck => ([], .stuck)
theorem gds_yield (h : PD X W e es fe) (ho : ∀ p ∈ ow', p ∈ ow ∧ p.1 ∉ es := by decide) (hx : ∀ p ∈ owl.rx, p ∈ ow := by decide) (hco : X.env.scope.isCoroutine = false := by rfl) (hi : interactive X.env = false := by rfl) :
    GDS X W ow ow' owl (.Expr (.Yield (some e) yp) pos) (gYield fe) := GE.GS.imp (gs_yield h hco hi) fun D ys σ H ⟨B, O, L, ρ, S, w, hl, P⟩ => by
  have P : PostGS X.K B O W ow' owl ys (match fe ρ with | .ok d => ([d], .nx ρ) | .exc x => ([.non], .exc x ρ) | .stuck => ([], .stuck)) D := P
  have hl : ys.length + (match fe ρ with | .ok d => (([d], Out.nx ρ) : GO) | .exc x => ([.non], .exc x ρ) | .stuck => ([], .stuck)).1.length ≤ sizeLine := hl
  cases q : fe ρ with
  | stuck => rw [q] at P; exact P.elim
  | exc x =>
    rw [q] at P hl
    have hl : ys.length + 1 ≤ sizeLine := hl
    refine ⟨hl, B, O, L, ρ, S, ?_⟩
    rw [q]
    exact fun c dd H1 e hr => P B c dd σ H1 L (Same.refl B) (S.ext e) (w.sub hx) hr
  | ok d =>
    rw [q] at P hl
    have hl : ys.length + 1 ≤ sizeLine := hl
    refine ⟨hl, B, O, L, ρ, S, ?_⟩
    rw [q]
    intro v H1 e hr
    have S1 := (S.ext e).drop es
    have S2 := S1.rebase
    refine P (nb (dropL es L) H1) [v] σ H1 (dropL es L) S1.nbSame ?_ S2 (w.drop ho)
    have r2 : Rep X.K (hide (HS O (dropL es L)) H1) v d := hr
    refine RepL.one (r2.mono (.ofKey fun a u z => ?_))
    obtain ⟨n, z⟩ := hide_some z
    rw [hide_no fun y => n (.inl y)]
    unfold nb
    rw [hide_no fun y => n (.inr y)]
    exact z
/-! ### for -/
def gLoop (r : GO) (k : DL.Env → GO) : GO :=
  match r.2 with
  | .nx ρ' => (r.1 ++ (k ρ').1, (k ρ').2)
  | .ct ρ' => (r.1 ++ (k ρ').1, (k ρ').2)
  | .bk ρ' => (r.1, .nx ρ')
  | o => (r.1, o)
def gForL (ft : DL.D → DL.Env → Option DL.Env) (fb : DL.Env → GO) : List DL.D → DL.Env → GO
  | [], ρ => ([], .nx ρ)
  | d :: ds, ρ =>
    match ft d ρ with
    | none => ([], .stuck)
    | some ρ1 => gLoop (fb ρ1) (gForL ft fb ds)
def gFor (fi : DL.Env → R (List DL.D)) (ft : DL.D → DL.Env → Option DL.Env) (fb : DL.Env → GO) : DL.Env → GO := fun ρ => gE (fi ρ) ρ fun ds => gForL ft fb ds ρ
theorem gds_for {tg iter : Expr} {body : List Stmt} {fi : DL.Env → R (List DL.D)} {g : TG} {ft : DL.D → DL.Env → Option DL.Env} {fb : DL.Env → GO} (hp : PassesOwn (model X.prog X.w) X.A X.env X.xe) (hc : X.calm = true) (hi : PDI X W tg iter es fi) (hg : PG X tg g) (ht : TgD X.K g ts ft) (hb : GDB X W lo lo ⟨lo, owl.rx⟩ body fb)
    (hlo : ∀ p ∈ lo, p ∈ ow ∧ p.1 ∉ es ∧ p.1 ∉ ts := by decide) (how : ∀ p ∈ ow', p ∈ lo := by decide) (hx : ∀ p ∈ owl.rx, p ∈ ow := by decide) (hs : ∀ x, foldedSetIterable iter X.env x = pure x := by intro _; rfl) : GDS X W ow ow' owl (.For tg iter body [] pos) (gFor fi ft fb) :=
  GE.GS.imp (GE.gs_for hp hc hi hg hb hs) fun D ys σ H ⟨B, O, L, ρ, S, w, hl, P⟩ => ⟨B, O, L, ρ, S, PostGS.bind P S (w.sub hx) fun ds J H1 ek e hJ P1 => by
    have hl : ys.length + (gE (fi ρ) ρ fun ds => gForL ft fb ds ρ).1.length ≤ sizeLine := hl
    rw [ek] at hl
    have hl : ys.length + (gForL ft fb ds ρ).1.length ≤ sizeLine := hl
    have S1 := (S.ext e).drop es
    have S2 := S1.rebase
    have eB := S1.nbSame
    have P2 := PostGS.ext P1 eB
    have hB1 : ∀ a u, hide (HS O (dropL es L)) H1 a = some u → nb (dropL es L) H1 a = some u := fun a u z => by
      obtain ⟨n, z⟩ := hide_some z
      unfold nb
      rw [hide_no fun y => n (.inr y)]
      exact z
    generalize nb (dropL es L) H1 = B1 at P2 S2 eB hB1
    have seen : ∀ {B' : Hp} {L' : Lm} {σ' : L2.St} {H' : Hp} {ρ' : DL.Env}, Same B1 B' → SR X.K B' O L' σ' H' ρ' → RdLe (hide (HS O (dropL es L)) H1) (hide (HS O L') H') := fun {B' L' σ' H' ρ'} e1 S' => by
      refine RdLe.ofKey fun a u z => ?_
      have b1 := e1 a u (hB1 a u z)
      obtain ⟨n, z⟩ := hide_some z
      rw [hide_no]
      · exact S'.same a u b1
      · rintro (y | ⟨i, k, as, y, m⟩)
        · exact n (.inl y)
        · rw [(S'.nodup i k as y).2 a m] at b1
          cases b1
    refine ⟨fun i m ys σ H => m = ds.length - i ∧ i ≤ ds.length ∧ ∃ B' L' ρ', Same B1 B' ∧ SR X.K B' O L' σ H ρ' ∧ OwOk lo L' ∧ ys.length + (gForL ft fb (ds.drop i) ρ').1.length ≤ sizeLine ∧ PostGS X.K B' O W ow' owl ys (gForL ft fb (ds.drop i) ρ') D,
      ⟨ds.length, by simp, Nat.zero_le _, B1, dropL es L, ρ, Same.refl B1, S2, w.drop fun p hp => ⟨(hlo p hp).1, (hlo p hp).2.1⟩, hl, P2⟩, ?_⟩
    rintro i m ys' σ' H' ⟨rfl, hi, B', L', ρ', e1, S', w', hl', P'⟩
    obtain ⟨j1, j2⟩ := hJ i H' (HS O L') (seen e1 S') S'.hdom
    by_cases hlt : i < ds.length
    · obtain ⟨d, hd⟩ : ∃ d, ds[i]? = some d := ⟨ds[i], List.getElem?_eq_getElem hlt⟩
      obtain ⟨g1, g2⟩ := j1 d hd
      refine .inr ⟨g1, fun ys σ H => ∃ B' L' ρ', Same B1 B' ∧ SR X.K B' O L' σ H ρ' ∧ OwOk lo L' ∧ ys.length + (gForL ft fb (ds.drop (i + 1)) ρ').1.length ≤ sizeLine ∧ PostGS X.K B' O W ow' owl ys (gForL ft fb (ds.drop (i + 1)) ρ') D, fun ys2 σ2 H2 q => ⟨ds.length - (i + 1), by omega, rfl, hlt, q⟩, fun x H2 y => ?_⟩
      obtain ⟨e2, r2⟩ := g2 x H2 y
      have hdr : ds.drop i = d :: ds.drop (i + 1) := by
        rw [List.drop_eq_getElem_cons hlt]
        rw [List.getElem?_eq_getElem hlt] at hd
        cases hd
        rfl
      rw [hdr] at P' hl'
      have P' : PostGS X.K B' O W ow' owl ys' (match ft d ρ' with | none => ([], .stuck) | some ρ1 => gLoop (fb ρ1) (gForL ft fb (ds.drop (i + 1)))) D := P'
      have hl' : ys'.length + (match ft d ρ' with | none => (([], .stuck) : GO) | some ρ1 => gLoop (fb ρ1) (gForL ft fb (ds.drop (i + 1)))).1.length ≤ sizeLine := hl'
      cases hft : ft d ρ' with
      | none =>
        rw [hft] at P'
        exact P'.elim
      | some ρ1 =>
        rw [hft] at P' hl'
        have P' : PostGS X.K B' O W ow' owl ys' (gLoop (fb ρ1) (gForL ft fb (ds.drop (i + 1)))) D := P'
        have hl' : ys'.length + (gLoop (fb ρ1) (gForL ft fb (ds.drop (i + 1)))).1.length ≤ sizeLine := hl'
        refine ht B' O L' σ' H2 ρ' ρ1 x d _ (S'.ext e2) r2 hft fun σ3 S3 _ => ?_
        obtain ⟨zs, o, hfo⟩ : ∃ zs o, fb ρ1 = (zs, o) := ⟨_, _, rfl⟩
        rw [hfo] at P' hl'
        have w3 : OwOk lo (dropL ts L') := w'.drop fun p hp => ⟨hp, (hlo p hp).2.2⟩
        have hz : ys'.length + zs.length ≤ sizeLine := by
          cases o with
          | nx ρ2 =>
            have hl' : ys'.length + (zs ++ (gForL ft fb (ds.drop (i + 1)) ρ2).1).length ≤ sizeLine := hl'
            rw [List.length_append] at hl'
            omega
          | ct ρ2 =>
            have hl' : ys'.length + (zs ++ (gForL ft fb (ds.drop (i + 1)) ρ2).1).length ≤ sizeLine := hl'
            rw [List.length_append] at hl'
            omega
          | _ => exact hl'
        refine ⟨B', O, _, ρ1, S3, w3, by rw [hfo]; exact hz, ?_⟩
        rw [hfo]
        have on : ∀ {ρ2 : DL.Env}, PostGS X.K B' O W ow' owl ys' (zs ++ (gForL ft fb (ds.drop (i + 1)) ρ2).1, (gForL ft fb (ds.drop (i + 1)) ρ2).2) D → ys'.length + (zs ++ (gForL ft fb (ds.drop (i + 1)) ρ2).1).length ≤ sizeLine →
            ∀ B'' us σ4 H4 L4, Same B' B'' → RepL X.K (hide O B'') us zs → SR X.K B'' O L4 σ4 H4 ρ2 → OwOk lo L4 → ∃ B3 L5 ρ5, Same B1 B3 ∧ SR X.K B3 O L5 σ4 H4 ρ5 ∧ OwOk lo L5 ∧ (ys' ++ us).length + (gForL ft fb (ds.drop (i + 1)) ρ5).1.length ≤ sizeLine ∧ PostGS X.K B3 O W ow' owl (ys' ++ us) (gForL ft fb (ds.drop (i + 1)) ρ5) D := fun {ρ2} P2 hl2 B'' us σ4 H4 L4 e4 r4 S4 w4 => by
          have hr : us.length = zs.length := RepL.length r4
          refine ⟨B'', L4, ρ2, e1.trans e4, S4, w4, ?_, PostGS.shift (zs := zs) (zs2 := (gForL ft fb (ds.drop (i + 1)) ρ2).1) (o := (gForL ft fb (ds.drop (i + 1)) ρ2).2) P2 e4 r4⟩
          rw [List.length_append] at hl2 ⊢
          omega
        cases o with
        | nx ρ2 => exact on P' hl'
        | ct ρ2 => exact on P' hl'
        | bk ρ2 => exact fun B'' us σ4 H4 L4 e4 r4 S4 w4 => P' B'' us σ4 H4 L4 e4 r4 S4 (w4.sub how)
        | rt d ρ2 => exact P'
        | exc x ρ2 => exact P'
        | stuck => exact P'
    · have hi2 : i = ds.length := by omega
      subst hi2
      rw [List.drop_length] at P'
      refine .inl ⟨j2 (Nat.le_refl _), ?_⟩
      have p := P' B' [] σ' H' L' (Same.refl B') rfl S' (w'.sub how)
      rw [List.append_nil] at p
      exact p⟩
end
end DL
set_option Elab.async false
set_option linter.all false
set_option maxRecDepth 100000
namespace DL
open PySem PySem.Spec PyProof.Rows L2 GE

def spGD (K : PySem.W.Frag) (n : Nat) (F : List DL.D → R (List DL.D)) : SpG := fun vs H Q E => ∃ (O : Addr → Prop) (ds : List DL.D), (∀ p, O p → H p ≠ none) ∧ RepL K (hide O H) vs ds ∧ ds.length = n ∧
  match F ds with
  | .ok out => out.length ≤ sizeLine ∧ ∀ us H', Same H H' → RepL K (hide O H') us out → Q us H'
  | _ => False
theorem spGD_len {K : PySem.W.Frag} {n : Nat} {F : List DL.D → R (List DL.D)} {vs : List V} {H : Hp} {Q : List V → Hp → Prop} {E : XK} (h : spGD K n F vs H Q E) : vs.length = n := by
  obtain ⟨O, ds, _, r, e, _⟩ := h
  rw [← e]
  exact r.length
def runG (N n : Nat) (fs : DL.Env → GO) (ds : List DL.D) : R (List DL.D) :=
  match (fs (ds.map some ++ List.replicate (N - n) none)).2 with
  | .nx _ => .ok (fs (ds.map some ++ List.replicate (N - n) none)).1
  | .rt .non _ => .ok (fs (ds.map some ++ List.replicate (N - n) none)).1
  | _ => .stuck
section
variable {P : Program} {w : World} {K : PySem.W.Frag} {mg : Str → Option Value} {base : Heap}
theorem okG {x qual : Str} {st : Stmt} {f : Addr} {fd : FuncData} {N ps : List Str} {k : Nat} (F : List DL.D → R (List DL.D)) (Fn : Fun K x qual st f fd) (S : GScope N ps (defScope st))
    (body : ∀ (cdv : Value) (A : Around) (outer : List PySem.Env) (s : Shared) (H : Hp) (E : XK) (pn : List (Addr × Obj)), Room k (A.deeper (envOfC qual (defScope st) s.heap.objs.size f cdv)) →
      ∃ fs, GDB (gcxOf P w K mg base N qual (defScope st) f cdv A outer s H E pn) (fun c d _ H => E c d H) [] [] ⟨[], []⟩ (defBody st) fs ∧ ∀ ds, ds.length = ps.length → runG N.length ps.length fs ds = F ds) :
    GFn P w K mg base (k + 1) f fd ps (spGD K ps.length F) := by
  obtain ⟨oc, od, kV, doc, pm, an, cdv, ct, osl, rfl, lk, hcd⟩ := Fn.ex
  refine gfn_of lk hcd S (fun vs H Q E h => spGD_len h) fun A outer s H vs Q E pn hr h => ?_
  obtain ⟨fs, hb, he⟩ := body cdv A outer s H E pn hr
  refine ⟨_, hb, ?_⟩
  obtain ⟨O, ds, dom, r, hl, h⟩ := h
  have e := he ds hl
  have SS := SR.begin (N := N) dom r
  refine ⟨H, Ob.no O, L0, _, SS, OwOk.nil, ?_⟩
  unfold runG at e
  rw [← hl] at e
  obtain ⟨zs, o, hfo⟩ : ∃ zs o, fs (ds.map some ++ List.replicate (N.length - ds.length) none) = (zs, o) := ⟨_, _, rfl⟩
  rw [hfo] at e ⊢
  have fin : F ds = .ok zs → zs.length ≤ sizeLine ∧ ∀ us H', Same H H' → RepL K (hide O H') us zs → Q us H' := fun q => by
    rw [q] at h
    exact h
  have up : ∀ {B' H' : Hp} {us : List V}, Same B' H' → RepL K (hide O B') us zs → RepL K (hide O H') us zs := fun e r => r.mono (hide_same (fun _ z => z) e)
  cases o with
  | nx ρ =>
    obtain ⟨q1, q2⟩ := fin e.symm
    refine ⟨by simpa using q1, ?_⟩
    exact fun B' us σ H' L e1 r1 S1 w1 => q2 _ H' (e1.trans S1.same) (up S1.same r1)
  | rt d ρ =>
    cases d <;> first
      | (rw [show F ds = .stuck from e.symm] at h; exact h.elim)
      | (obtain ⟨q1, q2⟩ := fin e.symm
         refine ⟨by simpa using q1, ?_⟩
         exact fun B' us v σ H' L e1 r1 S1 w1 r2 => ⟨r2, q2 _ H' (e1.trans S1.same) (up S1.same r1)⟩)
  | bk ρ => rw [show F ds = .stuck from e.symm] at h; exact h.elim
  | ct ρ => rw [show F ds = .stuck from e.symm] at h; exact h.elim
  | exc x ρ => rw [show F ds = .stuck from e.symm] at h; exact h.elim
  | stuck => rw [show F ds = .stuck from e.symm] at h; exact h.elim
/-- the generator def at f -/
structure HasG (P : Program) (w : World) (K : PySem.W.Frag) (mg : Str → Option Value) (base : Heap) (f : Addr) (k n : Nat) (F : List DL.D → R (List DL.D)) : Prop where
  run : ∃ fd ps, GFn P w K mg base k f fd ps (spGD K n F) ∧ Binds K fd ps []
end
theorem lookup_out {m : Str} : ∀ {us : List (Str × V)}, m ∉ us.map (·.1) → us.lookup m = none
  | [], _ => rfl
  | (a, v) :: us, h => by
    rw [List.map_cons, List.mem_cons, not_or] at h
    rw [List.lookup_cons]
    have e : (m == a) = false := by simpa using h.1
    rw [e]
    exact lookup_out h.2
/-- list(o.m()) -/
def fListM0 (C : Addr) (m : Str) (F : List DL.D → R (List DL.D)) (fe : DL.Env → R DL.D) : DL.Env → R DL.D := fun ρ => (fe ρ).bind fun o => match o with
  | .ins C' fs vs => if C' = C ∧ m ∉ fs then (match F [o] with | .ok out => lenOk out (.ok (.lst out)) | _ => .stuck) else .stuck
  | _ => .stuck
section
variable {X : Cx} {W : WX} {k n : Nat} {f C : Addr} {F : List DL.D → R (List DL.D)} {m nm : Str} {p pos pos' apos : Pos} {o : Expr} {ea : List Nat} {fe : DL.Env → R DL.D}
theorem pdf_listM0 {pl : Sem Bool} (c : Cls X.K C) (hm : Meth X.K C m f) (G : HasG X.prog X.w X.K X.mg X.base f k 1 F) (tk : Takes X W) (hr : Room n X.A) (hk : k + 3 ≤ n) (hg : Gl X nm) (hmg : X.mg nm = none) (hv : bootBuiltins nm = some (.type "list")) (h : PD X W o ea fe)
    (ht : eval (.Call (.Attribute o m apos) [] [] pos') X.env = (do
      let ov ← eval o X.env
      standAt apos.atName
      let (f, first) ← holding [ov] (getMethod ov m pl)
      callWith pos' f first (backTo pos' (starEach [] X.env)) (backToKw pos' (keywordEach [] X.env))) := by rfl) (hnm : nm ≠ "__name__" := by decide) (hdb : (nm == ("__debug__" : Str)) = false := by decide)
    (he : starEach [Expr.Call (.Attribute o m apos) [] [] pos'] X.env = (false, eval (Expr.Call (.Attribute o m apos) [] [] pos') X.env) :: starEach [] X.env := by rfl) :
    PDF X W (.Call (.Name nm p) [.Call (.Attribute o m apos) [] [] pos'] [] pos) ea (fListM0 C m F fe) := by
  obtain ⟨fd, ps, G1, hb⟩ := G.run
  refine PE.imp (pe_listG (E := fun _ _ _ => False) (pgen_meth0 (pl := pl) h c hm G1 (hr.mono (by omega)) hb .nil ht) (passes_call tk fun _ _ _ _ z => z.elim) (fun _ _ _ z => z.elim) (hr.mono hk) hg hmg hv hnm hdb he) fun σ H Q ⟨B, O, L, ρ, S, P⟩ => ⟨B, O, L, ρ, S, ?_⟩
  refine PostF.bind P fun d v H1 e r fr P1 => ?_
  cases d <;> first | exact P1.elim | skip
  rename_i C' fs ds
  have P2 : PostF X.K O W (dropL ea L) (if C' = C ∧ m ∉ fs then (match F [.ins C' fs ds] with | .ok out => lenOk out (.ok (.lst out)) | _ => .stuck) else .stuck) σ H1 Q := P1
  clear P1
  split at P2
  case isFalse => exact P2.elim
  rename_i hC
  obtain ⟨hC, hm0⟩ := hC
  subst hC
  have r : Rep X.K (hide (HS O (dropL ea L)) H1) v (.ins C' fs ds) := r
  obtain ⟨q, dx, us, h1, h2, h3, h4⟩ := ins_rep r
  refine ⟨q, dx, us, h1, h2, ?_, ?_⟩
  · rw [← h3] at hm0
    exact lookup_out hm0
  · refine ⟨HS O (dropL ea L), [.ins C' fs ds], ((S.ext e).drop ea).hdom, ?_, rfl, ?_⟩
    · exact RepL.one r
    cases z : F [.ins C' fs ds] with
    | exc y => rw [z] at P2; exact P2.elim
    | stuck => rw [z] at P2; exact P2.elim
    | ok out =>
      rw [z] at P2
      have P3 : PostF X.K O W (dropL ea L) (lenOk out (.ok (.lst out))) σ H1 Q := P2
      unfold lenOk at P3
      split at P3
      case isFalse => exact P3.elim
      rename_i hz
      refine ⟨hz, fun us' H2 e2 r2 p hp => P3 p (.lst us') _ (e2.free hp) (e2.trans (same_new hp)) upd_same ?_⟩
      have r2 : RepL X.K (hide (HS O (dropL ea L)) H2) us' out := r2
      refine RepL.mono (.ofKey fun a u z => ?_) r2
      obtain ⟨n, z⟩ := hide_some z
      have np : a ≠ p := ne_of_none z hp
      rw [hide_no (fun y => y.elim n np), upd_ne np]
      exact z
end
end DL
set_option Elab.async false
set_option linter.all false
set_option maxRecDepth 100000
namespace GX
open PySem PySem.Spec PyProof.Rows GenW L2

/-! ### a generator's object; how many delegators sleep over it -/
def GSl (n : Int) (o : Obj) : Prop := (match (o.slots[0]? : Option (Option Value)) with | some (some (Value.int m _)) => m | _ => 0) = n
def GOb (g : Nat) (n : Int) (o : Obj) : Prop := o.cls = .type "generator" ∧ (∃ nm qn, o.data = .fields #[.int g 0, nm, qn]) ∧ GSl n o
theorem GOb.nocell {g : Nat} {n : Int} {o : Obj} (h : GOb g n o) : ∀ v, o.data ≠ .cell v := fun v q => by
  obtain ⟨_, ⟨nm, qn, hd⟩, _⟩ := h
  rw [hd] at q
  cases q
theorem gob_of {h : Heap} {a g : Nat} (x : h.IsGen a g) : ∃ o, h.get? a = some o ∧ GOb g 0 o := by
  obtain ⟨o, nm, qn, ho, hc, hd, hs⟩ := x
  exact ⟨o, ho, hc, ⟨nm, qn, hd⟩, by unfold GSl; rw [hs]; rfl⟩
theorem gsl_of {n : Int} {o : Obj} (h : (o.slots[0]? : Option (Option Value)) = some (some (rawInt n))) : GSl n o := by
  unfold GSl
  rw [h]
  rfl
theorem e0 {xs : Array (Option Value)} (v : Value) : ((xs ++ Array.replicate (0 + 1 - xs.size) none).setIfInBounds 0 (some v))[0]? = some (some v) := by
  rw [Array.getElem?_setIfInBounds_self, if_pos]
  rw [Array.size_append, Array.size_replicate]
  omega
section
variable {M : Model} {A : Around} {E : Value → Shared → Prop} {s : Shared}
theorem wpAny_genNumber0 {a : Addr} {g : Nat} {o : Obj} {Q : Nat → Shared → Prop} (ho : s.heap.get? a = some o) (hg : GOb g 0 o) (h : Q g s) :
    wpAny M A (Builtin.Generator.genNumber (.ref a)) Q E s := by
  obtain ⟨_, ⟨nm, qn, hd⟩, hsl⟩ := hg
  unfold Builtin.Generator.genNumber
  refine wpAny_bind (wpAny_load ho ?_)
  unfold GSl at hsl
  rw [hd]
  have fin : wpAny M A (pure ((g : Int).toNat)) Q E s := by
    rw [Int.toNat_natCast]
    exact wpAny_pure h
  generalize (o.slots[0]? : Option (Option Value)) = q at hsl ⊢
  rcases q with _ | (_ | v)
  · exact fin
  · exact fin
  · cases v with
    | int n tk =>
      have hn : n = 0 := hsl
      subst hn
      exact fin
    | _ => exact fin
theorem wpAny_slept {a : Addr} {g : Nat} {n : Int} {more : Bool} {o : Obj} {Q : Unit → Shared → Prop} (ho : s.heap.get? a = some o) (hg : GOb g n o)
    (h : ∀ f : Obj → Obj, (s.heap.update a f).get? a = some (f o) → GOb g (if more = true then n + 1 else n - 1) (f o) → Q () { s with heap := s.heap.update a f }) : wpAny M A (Builtin.Generator.sleptOver (.ref a) more) Q E s := by
  obtain ⟨hc, ⟨nm, qn, hd⟩, hsl⟩ := hg
  unfold Builtin.Generator.sleptOver
  refine wpAny_bind (wpAny_load ho ?_)
  rw [hc, if_neg (by decide)]
  unfold setSlotAt
  show wpAny M A (updatePart a (some (slotPart 0)) _) Q E s
  refine wpAny_updatePart ho (h _ (Heap.get?_update_self _ ho ?_) ⟨hc, ⟨nm, qn, hd⟩, ?_⟩)
  · exact Obj.isFreed_of_fields hd
  · refine gsl_of ((e0 _).trans ?_)
    unfold GSl at hsl
    subst hsl
    rfl
end
end GX
set_option Elab.async false
set_option linter.all false
set_option maxRecDepth 100000
namespace LA
open PySem

/-! ### a thread that hands on what another generator has handed out -/
def Dlg (s : Shared) (v : Value) : Prop := ∃ a o, v = .ref a ∧ s.heap.get? a = some o ∧ o.genNumber?.isSome = true
def Loud (s : Shared) (t : Thread) : Prop := ∃ v l k it as kw fs b rest, t.cur = .yield v true l k ∧ t.code = .builtin "proto.yield_from" ⟨it :: as, kw⟩ ∧ splitAtGen t.stack = some (fs, b, rest) ∧ fs.any Frame.guarded = false ∧ Dlg s it
/-- the machine makes this step by itself -/
def Tame (s : Shared) (t : Thread) : Prop := t.calm = true ∨ Loud s t

theorem dlg_off {s : Shared} {v : Value} (h : Dlg s v) (hz : s.asleep) : delegateShows s v = false := by
  obtain ⟨a, o, rfl, ho, hg⟩ := h
  obtain ⟨g, hg⟩ := Option.isSome_iff_exists.mp hg
  unfold delegateShows
  simp only [ho, hg, hz.1]
  rfl
theorem loud_moves {s : Shared} {t : Thread} (h : Loud s t) (pr : Profile) : (Config.single s t).moves pr = [.run 0] := by
  obtain ⟨v, l, k, it, as, kw, fs, b, rest, h1, h2, h3, h4, h5⟩ := h
  obtain ⟨cur, code, pos, stack⟩ := t
  subst h1
  simp [Config.moves, Config.single, movesFrom, Thread.moves, Thread.atomic, Thread.rests, Thread.tells]
theorem loud_pick {s : Shared} {t : Thread} {w : World} (h : Loud s t) (hz : s.asleep) : (Config.single s t).pick w = .ok (.run 0, .single s t) := by
  have h1 : (Config.single s t).collect? w.params = none := by
    simp [Config.collect?, Config.single, (nothing_to_collect _ _ _ s t hz.1).1]
  have h2 : (Config.single s t).collectable = [] := by
    simp [Config.collectable, Config.single, (nothing_to_collect w.params _ _ s t hz.1).2]
  simp only [Config.pick, h1, h2, Config.pickThread, loud_moves h]
  cases w.params.lifetimes <;> simp
section
variable (den : Code → Sem Fin) (prog : Program) (w : World)
theorem loud_life {s : Shared} {t : Thread} (h : Loud s t) (hz : s.asleep) (others : List Value) : lifeStep den prog w others s t = step den prog w s t := by
  obtain ⟨v, l, k, it, as, kw, fs, b, rest, h1, h2, h3, h4, h5⟩ := h
  obtain ⟨cur, code, pos, stack⟩ := t
  have h1 : cur = .yield v true l k := h1
  have h2 : code = .builtin "proto.yield_from" ⟨it :: as, kw⟩ := h2
  have h3 : splitAtGen stack = some (fs, b, rest) := h3
  subst h1 h2
  have hsp : Thread.special ⟨.yield v true l k, .builtin "proto.yield_from" ⟨it :: as, kw⟩, pos, stack⟩ = true := by
    simp [Thread.special, Thread.yieldsInsideHandler]
  have hct : collectorTurn? w.params others s ⟨.yield v true l k, .builtin "proto.yield_from" ⟨it :: as, kw⟩, pos, stack⟩ = none := rfl
  have hcl : closingShows s fs (.builtin "proto.yield_from" ⟨it :: as, kw⟩) true = false := by
    simp [closingShows, h4, dlg_off h5 hz]
  simp [lifeStep, hsp, hct, h3, hcl, stepCounting, hz.2, Thread.atItsEnd]
theorem loud_sstep {s : Shared} {t : Thread} (h : Loud s t) (hz : s.asleep) : sstep den prog w (.single s t) = (step den prog w s t).lift := by
  have hl := loud_life den prog w h hz
  have hp := loud_pick (w := w) h hz
  obtain ⟨v, l, k, it, as, kw, fs, b, rest, h1, h2, h3, h4, h5⟩ := h
  have hr : (Config.single s t).run den prog w 0 = (step den prog w s t).lift := by
    obtain ⟨cur, code, pos, stack⟩ := t
    have h1 : cur = .yield v true l k := h1
    subst h1
    simp only [Config.run, Config.single]
    first
      | (simp [hl, others_single, frozenBadly, ThreadState.insideWrite]; split <;> simp_all [Step.lift, Config.single]; done)
      | (simp [hl, others_single, frozenBadly, ThreadState.insideWrite]; split <;> simp_all [Step.lift, Config.single] <;> split <;> simp; done)
      | (simp [hl, others_single, frozenBadly, ThreadState.insideWrite, Thread.finalizes]; split <;> simp_all [Step.lift, Config.single]; done)
      | (simp [hl, others_single, frozenBadly, ThreadState.insideWrite, Thread.finalizes]; split <;> simp_all [Step.lift, Config.single] <;> split <;> simp; done)
  simp only [sstep, hp, Config.move, hr]
end
theorem loud_forget {s s' : Shared} {t t' : Thread} (hs : s.forget = s'.forget) (ht : t.forget = t'.forget) (h : Loud s t) : Loud s' t' := by
  obtain ⟨v, l, k, it, as, kw, fs, b, rest, h1, h2, h3, h4, a, o, h5, h6, h7⟩ := h
  obtain ⟨cur, code, pos, stack⟩ := t
  obtain ⟨cur', code', pos', stack'⟩ := t'
  simp only [Thread.forget, Thread.mk.injEq] at ht
  obtain ⟨e1, e2, e3, e4⟩ := ht
  obtain ⟨f1, _⟩ := Shared.forget_eq hs
  have h3 : splitAtGen stack = some (fs, b, rest) := h3
  have q := congrArg splitAtGen e4
  rw [splitAtGen_forgetAll, splitAtGen_forgetAll, h3] at q
  cases q2 : splitAtGen stack' with
  | none => rw [q2] at q; cases q
  | some x =>
    obtain ⟨fs', b', rest'⟩ := x
    rw [q2] at q
    simp only [Option.map_some, Option.some.injEq, Prod.mk.injEq] at q
    refine ⟨v, l, k, it, as, kw, fs', b', rest', e1 ▸ h1, e2 ▸ h2, q2, ?_, a, o, h5, by rw [← f1]; exact h6, h7⟩
    rw [← any_guarded_forgetAll, ← q.1, any_guarded_forgetAll]
    exact h4
theorem tame_forget {s s' : Shared} {t t' : Thread} (hs : s.forget = s'.forget) (ht : t.forget = t'.forget) (h : Tame s t) : Tame s' t' := by
  rcases h with h | h
  · exact .inl (by rw [← Thread.calm_forget, ← ht, Thread.calm_forget]; exact h)
  · exact .inr (loud_forget hs ht h)

/-! ### what may be wanted of a run: it stays wanted one step earlier -/
structure Goal (M : Model) where
  P : Shared → Thread → Prop
  back : ∀ s t s' t', Tame s t → stepK M.den M.prog M.w s t = .go s' t' → P s' t' → P s t
theorem Goal.step {M : Model} (G : Goal M) {s s' : Shared} {t t' : Thread} (h : M.step s t = .go s' t') (k : G.P s' t') : G.P s t := by
  have hl : t.loud = false := by
    cases q : t.loud with
    | false => rfl
    | true => rw [Model.step_loud M q] at h; cases h
  rw [Model.step_quiet M hl] at h
  refine G.back s t s' t' (.inl ?_) h k
  rw [Thread.calm_eq, hl]
  cases q : t.refused with
  | false => rfl
  | true =>
    obtain ⟨what, e⟩ := stepK_refused M.den M.prog M.w (s := s) q
    rw [e] at h
    cases h
theorem Goal.reach {M : Model} (G : Goal M) {base : List Frame} {s s' : Shared} {t : Sem Fin} {c : Code} {p : Pos} {pre : List Frame} {e : End} (h : Reach M base s t c p pre s' e) (k : ∀ t' c' p' pre', Exits e t' c' p' pre' → G.P s' ⟨t', c', p', pre' ++ base⟩) : G.P s ⟨t, c, p, pre ++ base⟩ := by
  induction h with
  | exit hx => exact k _ _ _ _ hx
  | step hs _ ih => exact G.step hs (ih k)
/-- the goal of a whole run: it ends so -/
def endGoal (M : Model) (R : Result → Shared → Prop) : Goal M where
  P := fun s t => ∀ s0 t0, s0.forget = s.forget → t0.forget = t.forget → s0.asleep → ∃ n r s1 s2, PySem.runN M.den M.prog M.w n s0 t0 = .halted (outcomeOf r) s1 ∧ schedN M.den M.prog M.w n (.single s0 t0) = .halted (outcomeOf r) s1 ∧ s1.forget = s2.forget ∧ R r s2
  back := fun s t s' t' ht hs hP s0 t0 es et hz => by
    have h0 := (stepK_forget M.den M.prog M.w s t).trans (step_same M.den M.prog M.w es.symm et.symm)
    rw [hs] at h0
    cases hs0 : PySem.step M.den M.prog M.w s0 t0 with
    | halt o x => rw [hs0] at h0; cases h0
    | go s0' t0' =>
      rw [hs0] at h0
      simp only [Step.forget] at h0
      injection h0 with ha hb
      have hz' : s0'.asleep := by
        have := step_life M.den M.prog M.w s0 s0' t0 t0' hs0
        exact Shared.asleep_of_life this hz
      obtain ⟨n, r, s1, s2, h1, h2, h3, h4⟩ := hP s0' t0' ha.symm hb.symm hz'
      refine ⟨n + 1, r, s1, s2, by simp only [PySem.runN, hs0]; exact h1, ?_, h3, h4⟩
      have hsd : sstep M.den M.prog M.w (.single s0 t0) = .go (.single s0' t0') := by
        rcases tame_forget es.symm et.symm ht with hc | hl
        · rcases sstep_single M.den M.prog M.w s0 t0 hc hz with e | e
          · rw [e, hs0]; rfl
          · rw [hs0] at e; cases e
        · rw [loud_sstep M.den M.prog M.w hl hz, hs0]; rfl
      simp only [schedN, hsd]
      exact h2
theorem endGoal_leaf {M : Model} {R : Result → Shared → Prop} {r : Result} {s : Shared} {c : Code} {p : Pos} (h : R r s) (hl : leftWithCleanup s.gens = false) : (endGoal M R).P s ⟨leafOf r, c, p, []⟩ := by
  intro s0 t0 es et hz
  obtain ⟨cur, code, pos, stack⟩ := t0
  simp only [Thread.forget, Thread.mk.injEq] at et
  obtain ⟨e1, e2, e3, e4⟩ := et
  have e4 : stack = [] := by
    cases stack with
    | nil => rfl
    | cons f st => cases e4
  subst e1 e2 e3 e4
  obtain ⟨f1, f2, f3, f4, f5⟩ := Shared.forget_eq es
  have hl0 : leftWithCleanup s0.gens = false := by
    rw [← leftWithCleanup_forget, f5, leftWithCleanup_forget]
    exact hl
  have hst : PySem.step M.den M.prog M.w s0 ⟨leafOf r, code, pos, []⟩ = .halt (outcomeOf r) s0 := by
    cases r <;> simp [leafOf, outcomeOf, PySem.step, PySem.finish, hl0]
  have hcalm : Thread.calm ⟨leafOf r, code, pos, []⟩ = true := by
    cases r <;> simp [leafOf, Thread.calm, Thread.atCollectorCode, Thread.yieldsInsideHandler]
  refine ⟨1, r, s0, s, by simp only [PySem.runN, hst], ?_, es, h⟩
  have hsd : sstep M.den M.prog M.w (.single s0 ⟨leafOf r, code, pos, []⟩) = .halt (outcomeOf r) s0 := by
    rcases sstep_single M.den M.prog M.w s0 _ hcalm hz with e | e
    · rw [e, hst]; rfl
    · rw [hst] at e
      injection e with e _
      cases r <;> cases e
  simp only [schedN, hsd]
end LA
set_option Elab.async false
set_option linter.all false
set_option maxRecDepth 100000
namespace LA
open PySem
section
variable {M : Model} (G : Goal M)
theorem wp_goal {c : Code} {st : List Frame} {α : Type} (K : α → Sem Fin) (J : Value → Sem Fin) (gd : Bool → Bool) (lv : List Value → List Value) (m : Sem α) : ∀ {Q : α → Pos → Shared → Prop} {E : Value → Pos → Shared → Prop} {p : Pos} {s : Shared},
    Sem.wp M (Ctx.of c st) m Q E p s → (∀ a p' s', Q a p' s' → G.P s' ⟨K a, c, p', st⟩) → (∀ x p' s', E x p' s' → G.P s' ⟨J x, c, p', st⟩) → G.P s ⟨m.wrap K J gd lv, c, p, st⟩ := by
  induction m with
  | pure a => intro Q E p s h hQ _; exact hQ a p s h
  | raise x => intro Q E p s h _ hE; exact hE x p s h
  | unsupported what => intro Q E p s h; exact h.elim
  | finish x => intro Q E p s h; exact h.elim
  | register a k => intro Q E p s h; exact h.elim
  | yield v g l k => intro Q E p s h; exact h.elim
  | fork c k => intro Q E p s h; exact h.elim
  | await a f d l k => intro Q E p s h; exact h.elim
  | rule tag k ih => intro Q E p s h hQ hE; exact G.step (step_rule ..) (ih () h hQ hE)
  | «at» p' k ih => intro Q E p s h hQ hE; exact G.step (step_at ..) (ih () h hQ hE)
  | load a part k ih => intro Q E p s h hQ hE; obtain ⟨o, ho, h⟩ := h; exact G.step (step_load _ _ _ _ _ _ _ ho) (ih o h hQ hE)
  | update a part f k ih => intro Q E p s h hQ hE; exact G.step (step_update _ _ _ _ _ _ _ _ h.1) (ih () h.2 hQ hE)
  | loadIfAlive a k ih => intro Q E p s h hQ hE; exact G.step (step_loadIfAlive ..) (ih _ h hQ hE)
  | point l k ih => intro Q E p s h hQ hE; exact G.step (step_point ..) (ih () h hQ hE)
  | alloc o k ih => intro Q E p s h hQ hE; exact G.step (step_alloc ..) (ih _ h hQ hE)
  | fresh k ih => intro Q E p s h hQ hE; exact G.step (step_fresh ..) (ih _ h hQ hE)
  | ask k ih => intro Q E p s h hQ hE; exact G.step (step_ask ..) (ih _ h hQ hE)
  | choose src n k ih => intro Q E p s h hQ hE; exact G.step (step_choose _ _ _ _ _ _ _ h.1) (ih _ h.2 hQ hE)
  | os q l k ih => intro Q E p s h hQ hE; exact G.step (step_os ..) (ih _ h hQ hE)
  | call c' hd g l k ih =>
    intro Q E p s h hQ hE
    obtain ⟨r, s1, hr, h⟩ := h
    refine G.step (step_call ..) (G.reach (pre := []) (runs_reach hr _ ((Ctx.fits_of c st).enter c' _ hd _ _ p [])) fun t' c2 p2 pre hx => ?_)
    obtain ⟨rfl, rfl⟩ := hx
    exact G.step (step_leaf_ret ..) (ih r h hQ hE)
  | handled own k ih =>
    intro Q E p s h hQ hE
    refine G.step (step_handled ..) ?_
    have h2 := ih _ h hQ hE
    cases own <;> exact h2
  | genState g k ih => intro Q E p s h hQ hE; obtain ⟨x, hx, h⟩ := h; exact G.step (step_genState _ _ _ _ _ _ hx) (ih _ h hQ hE)
  | newGen c' k ih => intro Q E p s h hQ hE; exact G.step (step_newGen ..) (ih _ h hQ hE)
  | stack k ih => intro Q E p s h hQ hE; exact G.step (step_stack ..) (ih _ h hQ hE)
  | thread k ih => intro Q E p s h hQ hE; exact G.step (step_thread ..) (ih _ h hQ hE)
  | resume g r l k ih =>
    intro Q E p s h hQ hE
    obtain ⟨res, s1, hw, h⟩ := h
    unfold Wakes at hw
    cases hg : s.gens[g]? with
    | none => rw [hg] at hw; exact hw.elim
    | some x =>
      rw [hg] at hw
      cases x with
      | fresh c' =>
        cases r with
        | throw x => obtain ⟨rfl, rfl⟩ := hw; exact G.step (step_resume_throwFresh _ _ _ _ _ _ _ _ hg) (ih _ h hQ hE)
        | send v =>
          by_cases hv : v = .none
          · subst hv
            obtain ⟨e1, s2, hr, hq, rfl, rfl⟩ := hw
            refine G.step (step_resume_fresh _ _ _ _ _ _ _ hg) (G.reach (pre := []) (runs_reach hr _ ((Ctx.fits_of c st).wake c' g _ _ p)) fun t' c2 p2 pre hx => ?_)
            exact G.step (step_exit_gen _ _ _ _ _ _ _ hx hq) (ih _ h hQ hE)
          · have hw2 : res = .justStarted ∧ s1 = s := by
              cases v <;> first | exact absurd rfl hv | exact hw
            obtain ⟨rfl, rfl⟩ := hw2
            exact G.step (step_resume_justStarted _ _ _ _ _ _ _ hg hv) (ih _ h hQ hE)
      | suspended k0 l0 c0 p0 fs cl =>
        obtain ⟨e1, s2, hr, hq, rfl, rfl⟩ := hw
        refine G.step (step_resume_suspended _ _ _ _ _ _ _ _ hg) ?_
        refine G.reach (runs_reach hr _ ((Ctx.fits_of c st).wake c0 g _ _ p)) fun t' c2 p2 pre hx => ?_
        exact G.step (step_exit_gen _ _ _ _ _ _ _ hx hq) (ih _ h hQ hE)
      | running => obtain ⟨rfl, rfl⟩ := hw; exact G.step (step_resume_running _ _ _ _ _ _ _ _ hg) (ih _ h hQ hE)
      | finished => obtain ⟨rfl, rfl⟩ := hw; exact G.step (step_resume_finished _ _ _ _ _ _ _ _ hg) (ih _ h hQ hE)
end
/-! ### the judgement on trees and on codes, loud steps among them -/
def wpL (M : Model) (A : Around) {α : Type} (m : Sem α) (Q : α → Shared → Prop) (E : Value → Shared → Prop) (s : Shared) : Prop :=
  ∀ (G : Goal M) (c : Code) (st : List Frame) (p : Pos) (K : α → Sem Fin) (J : Value → Sem Fin) (gd : Bool → Bool) (lv : List Value → List Value), (Ctx.of c st).In A →
    (∀ a p' s', Q a s' → G.P s' ⟨K a, c, p', st⟩) → (∀ x p' s', E x s' → G.P s' ⟨J x, c, p', st⟩) → G.P s ⟨m.wrap K J gd lv, c, p, st⟩
def codeL (M : Model) (A : Around) (c : Code) (R : Result → Shared → Prop) (s : Shared) : Prop :=
  ∀ (G : Goal M) (st : List Frame) (p : Pos), (Ctx.of c st).Below A → (∀ r c' p' s', R r s' → G.P s' ⟨leafOf r, c', p', st⟩) → G.P s ⟨M.den c, c, p, st⟩
section
variable {M : Model} {A : Around} {α β : Type} {s : Shared} {E : Value → Shared → Prop}
theorem wpL_of {m : Sem α} {Q : α → Shared → Prop} (h : wpAny M A m Q E s) : wpL M A m Q E s := fun G c st p K J gd lv hin hK hJ => wp_goal G K J gd lv m (h (Ctx.of c st) p hin) (fun a p' s' q => hK a p' s' q) fun x p' s' q => hJ x p' s' q
theorem wpL_mono {E' : Value → Shared → Prop} {m : Sem α} {Q Q' : α → Shared → Prop} (h : wpL M A m Q E s) (hQ : ∀ a s, Q a s → Q' a s) (hE : ∀ e s, E e s → E' e s) : wpL M A m Q' E' s := fun G c st p K J gd lv hin hK hJ =>
  h G c st p K J gd lv hin (fun a p' s' q => hK a p' s' (hQ a s' q)) fun x p' s' q => hJ x p' s' (hE x s' q)
theorem wpL_pure {a : α} {Q : α → Shared → Prop} (h : Q a s) : wpL M A (pure a) Q E s := fun G c st p K J gd lv hin hK hJ => hK a p s h
theorem wpL_bind {m : Sem α} {f : α → Sem β} {Q : β → Shared → Prop} (h : wpL M A m (fun a s' => wpL M A (f a) Q E s') E s) : wpL M A (m >>= f) Q E s := fun G c st p K J gd lv hin hK hJ => by
  rw [Sem.bind_eq_wrap', Sem.wrap_wrap]
  exact h G c st p _ _ _ _ hin (fun a p' s' q => q G c st p' K J gd lv hin hK hJ) hJ
/-- the first part makes no loud step -/
theorem wpL_bind' {m : Sem α} {f : α → Sem β} {Q : β → Shared → Prop} (h : wpAny M A m (fun a s' => wpL M A (f a) Q E s') E s) : wpL M A (m >>= f) Q E s := wpL_bind (wpL_of h)
theorem wpL_attempt {m : Sem α} {Q : Except Value α → Shared → Prop} (h : wpL M A m (fun a => Q (.ok a)) (fun e => Q (.error e)) s) : wpL M A m.attempt Q E s := fun G c st p K J gd lv hin hK hJ => by
  unfold Sem.attempt
  rw [Sem.tryCatch_eq_wrap, Sem.bind_eq_wrap, Sem.wrap_wrap, Sem.wrap_wrap]
  exact h G c st p _ _ _ _ hin (fun a p' s' q => hK _ p' s' q) fun x p' s' q => hK _ p' s' q
theorem wpL_holding {vs : List Value} {m : Sem α} {Q : α → Shared → Prop} (h : wpL M A m Q E s) : wpL M A (holding vs m) Q E s := fun G c st p K J gd lv hin hK hJ => by
  unfold holding
  split
  · exact h G c st p K J gd lv hin hK hJ
  · rw [Sem.keep_eq_wrap, Sem.wrap_wrap]
    exact h G c st p _ _ _ _ hin hK hJ
theorem wpL_onRaise {m : Sem α} {f : Value → Sem Unit} {Q : α → Shared → Prop} (h : wpL M A m Q (fun e s' => wpL M A (f e) (fun _ s'' => E e s'') E s') s) : wpL M A (m.onRaise f) Q E s := fun G c st p K J gd lv hin hK hJ => by
  rw [Sem.onRaise_eq_wrap, Sem.wrap_wrap]
  refine h G c st p _ _ _ _ hin hK fun x p' s' q => ?_
  rw [Sem.bind_eq_wrap, Sem.wrap_wrap]
  exact q G c st p' _ _ _ _ hin (fun _ p2 s2 q2 => hJ x p2 s2 q2) hJ
theorem of_fits {Γ : Ctx} {st : List Frame} (h : Γ.Fits st) : Ctx.of Γ.code st = Γ := by
  obtain ⟨c, a1, a2, a3, a4⟩ := Γ
  obtain ⟨h1, h2, h3, h4⟩ := h
  simp only at h1 h2 h3 h4
  subst h1 h2 h3 h4
  rfl
theorem of_ret {c c' : Code} {k : Result → Sem Fin} {hd : Option Value} {g : Bool} {l kp : List Value} {p : Pos} {st : List Frame} : Ctx.of c' (.ret k hd g l c p kp :: st) = (Ctx.of c st).enter c' hd p :=
  of_fits ((Ctx.fits_of c st).enter c' k hd g l p kp)
theorem of_gen {c c' : Code} {g : Nat} {k : GenResult → Sem Fin} {l : List Value} {p : Pos} {st : List Frame} : Ctx.of c' (.gen g k l c p :: st) = (Ctx.of c st).wake c' p :=
  of_fits ((Ctx.fits_of c st).wake c' g k l p)
theorem wpL_node {c' : Code} {hd : Option Value} {g : Bool} {l : List Value} {k : Result → Sem α} {R : Result → Shared → Prop} {Q : α → Shared → Prop} (hc : codeL M (A.mark hd) c' R s) (hk : ∀ r s', R r s' → wpL M A (k r) Q E s') (hnb : hd ≠ some byPass := by intro x; cases x) :
    wpL M A (.call c' hd g l k) Q E s := fun G c st p K J gd lv hin hK hJ => by
  refine G.step (step_call ..) (hc G _ p ?_ fun r c2 p2 s' hr => G.step (step_leaf_ret ..) (hk r s' hr G c st p K J gd lv hin hK hJ))
  rw [of_ret]
  exact hin.enter c' hd p hnb
theorem wpL_run {c : Code} {hd : Option Value} {Q : Flow → Shared → Prop} (hc : codeL M (A.mark hd) c (fun r s' => match r with | .ok f => Q f s' | .error e => E e s') s) (hnb : hd ≠ some byPass := by intro x; cases x) : wpL M A (PySem.run c hd) Q E s := by
  unfold PySem.run
  refine wpL_node hc (fun r s' hr => ?_) hnb
  cases r with
  | ok f => exact wpL_pure hr
  | error e => exact fun G c st p K J gd lv hin hK hJ => hJ e p s' hr
theorem codeL_mono {c : Code} {R R' : Result → Shared → Prop} (h : codeL M A c R s) (hR : ∀ r s, R r s → R' r s) : codeL M A c R' s := fun G st p hb hQ => h G st p hb fun r c' p' s' hr => hQ r c' p' s' (hR r s' hr)
theorem mark_none : A.mark none = A := rfl
theorem wpL_runValue {c : Code} {Q : Value → Shared → Prop} (hc : codeL M A c (fun r s' => match r with | .ok (.ret v) => Q v s' | .ok _ => False | .error e => E e s') s) : wpL M A (runValue c) Q E s := by
  unfold runValue
  refine wpL_bind (wpL_mono (wpL_run (hd := none) (Q := fun f s' => ∃ v, f = .ret v ∧ Q v s') (codeL_mono hc fun r s' hr => ?_)) (fun f s' hf => ?_) fun _ _ x => x)
  · cases r with
    | ok f => cases f <;> first | exact ⟨_, rfl, hr⟩ | exact hr.elim
    | error e => exact hr
  · obtain ⟨v, rfl, hq⟩ := hf
    exact wpL_pure hq
theorem wpL_call {f : Value} {ps : List Value} {kw : List (Str × Value)} {Q : Value → Shared → Prop} (hc : codeL M A (.call f ⟨ps, kw⟩) (fun r s' => match r with | .ok (.ret v) => Q v s' | .ok _ => False | .error e => E e s') s) : wpL M A (call f ps kw) Q E s := wpL_runValue hc
theorem codeL_of {c : Code} {R : Result → Shared → Prop} (h : codeAny M A c R s) : codeL M A c R s := fun G st p hb hR => by
  obtain ⟨r, s', hr, hq⟩ := h (Ctx.of c st) p rfl hb
  refine G.reach (pre := []) (runs_reach hr st (Ctx.fits_of c st)) fun t' c' p' pre hx => ?_
  obtain ⟨rfl, rfl⟩ := hx
  exact hR r c' p' s' hq
theorem wrap_id (m : Sem α) : m.wrap .pure .raise id id = m := by
  induction m <;> simp only [Sem.wrap, id, *]
theorem codeL_tree {c : Code} {R : Result → Shared → Prop}
    (h : wpL M (A.under c) (M.den c) (fun fin s' => match fin with | .done f => R (.ok f) s' | .again c' => c'.quiet = true ∧ codeL M A c' R s') (fun e s' => R (.error e) s') s) : codeL M A c R s := fun G st p hb hR => by
  have k := h G c st p .pure .raise id id hb.in (fun fin p' s' q => ?_) fun x p' s' q => hR (.error x) c p' s' q
  · rw [wrap_id] at k
    exact k
  · cases fin with
    | done f => exact hR (.ok f) c p' s' q
    | again c' =>
      obtain ⟨q1, q2⟩ := q
      exact G.step (step_again _ _ _ _ _ _ q1) (q2 G st p' (hb.goto c') hR)
end
theorem codeL_builtin {prog : Program} {w : World} {A : Around} {s : Shared} {R : Result → Shared → Prop} {id : String} {args : Args} {b : Builtin} (hb : entryFor table id = some b)
    (h : wpL (model prog w) (A.under (.builtin id args)) (b args) (fun fin s' => match fin with | .done f => R (.ok f) s' | .again c' => c'.quiet = true ∧ codeL (model prog w) A c' R s') (fun e s' => R (.error e) s') s) : codeL (model prog w) A (.builtin id args) R s := by
  refine codeL_tree ?_
  show wpL _ _ (match entryFor table id with | some b => b args | none => unsupported ((withoutEnding? id "#data").getD id)) _ _ s
  rw [hb]
  exact h
end LA
set_option Elab.async false
set_option linter.all false
set_option maxRecDepth 100000
namespace LA
open PySem
/-! ### a generator's run between two turns, loud ones among them -/
/-- how it may hand out: by its own yield, or what its delegate has handed out -/
def YOk (s : Shared) (c : Code) (g : Bool) (fs : List Frame) : Prop := fs.any Frame.guarded = false ∧ (g = false ∨ g = true ∧ ∃ it as kw, c = .builtin "proto.yield_from" ⟨it :: as, kw⟩ ∧ Dlg s it)
def SegL (M : Model) (A : Around) (R : GenEnd) (Y : Protocol) : Nat → Shared → Code → Sem Fin → List Frame → Shared → Prop
  | 0 => fun s₀ c t fs s => ∀ (G : Goal M) (base : List Frame) (p : Pos), (Ctx.of c base).Woken A → (∀ r c' p' s', R 0 s₀ r s' → G.P s' ⟨leafOf r, c', p', base⟩) → G.P s ⟨t, c, p, fs ++ base⟩
  | n + 1 => fun s₀ c t fs s => ∀ (G : Goal M) (base : List Frame) (p : Pos), (Ctx.of c base).Woken A → (∀ r c' p' s', R (n + 1) s₀ r s' → G.P s' ⟨leafOf r, c', p', base⟩) →
      (∀ v g l k c' p' fs' s', YOk s' c' g fs' → splitAtGen fs' = none → Y n s₀ v s' (fun r s'' => SegL M A R Y n s'' c' (k r) fs' s'') → G.P s' ⟨.yield v g l k, c', p', fs' ++ base⟩) → G.P s ⟨t, c, p, fs ++ base⟩
/-- what is wanted at a yield -/
def YG (M : Model) (A : Around) (R : GenEnd) (Y : Protocol) (G : Goal M) (base : List Frame) : Nat → Shared → Prop
  | 0 => fun _ => True
  | n + 1 => fun s₀ => ∀ v g l k c' p' fs' s', YOk s' c' g fs' → splitAtGen fs' = none → Y n s₀ v s' (fun r s'' => SegL M A R Y n s'' c' (k r) fs' s'') → G.P s' ⟨.yield v g l k, c', p', fs' ++ base⟩
section
variable {M : Model} {A : Around} {R : GenEnd} {Y : Protocol} {n : Nat} {s₀ s : Shared} {c : Code} {fs : List Frame} {t : Sem Fin}
theorem segL_iff : SegL M A R Y n s₀ c t fs s ↔ ∀ (G : Goal M) (base : List Frame) (p : Pos), (Ctx.of c base).Woken A → (∀ r c' p' s', R n s₀ r s' → G.P s' ⟨leafOf r, c', p', base⟩) → YG M A R Y G base n s₀ → G.P s ⟨t, c, p, fs ++ base⟩ := by
  cases n with
  | zero => exact ⟨fun h G base p hw hR _ => h G base p hw hR, fun h G base p hw hR => h G base p hw hR trivial⟩
  | succ n => exact Iff.rfl
theorem of_over {base : List Frame} : Ctx.of c (fs ++ base) = (Ctx.of c base).over fs := Ctx.of_append c fs base
theorem segL_wrapL {α : Type} {m : Sem α} {K : α → Sem Fin} {J : Value → Sem Fin} {gd : Bool → Bool} {lv : List Value → List Value}
    (h : wpL M (A.over c fs) m (fun a s' => SegL M A R Y n s₀ c (K a) fs s') (fun x s' => SegL M A R Y n s₀ c (J x) fs s') s) : SegL M A R Y n s₀ c (m.wrap K J gd lv) fs s := by
  rw [segL_iff]
  intro G base p hw hR hY
  refine h G c (fs ++ base) p K J gd lv ?_ (fun a p' s' q => segL_iff.mp q G base p' hw hR hY) fun x p' s' q => segL_iff.mp q G base p' hw hR hY
  rw [of_over]
  exact hw.over fs
theorem segL_wrap {α : Type} {m : Sem α} {K : α → Sem Fin} {J : Value → Sem Fin} {gd : Bool → Bool} {lv : List Value → List Value}
    (h : wpAny M (A.over c fs) m (fun a s' => SegL M A R Y n s₀ c (K a) fs s') (fun x s' => SegL M A R Y n s₀ c (J x) fs s') s) : SegL M A R Y n s₀ c (m.wrap K J gd lv) fs s := segL_wrapL (wpL_of h)
theorem segL_bind {α : Type} {m : Sem α} {K : α → Sem Fin} (h : wpAny M (A.over c fs) m (fun a s' => SegL M A R Y n s₀ c (K a) fs s') (fun x s' => SegL M A R Y n s₀ c (.raise x) fs s') s) : SegL M A R Y n s₀ c (m >>= K) fs s := by
  rw [Sem.bind_eq_wrap']
  exact segL_wrap h
theorem segL_bindL {α : Type} {m : Sem α} {K : α → Sem Fin} (h : wpL M (A.over c fs) m (fun a s' => SegL M A R Y n s₀ c (K a) fs s') (fun x s' => SegL M A R Y n s₀ c (.raise x) fs s') s) : SegL M A R Y n s₀ c (m >>= K) fs s := by
  rw [Sem.bind_eq_wrap']
  exact segL_wrapL h
theorem segL_bind_wrap {α β : Type} {m : Sem α} {K : α → Sem β} {K' : β → Sem Fin} {J' : Value → Sem Fin} {gd : Bool → Bool} {lv : List Value → List Value}
    (h : wpAny M (A.over c fs) m (fun a s' => SegL M A R Y n s₀ c ((K a).wrap K' J' gd lv) fs s') (fun x s' => SegL M A R Y n s₀ c (J' x) fs s') s) : SegL M A R Y n s₀ c ((m >>= K).wrap K' J' gd lv) fs s := by
  rw [Sem.bind_eq_wrap', Sem.wrap_wrap]
  exact segL_wrap h
theorem segL_at {p' : Pos} {k : Unit → Sem Fin} (h : SegL M A R Y n s₀ c (k ()) fs s) : SegL M A R Y n s₀ c (.at p' k) fs s :=
  segL_wrap (m := standAt p') (K := k) (J := .raise) (gd := id) (lv := id) (wpAny_standAt h)
theorem segL_point {l : List Value} {k : Unit → Sem Fin} (h : SegL M A R Y n s₀ c (k ()) fs s) : SegL M A R Y n s₀ c (.point l k) fs s :=
  segL_wrap (m := point) (K := k) (J := .raise) (gd := id) (lv := fun _ => l) (wpAny_point h)
theorem segL_call {c' : Code} {hd : Option Value} {g : Bool} {l : List Value} {k : Result → Sem Fin} (hc : ∀ p, SegL M A R Y n s₀ c' (M.den c') (.ret k hd g l c p [] :: fs) s) : SegL M A R Y n s₀ c (.call c' hd g l k) fs s := by
  rw [segL_iff]
  intro G base p hw hR hY
  exact G.step (step_call ..) (segL_iff.mp (hc p) G base p (hw.goto c') hR hY)
theorem segL_leaf {k : Result → Sem Fin} {hd : Option Value} {g : Bool} {l kp : List Value} {c₁ : Code} {p₁ : Pos} (r : Result) (hk : SegL M A R Y n s₀ c₁ (k r) fs s) : SegL M A R Y n s₀ c (leafOf r) (.ret k hd g l c₁ p₁ kp :: fs) s := by
  rw [segL_iff]
  intro G base p hw hR hY
  exact G.step (step_leaf_ret ..) (segL_iff.mp hk G base p₁ (hw.goto c₁) hR hY)
theorem segL_again {c' : Code} (hq : c'.quiet = true) (hc : SegL M A R Y n s₀ c' (M.den c') fs s) : SegL M A R Y n s₀ c (.pure (.again c')) fs s := by
  rw [segL_iff]
  intro G base p hw hR hY
  exact G.step (step_again _ _ _ _ _ _ hq) (segL_iff.mp hc G base p (hw.goto c') hR hY)
theorem segL_end (r : Result) (h : R n s₀ r s) : SegL M A R Y n s₀ c (leafOf r) [] s := by
  rw [segL_iff]
  intro G base p hw hR hY
  exact hR r c p s h
theorem segL_yield {v : Value} {g : Bool} {l : List Value} {k : Resume → Sem Fin} (hfs : splitAtGen fs = none) (hg : YOk s c g fs) (h : Y n s₀ v s fun r s'' => SegL M A R Y n s'' c (k r) fs s'') : SegL M A R Y (n + 1) s₀ c (.yield v g l k) fs s := by
  rw [segL_iff]
  intro G base p hw hR hY
  exact hY v g l k c p fs s hg hfs h
theorem segL_imp {R' : GenEnd} {Y' : Protocol} (hR : ∀ n s₀ r s, R n s₀ r s → R' n s₀ r s) (hY : ∀ n s₀ v s kap kap', (∀ r s', kap r s' → kap' r s') → Y n s₀ v s kap → Y' n s₀ v s kap') :
    ∀ (n : Nat) {s₀ : Shared} {c : Code} {t : Sem Fin} {fs : List Frame} {s : Shared}, SegL M A R Y n s₀ c t fs s → SegL M A R' Y' n s₀ c t fs s := by
  intro n
  induction n with
  | zero => exact fun h G base p hw hR' => h G base p hw fun r c' p' s' q => hR' r c' p' s' (hR _ _ _ _ q)
  | succ n ih => exact fun h G base p hw hR' hY' => h G base p hw (fun r c' p' s' q => hR' r c' p' s' (hR _ _ _ _ q)) fun v g l k c' p' fs' s' h1 h2 h3 => hY' v g l k c' p' fs' s' h1 h2 (hY _ _ _ _ _ _ (fun r s'' z => ih z) h3)
end
/-! ### a generator is woken -/
def GoesL (M : Model) (A : Around) (R : GenEnd) (Y : Protocol) (n : Nat) (gs : GenState) (r : Resume) (s : Shared) : Prop :=
  match gs with
  | .fresh c => r = .send .none ∧ SegL M A R Y n s c (M.den c) [] s
  | .suspended k _ c _ fs _ => SegL M A R Y n s c (k r) fs s
  | _ => False
theorem goal_yield {M : Model} (G : Goal M) {s : Shared} {v : Value} {g0 : Bool} {l0 l : List Value} {k0 : Resume → Sem Fin} {c1 c : Code} {p1 p : Pos} {fs1 st : List Frame} {g : Nat} {k : GenResult → Sem Fin} (hy : YOk s c1 g0 fs1) (hs : splitAtGen fs1 = none)
    (h : G.P (s.setGen g (.suspended k0 l0 c1 p1 fs1 g0)) ⟨k (.yielded v), c, p, st⟩) : G.P s ⟨.yield v g0 l0 k0, c1, p1, fs1 ++ .gen g k l c p :: st⟩ := by
  have sp : splitAtGen (fs1 ++ .gen g k l c p :: st) = some (fs1, (g, k, c, p), st) := by
    rw [splitAtGen_append_none _ hs, splitAtGen_gen]
    simp
  obtain ⟨h1, h2⟩ := hy
  have e : stepK M.den M.prog M.w s ⟨.yield v g0 l0 k0, c1, p1, fs1 ++ .gen g k l c p :: st⟩ = .go (s.setGen g (.suspended k0 l0 c1 p1 fs1 g0)) ⟨k (.yielded v), c, p, st⟩ := by
    obtain ⟨heap, gens, drawn, toks, os⟩ := s
    simp only [stepK, PySem.step, sp, h1, Bool.or_false]
    rfl
  refine G.back _ _ _ _ ?_ e h
  rcases h2 with rfl | ⟨rfl, it, as, kw, rfl, hd⟩
  · refine .inl ?_
    simp [Thread.calm, Thread.atCollectorCode, Thread.yieldsInsideHandler, sp, h1]
  · exact .inr ⟨v, l0, k0, it, as, kw, fs1, _, st, rfl, rfl, sp, h1, hd⟩
theorem wpL_resume {M : Model} {A : Around} {R : GenEnd} {Y : Protocol} {n : Nat} {E : Value → Shared → Prop} {s : Shared} {g : Nat} {gs : GenState} {r : Resume} {l : List Value} {α : Type} {k : GenResult → Sem α} {Q : α → Shared → Prop} (hg : s.gens[g]? = some gs)
    (hgo : GoesL M A R Y n gs r (s.setGen g .running)) (hR : ∀ x s₁, R n (s.setGen g .running) x s₁ → wpL M A (k (End.ret x).result) Q E (s₁.setGen g .finished))
    (hY : ∀ v s₁ gs', (∀ m, n = m + 1 → Y m (s.setGen g .running) v s₁ fun r' s'' => GoesL M A R Y m gs' r' s'') → n ≠ 0 → wpL M A (k (.yielded v)) Q E (s₁.setGen g gs')) : wpL M A (.resume g r l k) Q E s := by
  intro G c st p K J gd lv hin hK hJ
  have hB : ∀ c', (Ctx.of c' (.gen g (fun x => (k x).wrap K J gd lv) (lv l) c p :: st)).Woken A := fun c' => by
    rw [of_gen]
    exact hin.wake c' p
  have hR' : ∀ r' c' p' s', R n (s.setGen g .running) r' s' → G.P s' ⟨leafOf r', c', p', .gen g (fun x => (k x).wrap K J gd lv) (lv l) c p :: st⟩ := fun r' c' p' s' q => G.step (step_leaf_gen ..) (hR r' s' q G c st p K J gd lv hin hK hJ)
  have hY' : YG M A R Y G (.gen g (fun x => (k x).wrap K J gd lv) (lv l) c p :: st) n (s.setGen g .running) := by
    cases n with
    | zero => trivial
    | succ m =>
      intro v g0 l0 k0 c1 p1 fs1 s1 h1 h2 h3
      exact goal_yield G h1 h2 (hY v s1 (.suspended k0 l0 c1 p1 fs1 g0) (fun m' e => by cases e; exact h3) (by simp) G c st p K J gd lv hin hK hJ)
  cases gs with
  | fresh c0 =>
    obtain ⟨rfl, hs⟩ := hgo
    exact G.step (step_resume_fresh _ _ _ _ _ _ _ hg) (segL_iff.mp hs G _ p (hB c0) hR' hY')
  | suspended k0 l0 c0 p0 fs cl => exact G.step (step_resume_suspended _ _ _ _ _ _ _ _ hg) (segL_iff.mp hgo G _ p0 (hB c0) hR' hY')
  | running => exact hgo.elim
  | finished => exact hgo.elim
end LA
set_option Elab.async false
set_option linter.all false
set_option maxRecDepth 100000
set_option maxHeartbeats 1000000
namespace GX
open PySem PySem.Spec PyProof.Rows GenW L2 LA

section
variable {P : Program} {w : World} {A : Around} {s : Shared}
theorem codeL_call_builtin {R : Result → Shared → Prop} {id : String} {args : Args} {b : Builtin} (hq : plainId id = true) (hb : entryFor table id = some b)
    (h : wpAny (model P w) A.in1 (checkBuiltinCall id args) (fun _ s₁ => wpL (model P w) A.in1 (b args) (fun fin s' => match fin with | .done f => R (.ok f) s' | .again c' => c'.quiet = true ∧ codeL (model P w) A c' R s') (fun e s' => R (.error e) s') s₁)
      (fun e s' => R (.error e) s') s) : codeL (model P w) A (.call (.builtin id) args) R s := by
  refine codeL_tree ?_
  show wpL _ A.in1 (checkBuiltinCall id args >>= fun _ => again (.builtin id args)) _ _ s
  refine wpL_bind' (wpAny_mono h (fun _ s₁ h₁ => wpL_pure ⟨plainId_quiet hq args, codeL_builtin hb ?_⟩) fun _ _ x => x)
  rw [Around.under_plainId hq args]
  exact h₁
variable {E : Value → Shared → Prop}
/-- a special method of a built-in kind -/
theorem wpL_special {self : Value} {T : String} {name : Str} {id : String} {b : Builtin} {Q : Option Value → Shared → Prop} (hT : s.TypeIs self T) (h : Slot T name id) (hb : entryFor table id = some b) (ha : argsOk id ⟨[self], []⟩)
    (hc : wpL (model P w) A.in1 (b ⟨[self], []⟩) (fun fin s' => ∃ v, fin = .done (.ret v) ∧ Q (some v) s') E s) : wpL (model P w) A (callSpecial? self name) Q E s := by
  simp only [callSpecial?]
  refine wpL_bind' (wpAny_specialOf hT h.lookup ?_)
  simp only [h.bind]
  refine wpL_holding (wpL_bind' (wpAny_pure (wpL_bind (wpL_mono (wpL_call (Q := fun v s' => Q (some v) s') (codeL_call_builtin h.plain hb (h.check _ _ _ _ _ _ _ _ hT ha ?_))) (fun v s' h' => wpL_pure h') fun _ _ x => x))))
  refine wpL_mono hc (fun fin s' h' => ?_) fun _ _ x => x
  obtain ⟨v, rfl, hv⟩ := h'
  exact hv
/-- how a generator's run ends: no exception leaves it -/
def GEnd (F : Nat → Shared → Shared → Prop) : GenEnd := fun n s₀ r s₁ => (r = .ok (.ret .none) ∨ r = .ok .next) ∧ F n s₀ s₁
theorem call_next {a : Addr} {g n : Nat} {gs : GenState} {o : Obj} {F : Nat → Shared → Shared → Prop} {Y : Protocol} {Q : Option Value → Shared → Prop} (hh : A.handled = none)
    (hl : s.heap.NoLimit) (hroom : A.depth < recursionLimit) (ho : s.heap.get? a = some o) (hg : GOb g 0 o) (hgs : s.gens[g]? = some gs)
    (hgo : GoesL (model P w) A.in1 (GEnd F) Y n gs (.send .none) (s.setGen g .running))
    (hY : ∀ v s₁ gs' m, n = m + 1 → Y m (s.setGen g .running) v s₁ (fun r' s'' => GoesL (model P w) A.in1 (GEnd F) Y m gs' r' s'') → Q (some v) (s₁.setGen g gs'))
    (hP : ∀ s₁, F n (s.setGen g .running) s₁ → ∀ e h', StopX e h' → (∀ b o, s₁.heap.get? b = some o → h'.get? b = some o) → E e { s₁.setGen g .finished with heap := h' }) :
    wpL (model P w) A (callSpecial? (.ref a) "__next__") Q E s := by
  have ty : s.TypeIs (.ref a) "generator" := ⟨o, ho, hg.1⟩
  refine wpL_special (name := Str.ofString "__next__") ty slot_gen_next entry_gen_next (args_gen_next _) ?_
  show wpL _ A.in1 (Builtin.Generator.genWake (.ref a) (.send .none)) _ _ s
  unfold Builtin.Generator.genWake
  refine wpL_bind (wpL_holding (wpL_of (wpAny_genNumber0 ho hg ?_)))
  refine wpL_bind' (wpAny_genState hgs ?_)
  have hres : ∀ s₁, F n (s.setGen g .running) s₁ → ∀ x, x = .ok (.ret .none) ∨ x = .ok .next → End.result (.ret x) = .returned .none := fun s₁ _ x hr => by rcases hr with hr | hr <;> rw [hr] <;> rfl
  cases gs with
  | running => exact hgo.elim
  | finished => exact hgo.elim
  | _ =>
    refine wpL_bind' (wpAny_roomToWake hl hroom ?_)
    show wpL _ A.in1 (.resume g (.send .none) [] _) _ _ s
    refine wpL_resume hgs hgo (fun x s₁ hx => ?_) (fun v s₁ gs' hv hn => ?_)
    · obtain ⟨hr, hp⟩ := hx
      first | rw [hres s₁ hp x hr] | simp only [hres s₁ hp x hr]
      refine wpL_of ?_
      show wpAny _ A.in1 (newExc (.type "StopIteration") [] >>= _) _ _ _
      refine wpAny_bind ?_
      simp only [newExc, newTuple]
      refine wpAny_bind (wpAny_newObj_type ?_ (by size_fits))
      refine wpAny_bind (m := firstArgMember _ _) (wpAny_of_eq (a := Value.none) (by first | rfl | (simp only [firstArgMember]; rfl)) ?_)
      refine wpAny_newObj_type ?_ (by size_fits)
      simp only [raiseNew]
      refine wpAny_bind (wpAny_bind (wpAny_handled ?_))
      first | rw [show A.in1.handled = none from hh] | rw [hh]
      refine wpAny_throw ?_
      exact hP s₁ hp _ _ ⟨_, _, _, rfl, Heap.get?_push_size _ rfl, rfl, rfl, rfl⟩ fun b o hb => Heap.get?_push_of_some _ (Heap.get?_push_of_some _ hb)
    · obtain ⟨m, rfl⟩ : ∃ m, n = m + 1 := ⟨n - 1, by omega⟩
      exact wpL_pure ⟨v, rfl, hY v s₁ gs' m rfl (hv m rfl)⟩
theorem next_genL {a : Addr} {g n : Nat} {gs : GenState} {o : Obj} {F : Nat → Shared → Shared → Prop} {Y : Protocol} {Q : Option Value → Shared → Prop} (hh : A.handled = none)
    (hl : s.heap.NoLimit) (hroom : A.depth < recursionLimit) (ho : s.heap.get? a = some o) (hg : GOb g 0 o) (hgs : s.gens[g]? = some gs)
    (hgo : GoesL (model P w) A.in1 (GEnd F) Y n gs (.send .none) (s.setGen g .running))
    (hY : ∀ v s₁ gs' m, n = m + 1 → Y m (s.setGen g .running) v s₁ (fun r' s'' => GoesL (model P w) A.in1 (GEnd F) Y m gs' r' s'') → Q (some v) (s₁.setGen g gs'))
    (hP : ∀ s₁, F n (s.setGen g .running) s₁ → ∀ h', (∀ b o, s₁.heap.get? b = some o → h'.get? b = some o) → Q none { s₁.setGen g .finished with heap := h' }) :
    wpL (model P w) A (pyNext (.ref a)) Q E s := by
  unfold pyNext
  refine wpL_bind (wpL_attempt (call_next hh hl hroom ho hg hgs hgo (fun v s₁ gs' m e hv => ?_) (fun s₁ hp e h' hS hk => ?_)))
  · exact wpL_pure (hY v s₁ gs' m e hv)
  · obtain ⟨a', o', vs, rfl, ho', hc, _, _⟩ := hS
    refine wpL_bind' (wpAny_isInstance (T := "StopIteration") (b := true) ⟨o', ho', hc⟩ isSubtype_stop ?_)
    exact wpL_pure (hP s₁ hp h' hk)
end
end GX
set_option Elab.async false
set_option linter.all false
set_option maxRecDepth 100000
set_option maxHeartbeats 1000000
namespace GX
open PySem PySem.Spec PyProof.Rows GenW L2 LA

/-- S: the list that the last consumer fills; Z: the objects of the generators that run or sleep over one another, this one's among them, with their numbers; N: above their numbers -/
structure Gz where
  S : Addr
  Z : List (Addr × Nat)
  N : Nat
def Gz.as (C : Gz) : List Addr := C.S :: C.Z.map (·.1)
theorem Gz.mem_as {C : Gz} {b : Addr} : b ∈ C.as ↔ b = C.S ∨ ∃ p ∈ C.Z, p.1 = b := by
  unfold Gz.as
  rw [List.mem_cons, List.mem_map]
/-- while it sleeps -/
structure Slp (C : Gz) (v : Value) (s s' : Shared) : Prop where
  os : s'.os = s.os
  bareZ : ∀ p ∈ C.Z, ∀ x, s'.gens[p.2]? = some x → x.bare = true
  gsz : s.gens.size ≤ s'.gens.size
  gens : ∀ j, (∀ p ∈ C.Z, p.2 ≠ j) → s'.gens[j]? = s.gens[j]?
  keep : ∀ b o, b ∉ C.as → s.heap.get? b = some o → s'.heap.get? b = some o
  own : ∀ acc c, s.heap.get? C.S = some (lstObj acc c) → ∃ c', s'.heap.get? C.S = some (lstObj (acc.push v) c')
  gob : ∀ p ∈ C.Z, ∀ o, s.heap.get? p.1 = some o → GOb p.2 0 o → ∃ o', s'.heap.get? p.1 = some o' ∧ GOb p.2 0 o'
theorem Slp.bare {C : Gz} {v : Value} {s s' : Shared} (z : Slp C v s s') (h : AllBare s.gens) : AllBare s'.gens := fun x hx => by
  obtain ⟨j, hj, rfl⟩ := Array.mem_iff_getElem.mp hx
  have e : s'.gens[j]? = some s'.gens[j] := Array.getElem?_eq_getElem hj
  by_cases m : ∃ p ∈ C.Z, p.2 = j
  · obtain ⟨p, hp, rfl⟩ := m
    exact z.bareZ p hp _ e
  · have q := z.gens j fun p hp e => m ⟨p, hp, e⟩
    rw [e] at q
    exact h _ (Array.mem_of_getElem? q.symm)
/-- its objects as they stand -/
def PZ : List (Addr × Nat) → List (Addr × Obj) → Prop
  | [], zp => zp = []
  | p :: Z, zp => ∃ o r, zp = (p.1, o) :: r ∧ GOb p.2 0 o ∧ PZ Z r
theorem PZ.fst : ∀ {Z : List (Addr × Nat)} {zp : List (Addr × Obj)}, PZ Z zp → zp.map (·.1) = Z.map (·.1)
  | [], zp, h => by
    have h : zp = [] := h
    rw [h]; rfl
  | p :: Z, zp, ⟨o, r, e, g, h⟩ => by
    rw [e]
    show p.1 :: r.map (·.1) = p.1 :: Z.map (·.1)
    rw [h.fst]
theorem PZ.get : ∀ {Z : List (Addr × Nat)} {zp : List (Addr × Obj)}, PZ Z zp → ∀ p ∈ Z, ∃ o, (p.1, o) ∈ zp ∧ GOb p.2 0 o
  | [], zp, h, p, hp => by cases hp
  | q :: Z, zp, ⟨o, r, e, g, h⟩, p, hp => by
    subst e
    rcases List.mem_cons.mp hp with rfl | hp
    · exact ⟨o, List.mem_cons_self, g⟩
    · obtain ⟨o', h1, h2⟩ := h.get p hp
      exact ⟨o', List.mem_cons_of_mem _ h1, h2⟩
theorem PZ.make {R : Addr × Obj → Prop} : ∀ {Z : List (Addr × Nat)}, (∀ p ∈ Z, ∃ o, GOb p.2 0 o ∧ R (p.1, o)) → ∃ zp, PZ Z zp ∧ ∀ q ∈ zp, R q
  | [], _ => ⟨[], rfl, fun q h => by cases h⟩
  | p :: Z, h => by
    obtain ⟨o, h1, h2⟩ := h p List.mem_cons_self
    obtain ⟨zp, h3, h4⟩ := PZ.make fun q hq => h q (List.mem_cons_of_mem _ hq)
    exact ⟨(p.1, o) :: zp, ⟨o, zp, rfl, h1, h3⟩, fun q hq => (List.mem_cons.mp hq).elim (fun e => e ▸ h2) (h4 q)⟩
def Apt (X : Cx) (b : Addr) : Prop := (b ∈ X.ex ∨ X.s_0.heap.objs.size ≤ b) ∧ b ≠ X.env.locals ∧ ∀ x c, X.env.cells.lookup x = some c → c ≠ b
/-- running: ys is out -/
def GJ (X : Cx) (C : Gz) (ip : List (Addr × Obj)) (ys : List V) (σ : L2.St) (H : Hp) (s : Shared) : Prop :=
  C.N ≤ s.gens.size ∧ ∃ (acc : Array Value) (c : Nat) (zp : List (Addr × Obj)), Vals ys acc.toList ∧ PZ C.Z zp ∧ Inv X ((C.S, lstObj acc c) :: (zp ++ ip)) σ H s
section
variable {X : Cx} {C : Gz} {ip : List (Addr × Obj)} {ys : List V} {σ : L2.St} {H : Hp} {s : Shared}
theorem GJ.inv (h : GJ X C ip ys σ H s) : Inv X ip σ H s := by
  obtain ⟨_, acc, c, zp, _, _, I⟩ := h
  exact I.pins_of fun p hp => I.pin p (List.mem_append_right _ (List.mem_cons_of_mem _ (List.mem_append_right _ hp)))
theorem GJ.atS (h : GJ X C ip ys σ H s) : H C.S = none ∧ C.S ≠ X.env.locals ∧ C.S ∉ X.fs ∧ ∃ (acc : Array Value) (c : Nat), Vals ys acc.toList ∧ s.heap.get? C.S = some (lstObj acc c) := by
  obtain ⟨_, acc, c, zp, r, _, I⟩ := h
  obtain ⟨h1, h2, h3, h4, _⟩ := I.pin (C.S, lstObj acc c) (List.mem_append_right _ List.mem_cons_self)
  exact ⟨h2, h3, h4, acc, c, r, h1⟩
theorem GJ.atZ (h : GJ X C ip ys σ H s) : ∀ p ∈ C.Z, H p.1 = none ∧ p.1 ≠ X.env.locals ∧ p.1 ∉ X.fs ∧ ∃ o, s.heap.get? p.1 = some o ∧ GOb p.2 0 o := fun p hp => by
  obtain ⟨_, acc, c, zp, r, z, I⟩ := h
  obtain ⟨o, hm, hg⟩ := z.get p hp
  obtain ⟨h1, h2, h3, h4, _⟩ := I.pin (p.1, o) (List.mem_append_right _ (List.mem_cons_of_mem _ (List.mem_append_left _ hm)))
  exact ⟨h2, h3, h4, o, h1, hg⟩
theorem GJ.mk (hN : C.N ≤ s.gens.size) (I : Inv X ip σ H s) {acc : Array Value} {c : Nat} (r : Vals ys acc.toList) (hS : s.heap.get? C.S = some (lstObj acc c)) (hS1 : H C.S = none ∧ C.S ≠ X.env.locals ∧ C.S ∉ X.fs)
    (hZ : ∀ p ∈ C.Z, ∃ o, GOb p.2 0 o ∧ s.heap.get? p.1 = some o ∧ H p.1 = none ∧ p.1 ≠ X.env.locals ∧ p.1 ∉ X.fs) : GJ X C ip ys σ H s := by
  obtain ⟨zp, z1, z2⟩ := PZ.make (R := fun q => s.heap.get? q.1 = some q.2 ∧ H q.1 = none ∧ q.1 ≠ X.env.locals ∧ q.1 ∉ X.fs ∧ ∀ v, q.2.data ≠ .cell v) fun p hp => by
    obtain ⟨o, h1, h2, h3, h4, h5⟩ := hZ p hp
    exact ⟨o, h1, h2, h3, h4, h5, h1.nocell⟩
  refine ⟨hN, acc, c, zp, r, z1, I.pins_of fun p hp => ?_⟩
  rcases List.mem_cons.mp hp with rfl | hp
  · exact ⟨hS, hS1.1, hS1.2.1, hS1.2.2, fun v q => by cases q⟩
  · rcases List.mem_append.mp hp with hp | hp
    · exact z2 p hp
    · exact I.pin p (List.mem_append_right _ hp)
/-- the objects at these addresses have changed, all else stands -/
theorem inv_ch {s' : Shared} {ch : List Addr} (I : Inv X ip σ H s) (os : s'.os = s.os) (bare : AllBare s'.gens) (apt : ∀ b ∈ ch, Apt X b) (hn : ∀ b ∈ ch, H b = none) (hp : ∀ p ∈ X.pn ++ ip, ∀ b ∈ ch, p.1 ≠ b)
    (keep : ∀ b o, b ∉ ch → s.heap.get? b = some o → s'.heap.get? b = some o) : Inv X ip σ H s' := by
  obtain ⟨hh, g, d, t, o⟩ := s'
  have ho : o = s.os := os
  subst ho
  have keep : ∀ b o, b ∉ ch → s.heap.get? b = some o → hh.get? b = some o := keep
  refine I.step (g' := g) (t' := t) (d' := d) (ch := ch) (fun b hb => ⟨(apt b hb).1, (apt b hb).2.1, (apt b hb).2.2, fun p hq => hp p hq b hb⟩)
    (fun b ob _ _ hc q _ => keep b ob hc q) (fun b ob _ _ hc q _ => ⟨ob.slots, keep b ob hc q⟩) (fun _ _ _ _ n => n) (fun b ob hc q => ⟨ob, keep b ob hc q⟩)
    (fun _ _ q => q) (fun _ _ _ q => q) (fun b ps q => ⟨#[], by rw [q]; simp⟩) (fun m hm => ?_) (fun b u q => ?_) bare
  · obtain ⟨ob, es, ep, ho, r⟩ := hm
    exact ⟨ob, es, ep, keep _ ob (fun z => (apt _ z).2.1 rfl) ho, r⟩
  · refine (I.hok b u q).stay (fun c v hc y => keep c v (fun z => ?_) y) (fun _ y => y) fun _ _ y => y
    have hz := hn c z
    rcases hc with y | y
    · rw [y, q] at hz; cases hz
    · rw [y] at hz; cases hz
/-- where the generator's code stands -/
structure GC (X : Cx) (C : Gz) (ip : List (Addr × Obj)) (A : Around) (c : Code) (fs : List Frame) (gd : Bool → Bool) : Prop where
  ip : ∀ p ∈ X.pn ++ ip, ∀ b ∈ C.as, p.1 ≠ b
  apt : ∀ b ∈ C.as, Apt X b
  zn : ∀ p ∈ C.Z, p.2 < C.N
  over : A.over c fs = X.A
  split : splitAtGen fs = none
  guard : fs.any Frame.guarded = false
  gd : gd false = false
/-- woken again -/
theorem GJ.woken {x : V} {v : Value} {s' : Shared} (h : GJ X C ip ys σ H s) (hip : ∀ p ∈ X.pn ++ ip, ∀ b ∈ C.as, p.1 ≠ b) (hA : ∀ b ∈ C.as, Apt X b) (rv : L2.RelV x v) (z : Slp C v s s') : GJ X C ip (ys ++ [x]) σ H s' := by
  obtain ⟨a1, a2, a3, acc, c, r, eS⟩ := h.atS
  have aZ := h.atZ
  obtain ⟨c', eS'⟩ := z.own acc c eS
  refine GJ.mk (Nat.le_trans h.1 z.gsz) (inv_ch (ch := C.as) h.inv z.os (z.bare h.inv.bare) hA (fun b hb => ?_) hip z.keep) (acc := acc.push v) (c := c') ?_ eS' ⟨a1, a2, a3⟩ fun p hp => ?_
  · rcases Gz.mem_as.mp hb with rfl | ⟨p, hp, rfl⟩
    · exact a1
    · exact (aZ p hp).1
  · rw [Array.toList_push]
    exact r.append (.cons rv .nil)
  · obtain ⟨b1, b2, b3, o, ho, hg⟩ := aZ p hp
    obtain ⟨o', ho', hg'⟩ := z.gob p hp o ho hg
    exact ⟨o', hg', ho', b1, b2, b3⟩
end

/-! ### the protocol, the judgements -/
def GY (C : Gz) : Protocol := fun n _ v s kap => ∃ (acc : Array Value) (c : Nat), s.heap.get? C.S = some (lstObj acc c) ∧ n + 1 + acc.size = sizeLine ∧ C.N ≤ s.gens.size ∧ s.heap.NoLimit ∧ (∀ p ∈ C.Z, ∃ o, s.heap.get? p.1 = some o ∧ GOb p.2 0 o) ∧ ∀ s', Slp C v s s' → kap (.send .none) s'
def GSP (X : Cx) (C : Gz) (ip : List (Addr × Obj)) (D : GEnds) (ys : List V) (f : Flow) (s : Shared) : Prop :=
  match f with
  | .next => ∃ σ H, GJ X C ip ys σ H s ∧ D.nx ys σ H
  | .brk => ∃ σ H, GJ X C ip ys σ H s ∧ D.bk ys σ H
  | .cont => ∃ σ H, GJ X C ip ys σ H s ∧ D.ct ys σ H
  | .ret u => ∃ v σ H, GJ X C ip ys σ H s ∧ L2.RelV v u ∧ D.rt ys v H
structure GK (X : Cx) (C : Gz) (ip : List (Addr × Obj)) (A : Around) (R : GenEnd) (c : Code) (fs : List Frame) (K : Flow → Sem PySem.Fin) (J : Value → Sem PySem.Fin) (D : GEnds) : Prop where
  ok : ∀ (n : Nat) (ys : List V) (s₀ s : Shared) (f : Flow), n + ys.length = sizeLine → GSP X C ip D ys f s → SegL (model X.prog X.w) A R (GY C) n s₀ c (K f) fs s
  exc : ∀ (n : Nat) (s₀ : Shared) (e : Value) (s : Shared), X.xe e s → SegL (model X.prog X.w) A R (GY C) n s₀ c (J e) fs s
structure GS (X : Cx) (st : Stmt) (t : TGn) : Prop where
  run : ∀ (A : Around) (C : Gz) (ip : List (Addr × Obj)) (R : GenEnd) (n : Nat) (ys : List V) (s₀ : Shared) (c : Code) (fs : List Frame) (K : Flow → Sem PySem.Fin) (J : Value → Sem PySem.Fin) (gd : Bool → Bool) (lv : List Value → List Value) (s : Shared) (σ : L2.St) (H : Hp) (D : GEnds),
    GC X C ip A c fs gd → n + ys.length = sizeLine → GK X C ip A R c fs K J D → GJ X C ip ys σ H s → t D ys σ H →
    SegL (model X.prog X.w) A R (GY C) n s₀ c ((exec st X.env).wrap K J gd lv) fs s
structure GSs (X : Cx) (st : List Stmt) (t : TGn) : Prop where
  run : ∀ (A : Around) (C : Gz) (ip : List (Addr × Obj)) (R : GenEnd) (n : Nat) (ys : List V) (s₀ : Shared) (c : Code) (fs : List Frame) (K : Flow → Sem PySem.Fin) (J : Value → Sem PySem.Fin) (gd : Bool → Bool) (lv : List Value → List Value) (s : Shared) (σ : L2.St) (H : Hp) (D : GEnds),
    GC X C ip A c fs gd → n + ys.length = sizeLine → GK X C ip A R c fs K J D → GJ X C ip ys σ H s → t D ys σ H →
    SegL (model X.prog X.w) A R (GY C) n s₀ c ((execs st X.env).wrap K J gd lv) fs s
section
variable {X : Cx} {st : Stmt} {rest : List Stmt}
theorem GS.imp {t t' : TGn} (h : GS X st t) (f : ∀ D ys σ H, t' D ys σ H → t D ys σ H) : GS X st t' :=
  ⟨fun A C ip R n ys s₀ c fs K J gd lv s σ H D g hn k hI ht => h.run A C ip R n ys s₀ c fs K J gd lv s σ H D g hn k hI (f D ys σ H ht)⟩
theorem GSs.imp {t t' : TGn} (h : GSs X rest t) (f : ∀ D ys σ H, t' D ys σ H → t D ys σ H) : GSs X rest t' :=
  ⟨fun A C ip R n ys s₀ c fs K J gd lv s σ H D g hn k hI ht => h.run A C ip R n ys s₀ c fs K J gd lv s σ H D g hn k hI (f D ys σ H ht)⟩
theorem sp_gsp {C : Gz} {acc : Array Value} {c : Nat} {zp ip : List (Addr × Obj)} {s : Shared} {D : GEnds} {ys : List V} {f : Flow} (hN : C.N ≤ s.gens.size) (r : Vals ys acc.toList) (z : PZ C.Z zp) (h : SP X ((C.S, lstObj acc c) :: (zp ++ ip)) (D.at ys) f s) : GSP X C ip D ys f s := by
  cases f with
  | next => obtain ⟨σ, H, I, q⟩ := h; exact ⟨σ, H, ⟨hN, acc, c, zp, r, z, I⟩, q⟩
  | brk => obtain ⟨σ, H, I, q⟩ := h; exact ⟨σ, H, ⟨hN, acc, c, zp, r, z, I⟩, q⟩
  | cont => obtain ⟨σ, H, I, q⟩ := h; exact ⟨σ, H, ⟨hN, acc, c, zp, r, z, I⟩, q⟩
  | ret u => obtain ⟨v, σ, H, I, r1, q⟩ := h; exact ⟨v, σ, H, ⟨hN, acc, c, zp, r, z, I⟩, r1, q⟩
theorem gs_ps {t : TS} (h : PS X st t) : GS X st (tPlain t) := by
  refine ⟨fun A C ip R n ys s₀ c fs K J gd lv s σ H D g hn k hI ht => ?_⟩
  obtain ⟨hN, acc, cc, zp, r, z, I⟩ := hI
  refine segL_wrap ?_
  rw [g.over]
  exact wpAny_gsz hN (wpAny_mono (h.run _ s σ H (D.at ys) I ht) (fun f s' hs hN' => k.ok n ys s₀ s' f hn (sp_gsp hN' r z hs)) fun x s' hx _ => k.exc n s₀ x s' hx)
theorem gss_nil : GSs X [] tG0 := by
  refine ⟨fun A C ip R n ys s₀ c fs K J gd lv s σ H D g hn k hI ht => ?_⟩
  exact k.ok n ys s₀ s .next hn ⟨σ, H, hI, ht⟩
theorem gss_cons {t u : TGn} (a : GS X st t) (b : GSs X rest u) : GSs X (st :: rest) (tGThen t u) := by
  refine ⟨fun A C ip R n ys s₀ c fs K J gd lv s σ H D g hn k hI ht => ?_⟩
  rw [PySem.execs_cons_wrap]
  refine a.run A C ip R n ys s₀ c fs _ J gd lv s σ H { D with nx := fun ys' σ' H' => u D ys' σ' H' } g hn ⟨fun n' ys' s₀' s' f hn' hs => ?_, k.exc⟩ hI ht
  cases f with
  | next =>
    obtain ⟨σ', H', I', q⟩ := hs
    exact b.run A C ip R n' ys' s₀' c fs K J gd lv s' σ' H' D g hn' k I' q
  | brk => exact k.ok n' ys' s₀' s' .brk hn' hs
  | cont => exact k.ok n' ys' s₀' s' .cont hn' hs
  | ret u => exact k.ok n' ys' s₀' s' (.ret u) hn' hs
/-! ### if -/
def tGIf (c : TT) (ta tb : TGn) : TGn := fun D ys σ H => c σ H fun b H1 => if b = true then ta D ys σ H1 else tb D ys σ H1
theorem gs_if {c : Expr} {a b : List Stmt} {pos : Pos} {tc : TT} {ta tb : TGn} (hc : PT X c tc) (ha : GSs X a ta) (hb : GSs X b tb) : GS X (.If c a b pos) (tGIf tc ta tb) := by
  refine ⟨fun A C ip R n ys s₀ cd fs K J gd lv s σ H D g hn k hI ht => ?_⟩
  obtain ⟨hN, acc, cc, zp, r, z, I⟩ := hI
  rw [exec_If]
  refine segL_at ?_
  show SegL _ _ _ _ n s₀ cd ((isTrue c X.env (eval c X.env) >>= fun x => if x = true then execs a X.env else execs b X.env).wrap K J gd lv) fs s
  rw [Sem.bind_eq_wrap', Sem.wrap_wrap]
  refine segL_wrap ?_
  rw [g.over]
  refine wpAny_gsz hN (wpAny_mono (hc.run _ s σ H _ I ht) (fun k' s' hs hN' => ?_) fun x s' hx _ => k.exc n s₀ x s' hx)
  obtain ⟨H1, I1, q⟩ := hs
  have G1 : GJ X C ip ys σ H1 s' := ⟨hN', acc, cc, zp, r, z, I1⟩
  cases k' with
  | true => exact ha.run A C ip R n ys s₀ cd fs K J gd lv s' σ H1 D g hn k G1 q
  | false => exact hb.run A C ip R n ys s₀ cd fs K J gd lv s' σ H1 D g hn k G1 q
/-! ### yield -/
theorem vals_size {ys : List V} {acc : Array Value} (r : Vals ys acc.toList) : acc.size = ys.length := by
  have e1 := r.length
  have e2 : acc.toList.length = acc.size := by simp
  omega
theorem gs_yield {e : Expr} {yp pos : Pos} {te : TE} (he : PE X e te) (hco : X.env.scope.isCoroutine = false := by rfl) (hi : interactive X.env = false := by rfl) : GS X (.Expr (.Yield (some e) yp) pos) (tGYield te) := by
  refine ⟨fun A C ip R n ys s₀ c fs K J gd lv s σ H D g hn k hI ht => ?_⟩
  obtain ⟨hlt, ht⟩ := ht
  obtain ⟨n, rfl⟩ : ∃ m, n = m + 1 := ⟨n - 1, by omega⟩
  obtain ⟨hN, acc, cc, zp, r, z, I⟩ := hI
  rw [exec_Expr X.env _ pos hi rfl]
  show SegL _ A R _ (n + 1) s₀ c (.at pos fun _ => ((eval e X.env >>= fun v => (standAt yp >>= fun _ => yieldOut X.env v)) >>= fun x => dropValue (.Yield (some e) yp) pos x).wrap K J gd lv) fs s
  have hy : ∀ v, yieldOut X.env v = yieldValue v := fun v => by simp only [yieldOut, hco, Bool.false_eq_true, if_false]
  simp only [hy]
  refine segL_at ?_
  rw [Sem.bind_eq_wrap', Sem.bind_eq_wrap', Sem.wrap_wrap, Sem.wrap_wrap]
  refine segL_wrap ?_
  rw [g.over]
  refine wpAny_gsz hN (wpAny_mono (he.run _ s σ H _ I ht) (fun v s' hv hN' => ?_) fun x s' hx _ => k.exc _ s₀ x s' hx)
  obtain ⟨x, H1, I1, rv, q⟩ := hv
  have G1 : GJ X C ip ys σ H1 s' := ⟨hN', acc, cc, zp, r, z, I1⟩
  obtain ⟨_, _, _, acc1, c1, r1, eS⟩ := G1.atS
  refine segL_at (segL_yield g.split ⟨g.guard, .inl g.gd⟩ ?_)
  refine ⟨acc1, c1, eS, by rw [vals_size r1]; exact hn, hN', I1.nolimit, fun p hp => (G1.atZ p hp).2.2.2, fun s'' z => ?_⟩
  refine k.ok n (ys ++ [x]) s'' s'' .next ?_ ⟨σ, H1, G1.woken g.ip g.apt rv z, q⟩
  rw [List.length_append, List.length_singleton]; omega
end
end GX
set_option Elab.async false
set_option linter.all false
set_option maxRecDepth 100000
set_option maxHeartbeats 1000000
namespace GX
open PySem PySem.Spec PyProof.Rows GenW L2 LA

/-! ### for -/
def tGFor (wi : TI) (g : TG) (tb : TGn) : TGn := fun D ys σ H => wi σ H fun J H1 => ∃ W : Nat → Nat → List V → L2.St → Hp → Prop, (∃ m, W 0 m ys σ H1) ∧ ∀ i m ys σ H, W i m ys σ H →
  (J.stop i H ∧ D.nx ys σ H) ∨ (J.go i H ∧ ∃ N : List V → L2.St → Hp → Prop, (∀ ys' σ' H', N ys' σ' H' → ∃ m', m' < m ∧ W (i + 1) m' ys' σ' H') ∧ ∀ x H', J.yld i H x H' → g x σ H' fun σ2 H2 => tb { D with nx := N, ct := N, bk := D.nx } ys σ2 H2)
section
variable {X : Cx}
theorem gc_loop {C : Gz} {ip : List (Addr × Obj)} {A : Around} {c c' : Code} {fs : List Frame} {gd : Bool → Bool} {k : Result → Sem PySem.Fin} {l kp : List Value} {p : Pos} (g : GC X C ip A c fs gd) (hw : c'.weight = 0) (hu : c'.cUnits = 0) :
    GC X C ip A c' (.ret k none (gd false) l c p kp :: fs) id where
  ip := g.ip
  apt := g.apt
  zn := g.zn
  over := (over_loop hw hu).trans g.over
  split := by
    show (splitAtGen fs).map _ = none
    rw [g.split]; rfl
  guard := by
    show (gd false || fs.any Frame.guarded) = false
    rw [g.gd, g.guard]; rfl
  gd := rfl
theorem seg_cameBack {C : Gz} {ip : List (Addr × Obj)} {A : Around} {R : GenEnd} {c : Code} {fs : List Frame} {K : Flow → Sem PySem.Fin} {J : Value → Sem PySem.Fin} {gd : Bool → Bool} {lv : List Value → List Value} {D : GEnds} {n : Nat} {s₀ s : Shared} {e : Value}
    (g : GC X C ip A c fs gd) (k : GK X C ip A R c fs K J D) (h : cameBackBy (model X.prog X.w) X.A X.env X.xe e s) :
    SegL (model X.prog X.w) A R (GY C) n s₀ c (((Sem.raise e : Sem Flow).onRaise (cameBack X.env)).wrap K J gd lv) fs s := by
  show SegL _ _ _ _ _ _ _ (((cameBack X.env e).bind fun _ => (Sem.raise e : Sem Flow)).wrap K J gd lv) _ _
  rw [Sem.bind_eq_wrap, Sem.wrap_wrap]
  refine segL_wrap ?_
  rw [g.over]
  exact wpAny_mono h (fun _ s' hx => k.exc n s₀ e s' hx) fun x s' hx => k.exc n s₀ x s' hx
theorem gs_for {tg iter : Expr} {body : List Stmt} {wi : TI} {g : TG} {tb : TGn} {pos : Pos} (hp : PassesOwn (model X.prog X.w) X.A X.env X.xe) (hc : X.calm = true) (hi : PI X tg iter wi) (hg : PG X tg g) (hb : GSs X body tb)
    (hs : ∀ x, foldedSetIterable iter X.env x = pure x := by intro _; rfl) : GS X (.For tg iter body [] pos) (tGFor wi g tb) := by
  refine ⟨fun A C ip R n ys s₀ c fs K J gd lv s σ H D gc hn k hI ht => ?_⟩
  obtain ⟨hN, acc, cc, zp, r, z, I⟩ := hI
  rw [exec_For]
  refine segL_at ?_
  show SegL _ _ _ _ n s₀ c ((eval iter X.env >>= fun x0 => foldedSetIterable iter X.env x0 >>= fun x => standAt iter.pos >>= fun _ => holding [x] (pyIter x) >>= fun it => runOwn (.forLoop tg it body [] X.env) X.env).wrap K J gd lv) fs s
  refine segL_bind_wrap ?_
  rw [gc.over]
  refine wpAny_gsz hN (wpAny_mono (hi.run _ s σ H _ I ht) (fun v s1 h1 hN1 => ?_) fun x s' hx _ => k.exc n s₀ x s' hx)
  rw [hs v]
  refine segL_bind_wrap (wpAny_pure ?_)
  refine segL_bind_wrap (wpAny_standAt ?_)
  refine segL_bind_wrap (wpAny_holding ?_)
  rw [gc.over]
  refine wpAny_gsz hN1 (wpAny_mono h1 (fun itv s2 h2 hN2 => ?_) fun x s' hx _ => k.exc n s₀ x s' hx)
  obtain ⟨it, fp, tn, Jt, H2, e, I2, T, st2, f2, W, ⟨m0, w0⟩, turn⟩ := h2
  subst e
  have hzf := z.fst
  have fpn : ∀ b ∈ fp, ∀ a ∈ C.as, a ≠ b := fun b hb a ha => by
    obtain ⟨_, _, _, _, _, h6⟩ := f2 b hb
    rcases Gz.mem_as.mp ha with rfl | ⟨p, hp, rfl⟩
    · exact h6 (C.S, lstObj acc cc) (List.mem_append_right _ List.mem_cons_self)
    · obtain ⟨o, hm, _⟩ := z.get p hp
      exact h6 (p.1, o) (List.mem_append_right _ (List.mem_cons_of_mem _ (List.mem_append_left _ hm)))
  have fpi : ∀ b ∈ fp, ∀ p ∈ X.pn ++ ip, p.1 ≠ b := fun b hb p hp => by
    obtain ⟨_, _, _, _, _, h6⟩ := f2 b hb
    rcases List.mem_append.mp hp with hp | hp
    · exact h6 p (List.mem_append_left _ hp)
    · exact h6 p (List.mem_append_right _ (List.mem_cons_of_mem _ (List.mem_append_right _ hp)))
  have stat : ∀ {H' : Hp} {acc' : Array Value} {c' : Nat} {zp' : List (Addr × Obj)}, PZ C.Z zp' → (∀ b ∈ fp, H' b = none) → ∀ b ∈ fp, FpOk X ((C.S, lstObj acc' c') :: (zp' ++ ip)) H' b := fun {H' acc' c' zp'} hz hn b hb => by
    obtain ⟨_, h2, h3, h4, h5, _⟩ := f2 b hb
    refine ⟨hn b hb, h2, h3, h4, h5, fun p hp => ?_⟩
    rcases List.mem_append.mp hp with hp | hp
    · exact fpi b hb p (List.mem_append_left _ hp)
    · rcases List.mem_cons.mp hp with rfl | hp
      · exact fpn b hb C.S (Gz.mem_as.mpr (.inl rfl))
      · rcases List.mem_append.mp hp with hp | hp
        · refine fpn b hb p.1 (List.mem_cons_of_mem _ ?_)
          rw [← hz.fst]
          exact List.mem_map_of_mem hp
        · exact fpi b hb p (List.mem_append_right _ hp)
  refine segL_call fun p => ?_
  have gl := fun (kk : Result → Sem PySem.Fin) => gc_loop (k := kk) (c' := .forLoop tg (.ref it) body [] X.env) (l := lv []) (kp := []) (p := p) gc rfl rfl
  have loop : ∀ (m i n : Nat) (ys : List V) (s₀ s : Shared) (σ : L2.St) (H : Hp), n + ys.length = sizeLine → W i m ys σ H → GJ X C ip ys σ H s → tn i s.heap → (∀ b ∈ fp, H b = none) →
      SegL (model X.prog X.w) A R (GY C) n s₀ (.forLoop tg (.ref it) body [] X.env) ((model X.prog X.w).den (.forLoop tg (.ref it) body [] X.env))
        (.ret (fun r => ((match r with | .ok f => (.pure f : Sem Flow) | .error e => .raise e).onRaise (cameBack X.env)).wrap K J gd lv) none (gd false) (lv []) c p [] :: fs) s := by
    intro m
    induction m using Nat.strongRecOn with
    | ind m ih =>
      intro i n ys s₀ s σ H hn w hI st fr
      have ee : ∀ (n : Nat) (s₀ : Shared) (x : Value) (s' : Shared), X.xe x s' → SegL (model X.prog X.w) A R (GY C) n s₀ (.forLoop tg (.ref it) body [] X.env)
          ((do noteFrame x X.env; theTreesLotGoes x : Sem Unit).bind (fun _ => (.raise x : Sem PySem.Fin)))
          (.ret (fun r => ((match r with | .ok f => (.pure f : Sem Flow) | .error e => .raise e).onRaise (cameBack X.env)).wrap K J gd lv) none (gd false) (lv []) c p [] :: fs) s' := fun n s₀ x s' hx => by
        rw [Sem.bind_eq_wrap]
        refine segL_wrap ?_
        rw [(gl _).over]
        refine wpAny_bind (wpAny_mono (hp x s' hx) (fun _ s'' hcb => wpAny_theTreesLotGoes ?_) fun y s'' hcb => ?_)
        · exact segL_leaf (.error x) (seg_cameBack gc k hcb)
        · exact segL_leaf (.error y) (seg_cameBack gc k hcb)
      obtain ⟨hN, acc, cc, zp, r, z, I⟩ := hI
      show SegL _ A R _ n s₀ _ ((forTurn tg (.ref it) body [] X.env).onRaise (fun x => do noteFrame x X.env; theTreesLotGoes x)) _ s
      rw [Sem.onRaise_eq_wrap]
      unfold forTurn
      refine segL_bind_wrap (wpAny_standAt ?_)
      refine segL_bind_wrap (wpAny_onRaise ?_)
      rw [(gl _).over]
      rcases turn i m ys σ H w with ⟨stop, qn⟩ | ⟨go, N, hN', step⟩
      · refine wpAny_gsz hN (wpAny_mono (T.done X rfl rfl rfl hc i _ s σ H X.xe I (stat z fr) st stop) (fun r' s4 hs4 hN4 => ?_) fun x s' hx _ => wpAny_standAt (ee n s₀ x s' hx))
        obtain ⟨hr', I4⟩ := hs4
        subst hr'
        show SegL _ A R _ n s₀ _ (.pure (.again (.block [] X.env))) _ s4
        refine segL_again rfl ?_
        show SegL _ A R _ n s₀ _ (.pure (.done .next)) _ s4
        exact segL_leaf (.ok .next) (k.ok n ys s₀ s4 .next hn ⟨σ, H, ⟨hN4, acc, cc, zp, r, z, I4⟩, qn⟩)
      · refine wpAny_gsz hN (wpAny_mono (T.item X rfl rfl rfl hc i _ s σ H X.xe I (stat z fr) st go) (fun r' s4 hs4 hN4 => ?_) fun x s' hx _ => wpAny_standAt (ee n s₀ x s' hx))
        obtain ⟨u, hr', h4⟩ := hs4
        subst hr'
        refine segL_bind_wrap ?_
        rw [(gl _).over]
        refine wpAny_gsz hN4 (wpAny_mono h4 (fun _ s5 hs5 hN5 => ?_) fun x s' hx _ => ee n s₀ x s' hx)
        obtain ⟨x, H5, I5, r5, y5, st5, fr5⟩ := hs5
        have I5' := I5.pinned (stat z fr5) (T.obj _ _ st5)
        refine segL_bind_wrap ?_
        rw [(gl _).over]
        refine wpAny_gsz hN5 (wpAny_mono (hg.run _ s5 σ H5 x u _ I5' r5 (step x H5 y5)) (fun _ s6 hs6 hN6 => ?_) fun x s' hx _ => ee n s₀ x s' hx)
        obtain ⟨σ6, H6, I6, q6⟩ := hs6
        rw [Sem.bind_eq_wrap', Sem.wrap_wrap]
        have I6' : Inv X ((C.S, lstObj acc cc) :: (zp ++ (ip ++ pinsAt fp s5.heap))) σ6 H6 s6 := I6.pins_of fun q hq => I6.pin q (List.mem_append_right _ (by
          rw [List.cons_append, List.append_assoc]
          exact hq))
        have hip : ∀ q ∈ X.pn ++ (ip ++ pinsAt fp s5.heap), ∀ b ∈ C.as, q.1 ≠ b := fun q hq b hb => by
          rw [← List.append_assoc] at hq
          rcases List.mem_append.mp hq with hq | hq
          · exact gc.ip q hq b hb
          · exact fun e => fpn q.1 (of_pinsAt hq).1 b hb e.symm
        have gl' := fun (kk : Result → Sem PySem.Fin) => gl kk
        refine hb.run A C (ip ++ pinsAt fp s5.heap) R n ys s₀ _ _ _ _ id id s6 σ6 H6 { D with nx := N, ct := N, bk := D.nx } ⟨hip, gc.apt, gc.zn, (gl _).over, (gl _).split, (gl _).guard, rfl⟩ hn ⟨fun n' ys' s₀' s7 f hn' hs7 => ?_, fun n' s₀' x s7 hx => ee n' s₀' x s7 hx⟩ ⟨hN6, acc, cc, zp, r, z, I6'⟩ q6
        have unp : ∀ {ys7 : List V} {σ7 : L2.St} {H7 : Hp}, GJ X C (ip ++ pinsAt fp s5.heap) ys7 σ7 H7 s7 → GJ X C ip ys7 σ7 H7 s7 := fun {ys7 σ7 H7} G7 => by
          obtain ⟨a1, a2, a3, a4, a5, a6, I7⟩ := G7
          refine ⟨a1, a2, a3, a4, a5, a6, I7.pins_of fun q hq => I7.pin q (List.mem_append_right _ ?_)⟩
          rcases List.mem_cons.mp hq with hq | hq
          · exact List.mem_cons.mpr (.inl hq)
          · rcases List.mem_append.mp hq with hq | hq
            · exact List.mem_cons_of_mem _ (List.mem_append_left _ hq)
            · exact List.mem_cons_of_mem _ (List.mem_append_right _ (List.mem_append_left _ hq))
        have again : ∀ {σ7 : L2.St} {H7 : Hp}, GJ X C (ip ++ pinsAt fp s5.heap) ys' σ7 H7 s7 → N ys' σ7 H7 → SegL (model X.prog X.w) A R (GY C) n' s₀' (.forLoop tg (.ref it) body [] X.env) (.pure (.again (.forLoop tg (.ref it) body [] X.env)))
            (.ret (fun r => ((match r with | .ok f => (.pure f : Sem Flow) | .error e => .raise e).onRaise (cameBack X.env)).wrap K J gd lv) none (gd false) (lv []) c p [] :: fs) s7 := fun {σ7 H7} G7 n7 => by
          obtain ⟨m', hm, w7⟩ := hN' ys' σ7 H7 n7
          have pinned : ∀ b ∈ fp, ∀ o, s5.heap.get? b = some o → s7.heap.get? b = some o ∧ H7 b = none := fun b hb o e => by
            obtain ⟨_, _, _, _, _, _, I7⟩ := G7
            obtain ⟨z1, z2, _⟩ := I7.pin (b, o) (List.mem_append_right _ (List.mem_cons_of_mem _ (List.mem_append_right _ (List.mem_append_right _ (mem_pinsAt hb e)))))
            exact ⟨z1, z2⟩
          refine segL_again rfl (ih m' hm (i + 1) n' ys' s₀' s7 σ7 H7 hn' w7 (unp G7) (T.keep _ _ _ st5 fun b hb o e => (pinned b hb o e).1) fun b hb => ?_)
          obtain ⟨o, e, d⟩ := T.obj _ _ st5 b hb
          exact (pinned b hb o e).2
        cases f with
        | next => obtain ⟨σ7, H7, I7, n7⟩ := hs7; exact again I7 n7
        | cont => obtain ⟨σ7, H7, I7, n7⟩ := hs7; exact again I7 n7
        | brk =>
          obtain ⟨σ7, H7, I7, q7⟩ := hs7
          exact segL_leaf (.ok .next) (k.ok n' ys' s₀' s7 .next hn' ⟨σ7, H7, unp I7, q7⟩)
        | ret v =>
          obtain ⟨x7, σ7, H7, I7, r7, q7⟩ := hs7
          exact segL_leaf (.ok (.ret v)) (k.ok n' ys' s₀' s7 (.ret v) hn' ⟨x7, σ7, H7, unp I7, r7, q7⟩)
  exact loop m0 0 n ys s₀ s2 σ H2 hn w0 ⟨hN2, acc, cc, zp, r, z, I2⟩ st2 fun b hb => (f2 b hb).1
end
end GX
set_option Elab.async false
set_option linter.all false
set_option maxRecDepth 100000
set_option maxHeartbeats 1000000
namespace GX
open PySem PySem.Spec PyProof.Rows GenW L2 LA

/-! ### a generator def's promise -/
/-- these were there ahead of the call and may change while it runs -/
structure ExA (base : Heap) (outer : List Env) (H : Hp) (h : Heap) (ex : List Addr) : Prop where
  lt : ∀ b ∈ ex, b < h.objs.size
  no : ∀ b ∈ ex, H b = none
  fs : ∀ b ∈ ex, b ∉ frs outer
  bs : ∀ b o, base.get? b = some o → b ∉ ex
/-- the context of a generator def's body: no exception leaves it -/
def gnx (P : Program) (w : World) (K : PySem.W.Frag) (mg : Str → Option Value) (base : Heap) (N : List Str) (qual : Str) (scope : Scope) (f : Addr) (cd : Value) (A : Around) (outer : List Env) (s : Shared) (H : Hp) (ex : List Addr) : Cx :=
  { cxOf (CX P w) P w K mg base N qual scope f cd A outer s H (fun _ _ _ => False) with
    ex := ex
    pn := []
    xe := fun _ _ => False }
/-- what stands while it does not run: ys is out -/
structure At (P : Program) (w : World) (outer : List Env) (H : Hp) (s : Shared) (ex : List Addr) (C : Gz) (H' : Hp) (ys : List V) (s1 : Shared) : Prop where
  os : s1.os = s.os
  bare : AllBare s1.gens
  nn : C.N ≤ s1.gens.size
  lim : s1.heap.NoLimit
  un : Un (frs outer) ex H H' s.heap s1.heap
  hok : HOk P w H' s1.heap
  no : ∀ b ∈ C.as, H' b = none
  atS : ∃ (acc : Array Value) (c : Nat), s1.heap.get? C.S = some (lstObj acc c) ∧ Vals ys acc.toList
  atZ : ∀ p ∈ C.Z, ∃ o, s1.heap.get? p.1 = some o ∧ GOb p.2 0 o
def FN (P : Program) (w : World) (outer : List Env) (H : Hp) (s : Shared) (ex : List Addr) (C : Gz) (ys : List V) (Q : List V → Hp → Prop) : Nat → Shared → Shared → Prop := fun n _ s1 => ∃ H' out, n + (ys ++ out).length = sizeLine ∧ At P w outer H s ex C H' (ys ++ out) s1 ∧ Q out H'
abbrev RN (P : Program) (w : World) (outer : List Env) (H : Hp) (s : Shared) (ex : List Addr) (C : Gz) (ys : List V) (Q : List V → Hp → Prop) : GenEnd := GEnd (FN P w outer H s ex C ys Q)
/-- what a call of a generator def gives: a generator that has not begun; it hands out at most m things -/
def GMadeN (P : Program) (w : World) (k : Nat) (outer : List Env) (H : Hp) (s : Shared) (ex : List Addr) (m : Nat) (Q : List V → Hp → Prop) (u : Value) (s' : Shared) : Prop :=
  ∃ (a : Addr) (g : Nat) (c : Code), u = .ref a ∧ s.heap.objs.size ≤ a ∧ a < s'.heap.objs.size ∧ s'.heap.IsGen a g ∧ s.gens.size ≤ g ∧ g < s'.gens.size ∧ s'.gens[g]? = some (.fresh c) ∧ s'.os = s.os ∧ AllBare s'.gens ∧ s'.heap.NoLimit ∧ (∀ b o, s.heap.get? b = some o → s'.heap.get? b = some o) ∧
    ∀ (A : Around) (C : Gz) (ys : List V) (n : Nat) (s2 : Shared), Room k A → A.frames = some outer → (∀ p ∈ C.Z, p.2 < C.N) → C.N ≤ s2.gens.size → (∀ p ∈ C.Z, ∃ o, s2.heap.get? p.1 = some o ∧ GOb p.2 0 o) →
      (∃ (acc : Array Value) (c : Nat), s2.heap.get? C.S = some (lstObj acc c) ∧ Vals ys acc.toList) → n + ys.length = sizeLine → ys.length + m ≤ sizeLine → (∀ b ∈ C.as, b ∈ ex ∨ a ≤ b) → (∀ b o, s'.heap.get? b = some o → s2.heap.get? b = some o) → s2.os = s.os → AllBare s2.gens →
      SegL (model P w) A (RN P w outer H s ex C ys Q) (GY C) n s2 c ((model P w).den c) [] s2
abbrev SpN := List V → Hp → Nat → (List V → Hp → Prop) → Prop
structure GFnN (P : Program) (w : World) (K : PySem.W.Frag) (mg : Str → Option Value) (base : Heap) (k : Nat) (f : Addr) (fd : FuncData) (ps : List Str) (sp : SpN) : Prop where
  len : ∀ vs H m Q, sp vs H m Q → vs.length = ps.length
  run : ∀ (A : Around) (outer : List Env) (s : Shared) (H : Hp) (args : Args) (us : List Value) (vs : List V) (m : Nat) (Q : List V → Hp → Prop) (ex : List Addr), Room k A → Env0 P w K mg base A outer s H → ExA base outer H s.heap ex → BindsTo s fd args (ps.zip us) → Vals vs us → sp vs H m Q →
    codeAny (model P w) A (.call (.ref f) args) (fun r s' => match r with | .ok (.ret u) => GMadeN P w k outer H s ex m Q u s' | _ => False) s
section
variable {P : Program} {w : World} {K : PySem.W.Frag} {mg : Str → Option Value} {base : Heap} {N : List Str} {qual : Str} {scope : Scope} {f : Addr} {cd : Value} {A : Around} {outer : List Env} {s s1 : Shared} {H H' : Hp} {ex : List Addr} {σ : L2.St}
theorem inv_gnx (hex : ExA base outer H s.heap ex) (hfn : ∀ x, (gcxOf P w K mg base N qual scope f cd A outer s H (fun _ _ _ => False) []).fn x = true) (I : Inv (gcxOf P w K mg base N qual scope f cd A outer s H (fun _ _ _ => False) []) [] σ H' s1) : Inv (gnx P w K mg base N qual scope f cd A outer s H ex) [] σ H' s1 := by
  have no : ∀ b : Addr, b ∉ (gcxOf P w K mg base N qual scope f cd A outer s H (fun _ _ _ => False) []).ex := fun b z => absurd (show b ∈ ([] : List Addr) from z) (by simp)
  refine ⟨⟨I.ok.mod, I.ok.kind, I.ok.glob, I.ok.blt, I.ok.above, I.ok.inj, I.ok.has, I.ok.cab, I.ok.hd, I.ok.frames, I.ok.stk, fun b hb => ?_, I.ok.bs, I.ok.bsz, fun b o e => hex.bs b o e, fun b hb => hex.fs b hb, I.ok.funs, I.ok.frf⟩,
    I.os, I.bare, ⟨fun b o e n hb _ => I.base.keep b o e n hb (no b), fun b o e n hb _ => I.base.slot b o e n hb (no b), fun b o e n _ => I.base.free b o e n (no b), fun b o e _ => I.base.there b o e (no b), I.base.tups, I.base.frzs, I.base.tbls⟩, I.loc, I.cell, I.free, I.freeC, fun p hp => absurd (show p ∈ ([] : List (Addr × Obj)) from hp) (by simp), I.hok, I.len⟩
  have lt : b < s.heap.objs.size := hex.lt b hb
  refine ⟨fun z => ?_, fun x c e z => ?_⟩
  · have h : s.heap.objs.size ≤ b := by
      rw [z]
      exact I.ok.above
    exact absurd (Nat.lt_of_lt_of_le lt h) (Nat.lt_irrefl _)
  · have h : s.heap.objs.size ≤ b := by
      rw [← z]
      exact I.ok.cab x c (hfn x) e
    exact absurd (Nat.lt_of_lt_of_le lt h) (Nat.lt_irrefl _)
theorem GJ.toAt {C : Gz} {ip : List (Addr × Obj)} {ys : List V} (h : GJ (gnx P w K mg base N qual scope f cd A outer s H ex) C ip ys σ H' s1) : At P w outer H s ex C H' ys s1 := by
  obtain ⟨a1, _, _, acc, c, r, eS⟩ := h.atS
  have aZ := h.atZ
  have I := h.inv
  refine ⟨I.os, I.bare, h.1, I.nolimit, I.base, I.hok, fun b hb => ?_, ⟨acc, c, eS, r⟩, fun p hp => (aZ p hp).2.2.2⟩
  rcases Gz.mem_as.mp hb with rfl | ⟨p, hp, rfl⟩
  · exact a1
  · exact (aZ p hp).1
end
theorem segL_func {P : Program} {w : World} {A : Around} {R : GenEnd} {Y : Protocol} {n : Nat} {s₀ s : Shared} {fs : List Frame} {env : Env} {body : List Stmt}
    (h : SegL (model P w) A R Y n s₀ (.func body env) ((execs body env).wrap (fun f => .pure (.done (.ret (match f with | .ret v => v | _ => .none)))) (fun e => (leaving env e).wrap (fun _ => .raise e) .raise id id) id id) fs s) :
    SegL (model P w) A R Y n s₀ (.func body env) ((model P w).den (.func body env)) fs s := by
  have e : (((execs body env).onRaise (leaving env)) >>= fun f => (match f with | .ret v => Sem.pure (.done (.ret v)) | _ => Sem.pure (.done (.ret .none)) : Sem PySem.Fin)) = (execs body env).wrap (fun f => .pure (.done (.ret (match f with | .ret v => v | _ => .none)))) (fun e => (leaving env e).wrap (fun _ => .raise e) .raise id id) id id := by
    rw [Sem.onRaise_eq_wrap, Sem.bind_eq_wrap', Sem.wrap_wrap]
    exact Sem.wrap_congr (execs body env) _ _ (fun f => by cases f <;> rfl) (fun x => by rw [Sem.bind_eq_wrap, Sem.wrap_wrap]; rfl)
  rw [← e] at h
  exact segL_point h
/-- THE RULE: a generator def, by its body -/
theorem gfnN_of {P : Program} {w : World} {K : PySem.W.Frag} {mg : Str → Option Value} {base : Heap} {k : Nat} {f : Addr} {name qual : Str} {params : Arguments} {body : List Stmt} {scope : Scope} {dV kV doc pm cdv ct oc : Value} {an od : Option Addr}
    {osl : Array (Option Value)} {N ps : List Str} {sp : SpN} (lk : K.lookup f = some ⟨oc, od, .func (PySem.W.fnOf name qual params body scope dV kV doc pm an cdv ct), osl⟩) (hcd : PySem.W.codeIn K cdv qual = true) (S : GScope N ps scope)
    (len : ∀ vs H m Q, sp vs H m Q → vs.length = ps.length)
    (hbody : ∀ (A : Around) (outer : List Env) (s : Shared) (H : Hp) (vs : List V) (m : Nat) (Q : List V → Hp → Prop) (ex : List Addr) (ys : List V), Room k (A.deeper (envOfC qual scope s.heap.objs.size f cdv)) → sp vs H m Q → ys.length + m ≤ sizeLine →
      ∃ t, GSs (gnx P w K mg base N qual scope f cdv A outer s H ex) body t ∧ t { nx := fun ys' _ H' => ∃ out, ys' = ys ++ out ∧ Q out H', rt := fun ys' v H' => v = .non ∧ ∃ out, ys' = ys ++ out ∧ Q out H' } ys (start N vs) H) :
    GFnN P w K mg base (k + 1) f (PySem.W.fnOf name qual params body scope dV kV doc pm an cdv ct) ps sp := by
  refine ⟨len, fun A outer s H args us vs m Q ex hr e0 hex hb r hsp => ?_⟩
  have hl := len _ _ _ _ hsp
  have KX : K.In s.heap := e0.mod.kin.keeps fun b o e => (e0.bs b o e).1
  have lim : s.heap.NoLimit := e0.mod.nolimit.keeps fun b o e => (e0.bs b o e).1
  have hkind : ∀ y ∈ ps.zip us, scope.names.lookup y.1 = some .local ∨ (scope.names.lookup y.1 = some .cell ∧ ((cellsFrom (s.heap.objs.size + 1) scope.names []).lookup y.1).isSome = true) := fun ⟨n, v⟩ hy => by
    rcases S.par n (List.of_mem_zip hy).1 with q | q
    · exact .inl q
    · exact .inr ⟨q, PySem.W.cellsFrom_some _ _ _ (.inl q)⟩
  refine codeAny_call_generator hr.depth (KX _ _ lk) rfl S.co S.gen rfl (PySem.W.codeRec_of KX hcd) (hb _ _ _ _ ?_)
  refine wpAny_newFunctionEnv_cells S.kind hkind fun env he s1 x => ?_
  subst he
  have lim1 : s1.heap.NoLimit := lim.keeps x.toInCall.keep
  refine ⟨lim1, ?_⟩
  obtain ⟨h1, tk, es1, hk1⟩ := x.done
  have os1 : s1.os = s.os := by rw [es1]
  have gen1 : s1.gens = s.gens := by rw [es1]
  have lt1 : s.heap.objs.size < s1.heap.objs.size := x.toInCall.ns.lt
  have sz1 : s.heap.objs.size ≤ s1.heap.objs.size := Nat.le_of_lt lt1
  have kp1 : ∀ b o, s.heap.get? b = some o → s1.heap.get? b = some o := x.toInCall.keep
  have main : ∀ (go : Obj) (nm qn : Value) (tk2 : Nat), go.cls = .type "generator" → go.data = .fields #[.int s1.gens.size 0, nm, qn] → go.slots = #[] → (∀ h : Heap, (h.push go).get? h.objs.size = some go) →
      GMadeN P w (k + 1) outer H s ex m Q (.ref s1.heap.objs.size) { s1 with gens := s1.gens.push (.fresh (.func body (envOfC qual scope s.heap.objs.size f cdv))), toks := tk2, heap := s1.heap.push go } := by
    intro go nm qn tk2 hgc hgd0 hgs hgp
    have hgen : ∀ h : Heap, h.get? s1.heap.objs.size = some go → h.IsGen s1.heap.objs.size s1.gens.size := fun h e => ⟨go, nm, qn, e, hgc, hgd0, hgs⟩
    have hpushed : (s1.heap.push go).get? s1.heap.objs.size = some go := hgp _
    refine ⟨s1.heap.objs.size, s1.gens.size, _, rfl, sz1, ?_, hgen _ hpushed, by rw [gen1]; exact Nat.le_refl _, ?_, Array.getElem?_push_size .., os1, ?_, lim1.keeps fun b o e => Heap.get?_push_of_some _ e, fun b o e => Heap.get?_push_of_some _ (kp1 b o e), ?_⟩
    · show _ < (s1.heap.push _).objs.size
      rw [Heap.size_push]; exact Nat.lt_succ_self _
    · show _ < (s1.gens.push _).size
      rw [Array.size_push]; exact Nat.lt_succ_self _
    · exact AllBare.push (by rw [gen1]; exact e0.bare) rfl
    intro Aw C ys n s2 hrw hfr hzn hN hZ hS hn hm hC hk2 hos hba
    have e0w : Env0 P w K mg base Aw outer s H := ⟨hfr, e0.mod, e0.bs, e0.bsz, e0.funs, e0.frf, e0.hok, e0.bare⟩
    obtain ⟨t, ht, hq⟩ := hbody Aw outer s H vs m Q ex ys (hrw.deeper _) hsp hm
    have I1 : Inv (gnx P w K mg base N qual scope f cdv Aw outer s H ex) [] (start N vs) H s1 := inv_gnx hex (fun _ => rfl) (inv_startG S hrw.hd e0w hl r x)
    have kp2 : ∀ b o, s1.heap.get? b = some o → s2.heap.get? b = some o := fun b o e => hk2 b o (Heap.get?_push_of_some _ e)
    have I2 : Inv (gnx P w K mg base N qual scope f cdv Aw outer s H ex) [] (start N vs) H s2 :=
      I1.call' (ch := []) (hos.trans os1.symm) (Un.kept kp2) (I1.hok.kept kp2) hba fun b z => by simp at z
    have young : ∀ b, s1.heap.objs.size ≤ b → H b = none ∧ b ≠ s.heap.objs.size ∧ b ∉ frs outer ∧ s.heap.objs.size ≤ b ∧ ∀ y c, (cellsFrom (s.heap.objs.size + 1) scope.names []).lookup y = some c → c ≠ b := fun b hb => by
      refine ⟨I1.hok.fresh hb, Nat.ne_of_gt (Nat.lt_of_lt_of_le lt1 hb), I1.nofs hb, Nat.le_trans sz1 hb, fun y c e z => ?_⟩
      obtain ⟨v, ob, ho, _⟩ := I1.cell y c e
      have := Heap.lt_size ho
      rw [z] at this
      exact absurd (Nat.lt_of_lt_of_le this hb) (Nat.lt_irrefl _)
    have fine : ∀ b ∈ C.as, H b = none ∧ b ≠ s.heap.objs.size ∧ b ∉ frs outer ∧ (b ∈ ex ∨ s.heap.objs.size ≤ b) ∧ ∀ y c, (cellsFrom (s.heap.objs.size + 1) scope.names []).lookup y = some c → c ≠ b := fun b hb => by
      rcases hC b hb with z | z
      · exact ⟨hex.no b z, Nat.ne_of_lt (hex.lt b z), hex.fs b z, .inl z, (I1.ok.exf b z).2⟩
      · obtain ⟨y1, y2, y3, y4, y5⟩ := young b z
        exact ⟨y1, y2, y3, .inr y4, y5⟩
    obtain ⟨acc, cS, heS, rS⟩ := hS
    have hG : GJ (gnx P w K mg base N qual scope f cdv Aw outer s H ex) C [] ys (start N vs) H s2 := by
      have fS := fine C.S (Gz.mem_as.mpr (.inl rfl))
      refine GJ.mk hN I2 rS heS ⟨fS.1, fS.2.1, fS.2.2.1⟩ fun p hp => ?_
      obtain ⟨o, h1, h2⟩ := hZ p hp
      have fp := fine p.1 (Gz.mem_as.mpr (.inr ⟨p, hp, rfl⟩))
      exact ⟨o, h2, h1, fp.1, fp.2.1, fp.2.2.1⟩
    have hAp : ∀ b ∈ C.as, Apt (gnx P w K mg base N qual scope f cdv Aw outer s H ex) b := fun b hb => by
      obtain ⟨_, y2, _, y4, y5⟩ := fine b hb
      exact ⟨y4, y2, y5⟩
    refine segL_func ?_
    refine ht.run Aw C [] _ n ys s2 _ [] _ _ id id s2 (start N vs) H _ ⟨fun p hp => absurd (show p ∈ ([] : List (Addr × Obj)) from hp) (by simp), hAp, hzn, over_func, rfl, rfl, rfl⟩ hn ⟨fun n' ys' s₀' s' fl hn' hs => ?_, fun n s₀ e s' hx => ?_⟩ hG hq
    · cases fl with
        | next =>
          obtain ⟨σ', H', hI, out, rfl, hQ⟩ := hs
          exact segL_end (.ok (.ret .none)) ⟨.inl rfl, H', out, hn', hI.toAt, hQ⟩
        | brk => obtain ⟨_, _, _, q⟩ := hs; exact False.elim q
        | cont => obtain ⟨_, _, _, q⟩ := hs; exact False.elim q
        | ret u =>
          obtain ⟨v, σ', H', hI, rv, ev, out, rfl, hQ⟩ := hs
          subst ev
          have eu : u = Value.none := rv
          subst eu
          exact segL_end (.ok (.ret .none)) ⟨.inl rfl, H', out, hn', hI.toAt, hQ⟩
    · exact False.elim hx
  exact main _ _ _ _ rfl rfl rfl fun h => Heap.get?_push_size _ rfl
end GX
set_option Elab.async false
set_option linter.all false
set_option maxRecDepth 100000
set_option maxHeartbeats 1000000
namespace GX
open PySem PySem.Spec PyProof.Rows GenW L2 LA

theorem close_gen : typeLookup (.type "generator") "close" = pure (some (.builtin "generator.close")) := by rw [typeLookup_type, builtinLookup_eq_fast]; kernel_rfl
theorem gob_dlg {a : Addr} {g : Nat} {n : Int} {o : Obj} {s : Shared} (h : s.heap.get? a = some o) (hg : GOb g n o) : Dlg s (.ref a) := by
  obtain ⟨hc, ⟨nm, qn, hd⟩, _⟩ := hg
  refine ⟨a, o, rfl, h, ?_⟩
  unfold Obj.genNumber?
  rw [hc, hd]
  rfl
/-- around a built-in's code over the frame that it came from -/
theorem over_plain {A : Around} {c c' : Code} {fs : List Frame} {k : Result → Sem PySem.Fin} {g : Bool} {l kp : List Value} {p : Pos} (hw : c'.weight = 0) (hu : c'.cUnits = 1) : A.over c' (.ret k none g l c p kp :: fs) = (A.over c fs).in1 := by
  have w1 : (Frame.ret k none g l c p kp :: fs).map Frame.where_ = (c, p) :: fs.map Frame.where_ := rfl
  have w2 : (marksOver (Frame.ret k none g l c p kp :: fs) (A.handled, A.handled)).1 = (marksOver fs (A.handled, A.handled)).1 := rfl
  unfold Around.over Around.in1
  rw [w2, w1, frameCount_cons, unitsOf_cons, envsOf_cons, guardsOf_cons, hw, hu, Code.envs_of_weight hw, Code.guards_of_weight hw]
  simp only [pushEnvs_eq, pushGuards_eq, Around.mk.injEq, true_and]
  refine ⟨by omega, ?_, ?_, by omega⟩
  · cases A.frames <;> simp [List.append_assoc]
  · cases A.guards <;> simp [List.append_assoc]

/-! ### one generator within another -/
def Gz.sub (C : Gz) (a : Addr) (g : Nat) : Gz := ⟨C.S, C.Z ++ [(a, g)], g + 1⟩
theorem Gz.mem_sub {C : Gz} {a b : Addr} {g : Nat} : b ∈ (C.sub a g).as ↔ b ∈ C.as ∨ b = a := by
  rw [Gz.mem_as, Gz.mem_as]
  show (b = C.S ∨ ∃ p ∈ C.Z ++ [(a, g)], p.1 = b) ↔ _
  constructor
  · rintro (h | ⟨p, hp, h⟩)
    · exact .inl (.inl h)
    · rcases List.mem_append.mp hp with hp | hp
      · exact .inl (.inr ⟨p, hp, h⟩)
      · rw [List.mem_singleton.mp hp] at h
        exact .inr h.symm
  · rintro ((h | ⟨p, hp, h⟩) | h)
    · exact .inl h
    · exact .inr ⟨p, List.mem_append_left _ hp, h⟩
    · exact .inr ⟨(a, g), List.mem_append_right _ (List.mem_singleton.mpr rfl), h.symm⟩
theorem Gz.sub_cases {C : Gz} {a : Addr} {g : Nat} {p : Addr × Nat} (h : p ∈ (C.sub a g).Z) : p ∈ C.Z ∨ p = (a, g) := (List.mem_append.mp h).imp id List.mem_singleton.mp
theorem setGen_ne {s : Shared} {g j : Nat} {x : GenState} (h : j ≠ g) : (s.setGen g x).gens[j]? = s.gens[j]? := by
  show (s.gens.setIfInBounds g x)[j]? = _
  rw [Array.getElem?_setIfInBounds_ne (Ne.symm h)]
/-- the inner one has slept while its delegator did -/
theorem slp_sub {C : Gz} {a : Addr} {g : Nat} {v : Value} {s₁ s2 : Shared} {gs : GenState} {f f2 : Obj → Obj} {o2 : Obj} (ha : a ∉ C.as) (hg : ∀ p ∈ C.Z, p.2 ≠ g) (hgl : g < s₁.gens.size)
    (z : Slp C v { s₁.setGen g gs with heap := s₁.heap.update a f } s2) (h2 : (s2.heap.update a f2).get? a = some o2) (hg2 : GOb g 0 o2) :
    Slp (C.sub a g) v s₁ (({ s2 with heap := s2.heap.update a f2 } : Shared).setGen g .running) := by
  have hsz : g < s2.gens.size := by
    have q : (s₁.setGen g gs).gens.size = s₁.gens.size := GenW.setGen_size _ _ _
    have q2 : (s₁.setGen g gs).gens.size ≤ s2.gens.size := z.gsz
    omega
  have up1 : ∀ b, b ≠ a → (s₁.heap.update a f).get? b = s₁.heap.get? b := fun b hb => Heap.get?_update_other _ _ (Ne.symm hb)
  have up2 : ∀ b, b ≠ a → (s2.heap.update a f2).get? b = s2.heap.get? b := fun b hb => Heap.get?_update_other _ _ (Ne.symm hb)
  have hSa : C.S ≠ a := fun e => ha (Gz.mem_as.mpr (.inl e.symm))
  have hZa : ∀ p ∈ C.Z, p.1 ≠ a := fun p hp e => ha (Gz.mem_as.mpr (.inr ⟨p, hp, e⟩))
  refine ⟨z.os, fun p hp x hx => ?_, ?_, fun j hj => ?_, fun b o hb e => ?_, fun acc c e => ?_, fun p hp o e ho => ?_⟩
  · rcases Gz.sub_cases hp with hp | rfl
    · rw [setGen_ne (hg p hp)] at hx
      exact z.bareZ p hp x hx
    · have q : (({ s2 with heap := s2.heap.update a f2 } : Shared).setGen g .running).gens[g]? = some .running := setGen_at hsz
      rw [q] at hx
      cases hx
      rfl
  · rw [GenW.setGen_size]
    have q : (s₁.setGen g gs).gens.size = s₁.gens.size := GenW.setGen_size _ _ _
    have q2 : (s₁.setGen g gs).gens.size ≤ s2.gens.size := z.gsz
    show s₁.gens.size ≤ s2.gens.size
    omega
  · have hjg : j ≠ g := fun e => hj (a, g) (List.mem_append_right _ (List.mem_singleton.mpr rfl)) e.symm
    rw [setGen_ne hjg]
    show s2.gens[j]? = _
    rw [z.gens j fun p hp => hj p (List.mem_append_left _ hp)]
    exact setGen_ne hjg
  · have hb1 : b ∉ C.as := fun m => hb (Gz.mem_sub.mpr (.inl m))
    have hb2 : b ≠ a := fun m => hb (Gz.mem_sub.mpr (.inr m))
    exact (up2 b hb2).trans (z.keep b o hb1 ((up1 b hb2).trans e))
  · obtain ⟨c', e'⟩ := z.own acc c ((up1 _ hSa).trans e)
    exact ⟨c', (up2 _ hSa).trans e'⟩
  · rcases Gz.sub_cases hp with hp | rfl
    · obtain ⟨o', e', h'⟩ := z.gob p hp o ((up1 _ (hZa p hp)).trans e) ho
      exact ⟨o', (up2 _ (hZa p hp)).trans e', h'⟩
    · exact ⟨o2, h2, hg2⟩

/-- the turns -/
theorem segL_yf {X : Cx} {A B : Around} {R : GenEnd} {F : Nat → Shared → Shared → Prop} {C : Gz} {fs : List Frame} {a : Addr} {g : Nat} (hB : A.over (.builtin "proto.yield_from" ⟨[.ref a, .bool false, .none], []⟩) fs = B) (hh : B.handled = none) (hroom : B.depth < recursionLimit)
    (hsp : splitAtGen fs = none) (hgd : fs.any Frame.guarded = false) (ha : a ∉ C.as) (hc : cStatics ∉ C.as) (hca : cStatics ≠ a) (hg : ∀ p ∈ C.Z, p.2 < g) (hN : C.N ≤ g)
    (hend : ∀ (n : Nat) (s₀ s s₁ : Shared) (h' : Heap), F n (s.setGen g .running) s₁ → (∀ b o, s₁.heap.get? b = some o → h'.get? b = some o) → SegL (model X.prog X.w) A R (GY C) n s₀ (.builtin "proto.yield_from" ⟨[.ref a, .bool false, .none], []⟩) (.pure (.done (.ret .none))) fs { s₁.setGen g .finished with heap := h' }) :
    ∀ (n : Nat) (s₀ s : Shared) (gs : GenState) (o : Obj), s.heap.NoLimit → s.heap.get? a = some o → GOb g 0 o → s.gens[g]? = some gs → GoesL (model X.prog X.w) B.in1 (GEnd F) (GY (C.sub a g)) n gs (.send .none) (s.setGen g .running) →
      SegL (model X.prog X.w) A R (GY C) n s₀ (.builtin "proto.yield_from" ⟨[.ref a, .bool false, .none], []⟩) ((model X.prog X.w).den (.builtin "proto.yield_from" ⟨[.ref a, .bool false, .none], []⟩)) fs s := by
  subst hB
  intro n
  induction n using Nat.strongRecOn with
  | ind n ih =>
    intro s₀ s gs o hl ho hgo hgs hgoes
    have hgl : g < s.gens.size := (Array.getElem?_eq_some_iff.mp hgs).1
    rw [den_yf]
    unfold Builtin.«proto.yield_from»
    try dsimp only
    refine segL_bind (wpAny_pure ?_)
    try dsimp only
    refine segL_bindL (wpL_attempt (wpL_holding ?_))
    rw [if_neg Bool.false_ne_true, if_pos (show (Value.none == Value.none) = true from rfl)]
    refine wpL_bind' (wpAny_rule ?_)
    refine wpL_bind (call_next hh hl hroom ho hgo hgs hgoes (fun v s₁ gs' m e hv => ?_) fun s₁ hp e h' hS hk => ?_)
    · subst e
      obtain ⟨acc, c, hS, hsz, hNs, hls, hZ, hkap⟩ := hv
      obtain ⟨o1, ho1, hg1⟩ := hZ (a, g) (List.mem_append_right _ (List.mem_singleton.mpr rfl))
      refine wpL_pure ?_
      try dsimp only
      refine segL_bind (wpAny_typeOf (T := "generator") ⟨o1, ho1, hg1.1⟩ ?_)
      try dsimp only
      first
        | (refine segL_bind (wpAny_of_eq close_gen ?_); refine segL_bind (wpAny_pure ?_))
        | refine segL_bind (wpAny_bind (wpAny_of_eq close_gen (wpAny_pure ?_)))
        | refine segL_bind (wpAny_of_eq close_gen ?_)
      try dsimp only
      refine segL_bind (wpAny_slept (s := s₁.setGen g gs') ho1 hg1 fun f hf1 hgf => ?_)
      have hgf : GOb g 1 (f o1) := hgf
      have hSa : C.S ≠ a := fun e => ha (Gz.mem_as.mpr (.inl e.symm))
      have hZa : ∀ p ∈ C.Z, p.1 ≠ a := fun p hp e => ha (Gz.mem_as.mpr (.inr ⟨p, hp, e⟩))
      have up1 : ∀ b, b ≠ a → (s₁.heap.update a f).get? b = s₁.heap.get? b := fun b hb => Heap.get?_update_other _ _ (Ne.symm hb)
      have hlim1 : (s₁.heap.update a f).NoLimit := by
        obtain ⟨mc, hns, hnn⟩ := hls
        exact ⟨mc, hns.at' fun o e => (up1 _ hca).trans e, hnn⟩
      have hgz : g < s₁.gens.size := hNs
      have sz1 : (s₁.setGen g gs').gens.size = s₁.gens.size := GenW.setGen_size _ _ _
      refine segL_yield hsp ⟨hgd, .inr ⟨rfl, .ref a, [.bool false, .none], [], rfl, gob_dlg hf1 hgf⟩⟩ ?_
      refine ⟨acc, c, (up1 _ hSa).trans hS, hsz, ?_, hlim1, fun p hp => ?_, fun s2 z => ?_⟩
      · show C.N ≤ (s₁.setGen g gs').gens.size
        omega
      · obtain ⟨o', e', h'⟩ := hZ p (List.mem_append_left _ hp)
        exact ⟨o', (up1 _ (hZa p hp)).trans e', h'⟩
      · have e2 : s2.heap.get? a = some (f o1) := z.keep a _ ha hf1
        show SegL _ _ _ _ m s2 _ (Builtin.Generator.sleptOver (.ref a) false >>= fun _ => _) fs s2
        refine segL_bind (wpAny_slept e2 hgf fun f2 hf2 hgf2 => ?_)
        have hgf2 : GOb g 0 (f2 (f o1)) := hgf2
        try dsimp only
        refine segL_bind (wpAny_pure ?_)
        have hgne : ∀ p ∈ C.Z, p.2 ≠ g := fun p hp => Nat.ne_of_lt (hg p hp)
        have hgs2 : s2.gens[g]? = some gs' := by
          rw [z.gens g fun p hp => hgne p hp]
          exact setGen_at hgz
        have up2 : ∀ b, b ≠ a → (s2.heap.update a f2).get? b = s2.heap.get? b := fun b hb => Heap.get?_update_other _ _ (Ne.symm hb)
        have hlim2 : (s2.heap.update a f2).NoLimit := by
          obtain ⟨mc, hns, hnn⟩ := hlim1
          exact ⟨mc, hns.at' fun o e => (up2 _ hca).trans (z.keep _ o hc e), hnn⟩
        exact segL_again (plainId_quiet plain_yf _) (ih m (Nat.lt_succ_self m) s2 { s2 with heap := s2.heap.update a f2 } gs' _ hlim2 hf2 hgf2 hgs2 (hkap _ (slp_sub ha hgne hgz z hf2 hgf2)))
    · obtain ⟨b, oe, vs, rfl, hoa, hcls, hdat, h5⟩ := hS
      try dsimp only
      refine segL_bind (wpAny_endsTurn hoa hcls ?_)
      try dsimp only
      rw [if_pos rfl]
      first
        | refine segL_bind (wpAny_rule ?_)
        | (rw [if_neg Bool.false_ne_true]; refine segL_bind (wpAny_rule ?_))
        | (rw [if_neg Bool.false_ne_true]; refine segL_bind (wpAny_pure ?_); refine segL_bind (wpAny_rule ?_))
      refine segL_bind (wpAny_field hoa hdat h5 ?_)
      exact hend n s₀ s s₁ h' hp hk
end GX
set_option Elab.async false
set_option linter.all false
set_option maxRecDepth 100000
set_option maxHeartbeats 1000000
namespace GX
open PySem PySem.Spec PyProof.Rows GenW L2 LA

theorem segLw_bind2 {M : Model} {A : Around} {R : GenEnd} {Y : Protocol} {n : Nat} {s₀ s : Shared} {c : Code} {fs : List Frame} {α β γ : Type} {m : Sem α} {f : α → Sem β} {f2 : β → Sem γ} {K : γ → Sem PySem.Fin} {J : Value → Sem PySem.Fin} {gd : Bool → Bool} {lv : List Value → List Value}
    (h : wpAny M (A.over c fs) m (fun a s' => SegL M A R Y n s₀ c ((f a).wrap (fun b => (f2 b).wrap K J gd lv) J gd lv) fs s') (fun x s' => SegL M A R Y n s₀ c (J x) fs s') s) : SegL M A R Y n s₀ c (((m >>= f) >>= f2).wrap K J gd lv) fs s := by
  rw [Sem.bind_eq_wrap' (m >>= f) f2, Sem.wrap_wrap]
  exact segL_bind_wrap h
section
variable {X : Cx} {pins : List (Addr × Obj)} {σ : L2.St} {H : Hp} {s : Shared}
/-- what a generator may find changed when it wakes: pinned here, none of this frame's -/
def ExP (X : Cx) (pins : List (Addr × Obj)) (ex : List Addr) : Prop := ∀ b ∈ ex, Apt X b ∧ ∃ o, (b, o) ∈ X.pn ++ pins
theorem exA_of {ex : List Addr} (I : Inv X pins σ H s) (h : ExP X pins ex) : ExA X.base X.stack H s.heap ex where
  lt := fun b hb => by
    obtain ⟨_, o, hm⟩ := h b hb
    exact Heap.lt_size (I.pin _ hm).1
  no := fun b hb => by
    obtain ⟨_, o, hm⟩ := h b hb
    exact (I.pin _ hm).2.1
  fs := fun b hb z => by
    obtain ⟨_, o, hm⟩ := h b hb
    obtain ⟨_, _, h3, h4, _⟩ := I.pin _ hm
    exact (List.mem_cons.mp (I.stkSub b z)).elim h3 h4
  bs := fun b o e hb => by
    obtain ⟨⟨h1 | h1, _⟩, _⟩ := h b hb
    · exact I.ok.noex b o e h1
    · exact absurd (Nat.lt_of_lt_of_le (Heap.lt_size e) (Nat.le_trans I.ok.bsz h1)) (Nat.lt_irrefl _)
/-- an expression whose value is a generator that has not begun; it hands out at most m things -/
abbrev TGenN := L2.St → Hp → Nat → (List V → Hp → Prop) → Prop
structure PGenN (X : Cx) (k : Nat) (e : Expr) (tg : TGenN) : Prop where
  run : ∀ (pins : List (Addr × Obj)) (s : Shared) (σ : L2.St) (H : Hp) (m : Nat) (cont : List V → Hp → Prop) (ex : List Addr), Inv X pins σ H s → tg σ H m cont → ExP X pins ex →
    wpAny (model X.prog X.w) X.A (eval e X.env) (fun u s' => ∃ H1 sc, Inv X pins σ H1 sc ∧ s.gens.size ≤ sc.gens.size ∧ GMadeN X.prog X.w k X.stack H1 sc ex m cont u s') X.xe s
variable {k : Nat} {f C0 : Addr} {fd : FuncData} {ps : List Str} {sp : SpN} {dvs : List V} {ds : List Value} {x m : Str} {p pos pos' apos : Pos} {o : Expr} {ta : TE}
theorem run_gfnN {us : List Value} {vs : List V} {mm : Nat} {cont : List V → Hp → Prop} {ex : List Addr} {E1 : Value → Shared → Prop} (F : GFnN X.prog X.w X.K X.mg X.base k f fd ps sp) (hr : Room k X.A) (hb : Binds X.K fd ps ds) (hd : Vals dvs ds)
    (I : Inv X pins σ H s) (hex : ExP X pins ex) (r : Vals vs us) (h : sp (vs ++ dvs) H mm cont) {n : Nat} (hn : n ≤ s.gens.size) :
    wpAny (model X.prog X.w) X.A (call (.ref f) us) (fun u s' => ∃ H1 sc, Inv X pins σ H1 sc ∧ n ≤ sc.gens.size ∧ GMadeN X.prog X.w k X.stack H1 sc ex mm cont u s') E1 s := by
  have r2 : Vals (vs ++ dvs) (us ++ ds) := r.append hd
  have hl2 : (us ++ ds).length = ps.length := by rw [← r2.length]; exact F.len _ _ _ _ h
  refine wpAny_call (codeAny_mono (F.run X.A X.stack s H ⟨us, []⟩ (us ++ ds) (vs ++ dvs) mm cont ex hr I.env0 (exA_of I hex) (hb s us I.kIn hl2) r2 h) fun r s' hq => ?_)
  cases r with
  | error e => exact False.elim hq
  | ok fl =>
    cases fl with
    | ret u => exact ⟨H, s, I, hn, hq⟩
    | next => exact False.elim hq
    | brk => exact False.elim hq
    | cont => exact False.elim hq
def tCallN (sp : SpN) (dvs : List V) (t : TA) : TGenN := fun σ H mm cont => t σ H fun vs H1 => sp (vs ++ dvs) H1 mm cont
/-- f(e, ..) of a generator def -/
theorem pgenN_call {e : Expr} {es : List Expr} {t : TA} (F : GFnN X.prog X.w X.K X.mg X.base k f fd ps sp) (hr : Room k X.A) (hg : Gl X x) (hm : X.mg x = some (.ref f)) (hk : PySem.W.keepIn X.K (.ref f) = true) (hb : Binds X.K fd ps ds) (hd : Vals dvs ds)
    (ha : PA X (e :: es) t) (hdb : (x == ("__debug__" : Str)) = false := by decide) (he : starEach (e :: es) X.env = (false, eval e X.env) :: starEach es X.env := by rfl) (hpl : (backTo pos' (starEach es X.env)).any (·.1) = false := by rfl) :
    PGenN X k (.Call (.Name x p) (e :: es) [] pos') (tCallN sp dvs t) := by
  refine ⟨fun pins s σ H mm cont ex I h hex => ?_⟩
  refine wpAny_Call_Name_kw (ld_glob I hg hm ?_ hdb)
  refine PySem.W.callWith_K (h₀ := X.base) I.ok.mod.kin hk (wpAny_gsz (Nat.le_refl _) (wpAny_mono (ha.run pos' pins s σ H _ I h) (fun us s1 ⟨vs, H1, I1, r, q⟩ hn => ⟨I1.kIn, ?_⟩) fun _ _ x _ => x)) he hpl
  exact run_gfnN F hr hb hd I1 hex r q hn
def tMeth0N (C0 : Addr) (m : Str) (sp : SpN) (dvs : List V) (ta : TE) : TGenN := fun σ H mm cont => ta σ H fun x H1 => ∃ a dx fs, x = .ref a ∧ H1 a = some (.ins C0 dx fs) ∧ fs.lookup m = none ∧ sp (x :: dvs) H1 mm cont
/-- o.m() of a generator method -/
theorem pgenN_meth0 {pl : Sem Bool} (he : PE X o ta) (c : Cls X.K C0) (hm : Meth X.K C0 m f) (F : GFnN X.prog X.w X.K X.mg X.base k f fd ps sp) (hr : Room k X.A) (hb : Binds X.K fd ps ds) (hd : Vals dvs ds)
    (ht : eval (.Call (.Attribute o m apos) [] [] pos') X.env = (do
      let ov ← eval o X.env
      standAt apos.atName
      let (f, first) ← holding [ov] (getMethod ov m pl)
      callWith pos' f first (backTo pos' (starEach [] X.env)) (backToKw pos' (keywordEach [] X.env))) := by rfl) : PGenN X k (.Call (.Attribute o m apos) [] [] pos') (tMeth0N C0 m sp dvs ta) := by
  refine ⟨fun pins s σ H mm cont ex I h hex => ?_⟩
  refine PySem.W.methodCall_KW (pl := pl) (wpAny_gsz (Nat.le_refl _) (wpAny_mono (he.run pins s σ H _ I h) (fun u s1 ⟨x, H1, I1, rx, a, dx, fs, ex', ea, l, q⟩ hn => ?_) fun _ _ x _ => x)) ht
  subst ex'
  obtain rfl : u = Value.ref a := rx
  refine getmeth_ok I1 ea c hm l ?_
  exact PySem.W.callWith_K0 (first := [.ref a]) I1.kIn hm.kp (run_gfnN (us := [.ref a]) (vs := [.ref a]) F hr hb hd I1 hex (.cons rfl .nil) q hn)

/-! ### yield from over a generator -/
def tGFromN (tg : TGenN) : TGn := fun D ys σ H => ∃ m, ys.length + m ≤ sizeLine ∧ tg σ H m fun out H1 => D.nx (ys ++ out) σ H1
/-- the inner one has come to its end -/
theorem GJ.back {C : Gz} {ip zp : List (Addr × Obj)} {ys : List V} {acc : Array Value} {cc : Nat} {H1 H' : Hp} {sc s₁ : Shared} {a : Addr} {g : Nat} {h' : Heap} (I : Inv X ((C.S, lstObj acc cc) :: (zp ++ ip)) σ H1 sc) (z : PZ C.Z zp) (hip : ∀ p ∈ X.pn ++ ip, ∀ b ∈ C.as, p.1 ≠ b) (hA : ∀ b ∈ C.as, Apt X b)
    (hN : C.N ≤ g) (t : At X.prog X.w X.stack H1 sc C.as (C.sub a g) H' ys s₁) (hk : ∀ b o, s₁.heap.get? b = some o → h'.get? b = some o) : GJ X C ip ys σ H' { s₁.setGen g .finished with heap := h' } := by
  have J : Inv X ip σ H' { s₁.setGen g .finished with heap := h' } := by
    exact (I.pins_of fun p hp => I.pin p (List.mem_append_right _ (List.mem_cons_of_mem _ (List.mem_append_right _ hp))) : Inv X ip σ H1 sc).call' (ch := C.as) t.os (t.un.trans (Un.kept hk)) (t.hok.kept hk) (allBare_setGen t.bare rfl) fun b hb => ⟨(hA b hb).1, (hA b hb).2.1, (hA b hb).2.2, fun p hp => hip p hp b hb⟩
  obtain ⟨accS, cS, eS, rS⟩ := t.atS
  obtain ⟨_, _, p3, p4, _⟩ := I.pin (C.S, lstObj acc cc) (List.mem_append_right _ List.mem_cons_self)
  refine GJ.mk ?_ J rS (hk _ _ eS) ⟨t.no C.S (Gz.mem_sub.mpr (.inl (Gz.mem_as.mpr (.inl rfl)))), p3, p4⟩ fun p hp => ?_
  · have q := t.nn
    have q : g + 1 ≤ s₁.gens.size := q
    show C.N ≤ (s₁.setGen g .finished).gens.size
    rw [GenW.setGen_size]
    omega
  · obtain ⟨o, hm, _⟩ := z.get p hp
    obtain ⟨_, _, q3, q4, _⟩ := I.pin (p.1, o) (List.mem_append_right _ (List.mem_cons_of_mem _ (List.mem_append_left _ hm)))
    obtain ⟨o2, e2, g2⟩ := t.atZ p (List.mem_append_left _ hp)
    exact ⟨o2, g2, hk _ _ e2, t.no p.1 (Gz.mem_sub.mpr (.inl (Gz.mem_as.mpr (.inr ⟨p, hp, rfl⟩)))), q3, q4⟩
theorem exP_nest {C : Gz} {ip zp : List (Addr × Obj)} {ob : Obj} (z : PZ C.Z zp) (hA : ∀ b ∈ C.as, Apt X b) : ExP X ((C.S, ob) :: (zp ++ ip)) C.as := fun b hb => by
  refine ⟨hA b hb, ?_⟩
  rcases Gz.mem_as.mp hb with rfl | ⟨p, hp, rfl⟩
  · exact ⟨ob, List.mem_append_right _ List.mem_cons_self⟩
  · obtain ⟨o, hm, _⟩ := z.get p hp
    exact ⟨o, List.mem_append_right _ (List.mem_cons_of_mem _ (List.mem_append_left _ hm))⟩
theorem gs_yieldFrom {e : Expr} {yp pos : Pos} {tg : TGenN} (he : PGenN X k e tg) (hr : Room (k + 2) X.A) (hi : interactive X.env = false := by rfl) : GS X (.Expr (.YieldFrom e yp) pos) (tGFromN tg) := by
  refine ⟨fun A C ip R n ys s₀ c fs K J gd lv s σ H D gc hn kk hI ht => ?_⟩
  obtain ⟨mm, hmm, ht⟩ := ht
  rw [exec_Expr X.env _ pos hi rfl]
  show SegL _ _ _ _ n s₀ c (.at pos fun _ => ((eval e X.env >>= fun v => (standAt yp >>= fun _ => yieldFrom X.env v)) >>= fun x => dropValue (.YieldFrom e yp) pos x).wrap K J gd lv) fs s
  refine segL_at ?_
  obtain ⟨hN, acc, cc, zp, r, z, I⟩ := hI
  refine segLw_bind2 ?_
  rw [gc.over]
  refine wpAny_mono (he.run _ s σ H mm _ C.as I ht (exP_nest z gc.apt)) (fun v s1 hv => ?_) fun x s' hx => kk.exc n s₀ x s' hx
  obtain ⟨H1, sc, I1, hsz, a, g, cd, rfl, ha1, ha2, hgen, hg1, hg2, hgs, os1, ba1, lim1, kp1, wake⟩ := hv
  refine segL_at ?_
  show SegL _ _ _ _ n s₀ c ((yieldFrom X.env (.ref a)).wrap (fun b => (dropValue (.YieldFrom e yp) pos b).wrap K J gd lv) J gd lv) fs s1
  unfold yieldFrom
  refine segL_bind_wrap (wpAny_typeOf hgen.typeIs ?_)
  rw [if_neg (show ¬ ((Value.type "generator" == Value.type "coroutine") = true) by decide)]
  refine segL_bind_wrap (wpAny_holding (wpAny_pyIter_gen hgen ?_))
  refine segL_call fun p => ?_
  obtain ⟨o0, eo0, go0⟩ := gob_of hgen
  have hno : a ∉ C.as := fun hb => by
    obtain ⟨_, ob, hm⟩ := exP_nest (ob := lstObj acc cc) (ip := ip) z gc.apt a hb
    exact absurd (Nat.lt_of_lt_of_le (Heap.lt_size (I1.pin _ hm).1) ha1) (Nat.lt_irrefl _)
  have hNg : C.N ≤ g := Nat.le_trans hN (Nat.le_trans hsz hg1)
  have bsr : ∀ b ∈ C.as, X.base.get? b = none := fun b hb => by
    cases q : X.base.get? b with
    | none => rfl
    | some o => exact absurd hb ((exA_of I (exP_nest z gc.apt)).bs b o q)
  obtain ⟨mc, ⟨oc, esc, epc, hoc, _⟩, _⟩ := I.mod.nolimit
  have hc : cStatics ∉ C.as := fun hb => by
    have q := bsr _ hb
    rw [hoc] at q
    cases q
  have hca : cStatics ≠ a := fun q => by
    have h1 := Heap.lt_size (I1.bk _ _ hoc)
    rw [q] at h1
    exact absurd (Nat.lt_of_lt_of_le h1 ha1) (Nat.lt_irrefl _)
  have szR : (s1.setGen g .running).gens.size = s1.gens.size := GenW.setGen_size _ _ _
  have pinS := I1.pin (C.S, lstObj acc cc) (List.mem_append_right _ List.mem_cons_self)
  refine segL_yf (X := X) (B := X.A.in1) (C := C) (g := g) (F := FN X.prog X.w X.stack H1 sc C.as (C.sub a g) ys fun out H' => D.nx (ys ++ out) σ H') ?_ hr.hd ?_ ?_ ?_ hno hc hca (fun p hp => Nat.lt_of_lt_of_le (gc.zn p hp) hNg) hNg
    (fun n' s₀' s' s₁ h' hF hk => ?_) n s₀ s1 _ o0 lim1 eo0 go0 hgs ⟨rfl, ?_⟩
  · refine (over_plain (plainId_weight plain_yf _) (plainId_units plain_yf _)).trans ?_
    rw [gc.over]
  · have q := hr.dp
    show X.A.depth < _
    omega
  · show (splitAtGen fs).map _ = none
    rw [gc.split]; rfl
  · show (gd false || fs.any Frame.guarded) = false
    rw [gc.gd, gc.guard]; rfl
  · obtain ⟨H', out, hn', hat, hq⟩ := hF
    exact segL_leaf (.ok (.ret .none)) (kk.ok n' (ys ++ out) s₀' _ .next hn' ⟨σ, H', GJ.back I1 z gc.ip gc.apt hNg hat hk, hq⟩)
  · refine wake _ (C.sub a g) ys n (s1.setGen g .running) hr.in1.in1 I1.ok.frames (fun p hp => ?_) ?_ (fun p hp => ?_) ⟨acc, cc, kp1 _ _ pinS.1, r⟩ hn hmm (fun b hb => ?_) (fun b o e => e) os1 (allBare_setGen ba1 rfl)
    · show p.2 < g + 1
      rcases Gz.sub_cases hp with hp | rfl
      · exact Nat.lt_succ_of_lt (Nat.lt_of_lt_of_le (gc.zn p hp) hNg)
      · exact Nat.lt_succ_self _
    · show g + 1 ≤ _
      omega
    · rcases Gz.sub_cases hp with hp | rfl
      · obtain ⟨o, hm, hg⟩ := z.get p hp
        exact ⟨o, kp1 _ _ (I1.pin (p.1, o) (List.mem_append_right _ (List.mem_cons_of_mem _ (List.mem_append_left _ hm)))).1, hg⟩
      · exact ⟨o0, eo0, go0⟩
    · rcases Gz.mem_sub.mp hb with hb | rfl
      · exact .inl hb
      · exact .inr (Nat.le_refl _)
end
end GX
set_option Elab.async false
set_option linter.all false
set_option maxRecDepth 100000
set_option maxHeartbeats 1000000
namespace GX
open PySem PySem.Spec PyProof.Rows GenW L2 LA

/-! ### list(g) -/
abbrev one (S a : Addr) (g : Nat) : Gz := ⟨S, [(a, g)], g + 1⟩
theorem one_as {S a b : Addr} {g : Nat} : b ∈ (one S a g).as ↔ b = S ∨ b = a := by
  rw [Gz.mem_as]
  constructor
  · rintro (h | ⟨p, hp, h⟩)
    · exact .inl h
    · rw [List.mem_singleton.mp hp] at h
      exact .inr h.symm
  · rintro (h | h)
    · exact .inl h
    · exact .inr ⟨(a, g), List.mem_singleton.mpr rfl, h.symm⟩
theorem slp_one {S a : Addr} {g : Nat} {v : Value} {s₁ : Shared} {gs : GenState} (hSa : S ≠ a) (hgl : g < s₁.gens.size) {acc : Array Value} {c : Nat} (hS : s₁.heap.get? S = some (lstObj acc c)) :
    Slp (one S a g) v s₁ (({ s₁.setGen g gs with heap := s₁.heap.update S (Obj.mapSeq (·.push v)) } : Shared).setGen g .running) := by
  have up : ∀ b, b ≠ S → (s₁.heap.update S (Obj.mapSeq (·.push v))).get? b = s₁.heap.get? b := fun b hb => Heap.get?_update_other _ _ (Ne.symm hb)
  have sz : (s₁.setGen g gs).gens.size = s₁.gens.size := GenW.setGen_size _ _ _
  refine ⟨rfl, fun p hp x hx => ?_, ?_, fun j hj => ?_, fun b o hb e => ?_, fun acc' c' e => ?_, fun p hp o e ho => ?_⟩
  · obtain rfl := List.mem_singleton.mp hp
    have q : (({ s₁.setGen g gs with heap := s₁.heap.update S (Obj.mapSeq (·.push v)) } : Shared).setGen g .running).gens[g]? = some .running := setGen_at (by show g < (s₁.setGen g gs).gens.size; omega)
    rw [q] at hx
    cases hx
    rfl
  · rw [GenW.setGen_size]
    show s₁.gens.size ≤ (s₁.setGen g gs).gens.size
    omega
  · have hjg : j ≠ g := fun e => hj (a, g) (List.mem_singleton.mpr rfl) e.symm
    rw [setGen_ne hjg]
    exact setGen_ne hjg
  · exact (up b fun q => hb (one_as.mpr (.inl q))).trans e
  · rw [hS] at e
    cases e
    exact ⟨_, Heap.get?_update_self _ hS rfl⟩
  · obtain rfl := List.mem_singleton.mp hp
    exact ⟨o, (up a (Ne.symm hSa)).trans e, ho⟩
section
variable {P : Program} {w : World} {outer : List Env} {H : Hp} {sc : Shared} {ex : List Addr} {Q : List V → Hp → Prop} {A : Around} {R : Result → Shared → Prop} {S a : Addr} {g : Nat} {res : Value}
theorem drainL (hh : A.handled = none) (hd : A.depth < recursionLimit) (hSa : S ≠ a) (hSc : cStatics ≠ S)
    (hend : ∀ s₁ h' H' ys, At P w outer H sc ex (one S a g) H' ys s₁ → (∀ b o, s₁.heap.get? b = some o → h'.get? b = some o) → ys.length ≤ sizeLine → Q ys H' → R (.ok (.ret res)) { s₁.setGen g .finished with heap := h' }) :
    ∀ (m : Nat) (s : Shared) (gs : GenState) (o : Obj), s.heap.NoLimit → s.heap.get? a = some o → GOb g 0 o → s.gens[g]? = some gs → GoesL (model P w) A.in1.in1 (RN P w outer H sc ex (one S a g) [] Q) (GY (one S a g)) m gs (.send .none) (s.setGen g .running) →
      codeL (model P w) A (.builtin "list.extend.loop" ⟨[.ref S, .ref a, res], []⟩) R s := by
  intro m
  induction m with
  | zero =>
    intro s gs o hl ho hgo hgs hgoes
    refine codeL_builtin F.entry_extend_loop ?_
    rw [Around.under_plainId F.plain_extend_loop _]
    show wpL _ A.in1 (pyNext (.ref a) >>= _) _ _ s
    refine wpL_bind (next_genL (A := A.in1) hh hl hd ho hgo hgs hgoes (fun v s₁ gs' m e hv => by cases e) fun s₁ hp h' hk => ?_)
    obtain ⟨H', out, hn, hat, hq⟩ := hp
    exact wpL_pure (hend s₁ h' H' _ hat hk (by omega) hq)
  | succ m ih =>
    intro s gs o hl ho hgo hgs hgoes
    refine codeL_builtin F.entry_extend_loop ?_
    rw [Around.under_plainId F.plain_extend_loop _]
    show wpL _ A.in1 (pyNext (.ref a) >>= _) _ _ s
    refine wpL_bind (next_genL (A := A.in1) hh hl hd ho hgo hgs hgoes (fun v s₁ gs' m' e hv => ?_) fun s₁ hp h' hk => ?_)
    · cases e
      obtain ⟨acc, c, hS, hsz, hN, hlim, hZ, hkap⟩ := hv
      obtain ⟨o1, ho1, hg1⟩ := hZ (a, g) (List.mem_singleton.mpr rfl)
      have hgl : g < s₁.gens.size := hN
      show wpL _ A.in1 (updateSeq S (·.push v) >>= _) _ _ _
      refine wpL_bind' (wpAny_updateSeq (s := s₁.setGen g gs') hS rfl ?_ (by omega) (by show (acc.push v).size ≤ sizeLine + 1; rw [Array.size_push]; omega))
      refine wpL_pure ⟨plainId_quiet F.plain_extend_loop _, ?_⟩
      have up : ∀ b, b ≠ S → (s₁.heap.update S (Obj.mapSeq (·.push v))).get? b = s₁.heap.get? b := fun b hb => Heap.get?_update_other _ _ (Ne.symm hb)
      refine ih { s₁.setGen g gs' with heap := s₁.heap.update S (Obj.mapSeq (·.push v)) } gs' o1 ?_ ((up a (Ne.symm hSa)).trans ho1) hg1 (setGen_at hgl) (hkap _ (slp_one hSa hgl hS))
      obtain ⟨mc, hns, hnn⟩ := hlim
      exact ⟨mc, hns.at' fun o e => (up _ hSc).trans e, hnn⟩
    · obtain ⟨H', out, hn, hat, hq⟩ := hp
      exact wpL_pure (hend s₁ h' H' _ hat hk (by omega) hq)
end
section
variable {P : Program} {w : World} {A : Around} {E : Value → Shared → Prop} {s : Shared}
theorem wpL_specialR {self : Value} {rest : List Value} {T : String} {name : Str} {id : String} {b : Builtin} {Q : Option Value → Shared → Prop} (hT : s.TypeIs self T) (h : Slot T name id) (hb : entryFor table id = some b) (ha : argsOk id ⟨self :: rest, []⟩)
    (hc : codeL (model P w) A (.call (.builtin id) ⟨self :: rest, []⟩) (fun r s' => match r with | .ok (.ret v) => Q (some v) s' | .ok _ => False | .error e => E e s') s) : wpL (model P w) A (callSpecial? self name rest) Q E s := by
  simp only [callSpecial?]
  refine wpL_bind' (wpAny_specialOf hT h.lookup ?_)
  simp only [h.bind]
  refine wpL_holding (wpL_bind' (wpAny_pure (wpL_bind (wpL_mono (wpL_call (Q := fun v s' => Q (some v) s') hc) (fun v s' h' => wpL_pure h') fun _ _ x => x))))
/-- T(..) of a built-in kind, its making quiet, its filling loud -/
theorem callL_list {v : Value} {Q : Value → Shared → Prop} (h : ∀ s₁, s₁ = { s with heap := s.heap.push { cls := .type "list", data := .seq #[] } } → wpL (model P w) A.in1.in1 (Builtin.«list.__init__» ⟨[.ref s.heap.objs.size, v], []⟩)
      (fun fin s' => match fin with | .done f => f = .ret .none ∧ Q (.ref s.heap.objs.size) s' | .again c' => c'.quiet = true ∧ codeL (model P w) A.in1 c' (fun r s' => match r with | .ok f => f = .ret .none ∧ Q (.ref s.heap.objs.size) s' | .error e => E e s') s')
      E s₁) : wpL (model P w) A (call (.type "list") [v]) Q E s := by
  refine wpL_call (codeL_tree ?_)
  show wpL _ _ (callAny (.type "list") _) _ _ _
  refine wpL_pure ⟨Code.quiet_builtin _ (by decide +kernel), codeL_builtin F.entry_type_call ?_⟩
  rw [Around.under_plain (weight_type_call_type "list" [v] []) rfl]
  obtain ⟨c, tl, hmro⟩ := F.called_list.mro
  have hmade := F.called_list.made
  unfold Builtin.«type.__call__»
  dsimp only
  rw [if_neg (by decide)]
  have h2 := F.called_list.canCreate
  first | rw [if_neg (by rw [h2]; decide)] | rw [if_neg (by simp [h2])]
  refine wpL_bind' (wpAny_of_eq (F.typeCall_list_1 v) ?_)
  refine wpL_bind' (wpAny_of_eq hmro ?_)
  rw [if_neg (by simp)]
  refine wpL_bind' (wpAny_of_eq hmade ?_)
  dsimp only
  refine wpL_bind' (wpAny_pure ?_)
  refine wpL_bind' (wpAny_holding (wpAny_call (codeAny_mono (code_list_new (E := E) (Q₁ := fun obj s₁ => obj = .ref s.heap.objs.size ∧ s₁ = { s with heap := s.heap.push { cls := .type "list", data := .seq #[] } }) v ⟨rfl, rfl⟩) fun r s₁ hr => ?_)))
  cases r with
  | error e => exact hr
  | ok fl =>
    cases fl with
    | next => exact False.elim hr
    | brk => exact False.elim hr
    | cont => exact False.elim hr
    | ret obj =>
      obtain ⟨rfl, rfl⟩ := hr
      have hS : (s.heap.push { cls := .type "list", data := .seq #[] }).get? s.heap.objs.size = some { cls := .type "list", data := .seq #[] } := Heap.get?_push_size _ rfl
      refine wpL_bind' (wpAny_isInstance (T := "list") (b := true) ⟨_, hS, rfl⟩ sub_list_self ?_)
      rw [if_neg (by decide)]
      have hI := h _ rfl
      have ty : ({ s with heap := s.heap.push { cls := .type "list", data := .seq #[] } } : Shared).TypeIs (.ref s.heap.objs.size) "list" := ⟨_, hS, rfl⟩
      refine wpL_bind (wpL_holding (wpL_mono (E := E) (Q := fun r s' => r = some Value.none ∧ Q (.ref s.heap.objs.size) s') ?_ (fun r s' hr => ?_) fun _ _ x => x))
      · refine wpL_specialR (name := Str.ofString "__init__") ty F.slot_list_init F.entry_list_init (F.args_list_init_2 _ _) ?_
        refine codeL_call_builtin F.slot_list_init.plain F.entry_list_init (F.slot_list_init.check _ _ _ _ _ _ _ _ ty (F.args_list_init_2 _ _) ?_)
        refine wpL_mono hI (fun fin s' hf => ?_) fun _ _ x => x
        cases fin with
        | done f =>
          obtain ⟨rfl, hq⟩ := hf
          exact ⟨rfl, hq⟩
        | again c' =>
          refine ⟨hf.1, codeL_mono hf.2 fun r s' hr => ?_⟩
          cases r with
          | error e => exact hr
          | ok f =>
            obtain ⟨rfl, hq⟩ := hr
            exact ⟨rfl, hq⟩
      · obtain ⟨rfl, hq⟩ := hr
        dsimp only
        rw [if_neg (by decide)]
        exact wpL_pure hq
end
/-- list(g): what g hands out, in a new list -/
theorem call_listL {P : Program} {w : World} {outer : List Env} {H : Hp} {sc s : Shared} {Q : List V → Hp → Prop} {A : Around} {k m : Nat} {u : Value} {Q' : Value → Shared → Prop} {E : Value → Shared → Prop}
    (hr : Room (k + 3) A) (hfr : A.frames = some outer) (hm : m ≤ sizeLine) (h : GMadeN P w k outer H sc [] m Q u s)
    (hQ : ∀ S a g s₁ h' H' ys, s.heap.objs.size ≤ S → At P w outer H sc [] (one S a g) H' ys s₁ → (∀ b o, s₁.heap.get? b = some o → h'.get? b = some o) → ys.length ≤ sizeLine → Q ys H' → Q' (.ref S) { s₁.setGen g .finished with heap := h' }) :
    wpL (model P w) A (call (.type "list") [u]) Q' E s := by
  obtain ⟨a, g, c, rfl, ha1, ha2, hg, hg1, hg2, hgs, hos, hb, hl, hkp, wake⟩ := h
  have hSa : s.heap.objs.size ≠ a := Nat.ne_of_gt ha2
  have hcl : cStatics < s.heap.objs.size := let ⟨_, hn, _⟩ := hl; hn.lt
  have hSc : cStatics ≠ s.heap.objs.size := Nat.ne_of_lt hcl
  refine callL_list fun s₀ e0 => ?_
  subst e0
  have hS : (s.heap.push { cls := .type "list", data := .seq #[] }).get? s.heap.objs.size = some { cls := .type "list", data := .seq #[] } := Heap.get?_push_size _ rfl
  show wpL _ A.in1.in1 (do let old ← Builtin.List.listItems (.ref s.heap.objs.size); Builtin.List.listUpdate (.ref s.heap.objs.size) (fun _ => #[]); letGo old.toList.reverse; Builtin.List.listExtendWith (.ref s.heap.objs.size) (.ref a) .none) _ _ _
  refine wpL_bind' ?_
  unfold Builtin.List.listItems
  refine wpAny_bind (wpAny_seqItems hS rfl (wpAny_pure ?_))
  show wpL _ A.in1.in1 (updateSeq s.heap.objs.size (fun _ => #[]) >>= fun _ => letGo (#[] : Array Value).toList.reverse >>= fun _ => Builtin.List.listExtendWith (.ref s.heap.objs.size) (.ref a) .none) _ _ _
  refine wpL_bind' (wpAny_updateSeq hS rfl ?_)
  have hS2 := Heap.get?_update_self (Obj.mapSeq (fun _ => (#[] : Array Value))) hS rfl
  refine wpL_bind' (wpAny_letGo ?_)
  unfold Builtin.List.listExtendWith
  have up : ∀ (h : Heap) (f : Obj → Obj), (∀ b o, s.heap.get? b = some o → h.get? b = some o) → ∀ b o, s.heap.get? b = some o → (h.update s.heap.objs.size f).get? b = some o := fun h f q b o e =>
    (Heap.get?_update_other _ _ (Ne.symm (Nat.ne_of_lt (Heap.lt_size e)))).trans (q b o e)
  have k1 : ∀ b o, s.heap.get? b = some o → (s.heap.push { cls := .type "list", data := .seq #[] }).get? b = some o := fun b o e => Heap.get?_push_of_some _ e
  have k2 := up _ (Obj.mapSeq (fun _ => (#[] : Array Value))) k1
  have gty : ∀ {h : Heap}, (∀ b o, s.heap.get? b = some o → h.get? b = some o) → h.IsGen a g := fun {h} q => hg.keeps q
  refine wpL_bind' (wpAny_typeOf (Heap.IsGen.typeIs (s := { s with heap := _ }) (gty k2)) ?_)
  have h1 : Builtin.List.listSameRef (.ref s.heap.objs.size) (.ref a) = false := by simp [Builtin.List.listSameRef, hSa]
  have h2 : (Value.type "generator" == Value.type "list") = false := by decide
  have h3 : (Value.type "generator" == Value.type "tuple") = false := by decide
  simp only [h1, h2, h3, Bool.or_false, Bool.false_eq_true, if_false]
  refine wpL_bind' (wpAny_pyIter_gen (s := { s with heap := _ }) (gty k2) ?_)
  refine wpL_bind' (wpAny_holding ?_)
  unfold Builtin.List.listLengthHint
  refine wpAny_bind (wpAny_specialOf (Heap.IsGen.typeIs (s := { s with heap := _ }) (gty k2)) F.gen_no_len ?_)
  show wpAny _ A.in1.in1 (specialOf (Value.ref a) (Str.ofString "__length_hint__") >>= _) _ _ _
  refine wpAny_bind (wpAny_specialOf (Heap.IsGen.typeIs (s := { s with heap := _ }) (gty k2)) F.gen_no_hint ?_)
  refine wpAny_pure ?_
  show wpL _ A.in1.in1 (rule "list.extend.makes-room" >>= fun _ => Builtin.List.listTouch (.ref s.heap.objs.size) >>= fun _ =>
    again (.builtin "list.extend.loop" ⟨[.ref s.heap.objs.size, .ref a, .none], []⟩)) _ _ _
  refine wpL_bind' (wpAny_rule ?_)
  refine wpL_bind' ?_
  show wpAny _ A.in1.in1 (updateSeq s.heap.objs.size (·.push .none) >>= fun _ => updateSeq s.heap.objs.size (·.pop)) _ _ _
  refine wpAny_bind (wpAny_updateSeq hS2 rfl ?_)
  have hS3 := Heap.get?_update_self (Obj.mapSeq (·.push Value.none)) hS2 rfl
  refine wpAny_updateSeq (hz := by seq_fits) hS3 rfl ?_
  have hS4 := Heap.get?_update_self (Obj.mapSeq (·.pop)) hS3 rfl
  have k4 := up _ (Obj.mapSeq (·.pop)) (up _ (Obj.mapSeq (·.push Value.none)) k2)
  refine wpL_pure ⟨plainId_quiet F.plain_extend_loop _, ?_⟩
  obtain ⟨o0, eo0, go0⟩ := gob_of (gty k4)
  have dp := hr.dp
  have un := hr.un
  refine drainL (P := P) (w := w) (outer := outer) (H := H) (sc := sc) (ex := []) (Q := Q) (A := A.in1) (g := g) hr.hd (by show A.depth < _; omega) hSa hSc
    (fun s₁ h' H' ys hat hk hle hq => ⟨rfl, hQ _ a g s₁ h' H' ys (Nat.le_refl _) hat hk hle hq⟩) sizeLine _ _ o0 (hl.keeps k4) eo0 go0 hgs ⟨rfl, ?_⟩
  refine wake A.in1.in1.in1 (one s.heap.objs.size a g) [] sizeLine _ ⟨hr.hd, ?_, ?_⟩ hfr (fun p hp => ?_) ?_ (fun p hp => ?_) ⟨#[], _, hS4, .nil⟩ (Nat.add_zero _) (by simpa using hm) (fun b hb => ?_) k4 hos (allBare_setGen (s := { s with heap := _ }) hb rfl)
  · show A.depth + 3 * k + 5 < _
    omega
  · show A.units + 1 + 1 + 1 + 16 * k + 200 < _
    omega
  · rw [List.mem_singleton.mp hp]
    exact Nat.lt_succ_self _
  · show g + 1 ≤ (Shared.setGen _ g .running).gens.size
    rw [GenW.setGen_size]
    exact hg2
  · rw [List.mem_singleton.mp hp]
    exact ⟨o0, eo0, go0⟩
  · rcases one_as.mp hb with rfl | rfl
    · exact .inr (Nat.le_of_lt ha2)
    · exact .inr (Nat.le_refl _)
end GX
set_option Elab.async false
set_option linter.all false
set_option maxRecDepth 100000
set_option maxHeartbeats 1000000
namespace GX
open PySem PySem.Spec PyProof.Rows GenW L2 LA

/-! ### loud expressions -/
structure PEL (X : Cx) (e : Expr) (t : TE) : Prop where
  run : ∀ (pins : List (Addr × Obj)) (s : Shared) (σ : L2.St) (H : Hp) (Q : VK), Inv X pins σ H s → t σ H Q → wpL (model X.prog X.w) X.A (eval e X.env) (EP X pins σ Q) X.xe s
structure PTL (X : Cx) (e : Expr) (t : TT) : Prop where
  run : ∀ (pins : List (Addr × Obj)) (s : Shared) (σ : L2.St) (H : Hp) (Q : Bool → Hp → Prop), Inv X pins σ H s → t σ H Q → wpL (model X.prog X.w) X.A (isTrue e X.env (eval e X.env)) (TP X pins σ Q) X.xe s
structure PWL (X : Cx) (e : Expr) (t : TT) : Prop where
  run : ∀ (whole : Sem Value) (pins : List (Addr × Obj)) (s : Shared) (σ : L2.St) (H : Hp) (Q : Bool → Hp → Prop), Inv X pins σ H s → t σ H Q → wpL (model X.prog X.w) X.A (isTrue e X.env whole) (TP X pins σ Q) X.xe s
structure PAL (X : Cx) (es : List Expr) (t : TA) : Prop where
  run : ∀ (pos : Pos) (pins : List (Addr × Obj)) (s : Shared) (σ : L2.St) (H : Hp) (Q : List V → Hp → Prop), Inv X pins σ H s → t σ H Q → wpL (model X.prog X.w) X.A (spliced (backTo pos (starEach es X.env))) (AP X pins σ Q) X.xe s
structure PSL (X : Cx) (st : Stmt) (t : TS) : Prop where
  run : ∀ (pins : List (Addr × Obj)) (s : Shared) (σ : L2.St) (H : Hp) (D : Ends), Inv X pins σ H s → t D σ H → wpL (model X.prog X.w) X.A (exec st X.env) (SP X pins D) X.xe s
structure PSsL (X : Cx) (st : List Stmt) (t : TS) : Prop where
  run : ∀ (pins : List (Addr × Obj)) (s : Shared) (σ : L2.St) (H : Hp) (D : Ends), Inv X pins σ H s → t D σ H → wpL (model X.prog X.w) X.A (execs st X.env) (SP X pins D) X.xe s
section
variable {M : Model} {A : Around} {E : Value → Shared → Prop} {s : Shared}
theorem wpL_thn {α : Type} {m : Sem α} {Q Q' : α → Shared → Prop} (h : wpL M A m Q E s) (hQ : ∀ a s, Q a s → Q' a s) : wpL M A m Q' E s := wpL_mono h hQ fun _ _ x => x
theorem wpL_keep {α : Type} {vs : List Value} {m : Sem α} {Q : α → Shared → Prop} (h : wpL M A m Q E s) : wpL M A (m.keep vs) Q E s := fun G c st p K J gd lv hin hK hJ => by
  rw [Sem.keep_eq_wrap, Sem.wrap_wrap]
  exact h G c st p _ _ _ _ hin hK hJ
theorem splicedL_cons {x : Sem Value} {rest : List (Bool × Sem Value)} {Q : List Value → Shared → Prop} (h : wpL M A x (fun v s₁ => wpL M A (spliced rest) (fun vs s₂ => Q (v :: vs) s₂) E s₁) E s) : wpL M A (spliced ((false, x) :: rest)) Q E s := by
  rw [spliced]
  refine wpL_bind (wpL_thn h fun v s₁ h₁ => ?_)
  simp only [Bool.false_eq_true, if_false]
  exact wpL_bind' (wpAny_pure (wpL_bind (wpL_holding (wpL_thn h₁ fun vs s₂ h₂ => wpL_pure h₂))))
theorem evalArgsL {f : Value} {x : Sem Value} {rest : List (Bool × Sem Value)} {Q : Args → Shared → Prop} (h : wpL M A (spliced ((false, x) :: rest)) (fun vs s' => Q ⟨vs, []⟩ s') E s) : wpL M A (evalArgs f true ((false, x) :: rest) []) Q E s := by
  unfold evalArgs
  show wpL M A (spliced ((false, x) :: rest) >>= _) Q E s
  refine wpL_bind (wpL_thn h fun vs s' h' => ?_)
  refine wpL_holding ?_
  exact wpL_bind' (wpAny_pure (wpL_bind' (wpAny_pure (wpL_pure h'))))
theorem callWithL {P : Heap → Prop} {pos : Pos} {f : Value} {first : List Value} {args : List (Bool × Sem Value)} {Q : Value → Shared → Prop} (hplain : args.any (·.1) = false) (hk : ∀ h, P h → ∃ k, (k = Keeper.frame ∨ k = Keeper.machine ∨ k = Keeper.boundFrame) ∧ PySem.W.Looks M h (keeperOf f) k)
    (h : wpL M A (evalArgs f true args []) (fun a s₁ => P s₁.heap ∧ wpL M A (call f (first ++ a.pos) a.kw) Q E s₁) E s) : wpL M A (callWith pos f first args []) Q E s := by
  unfold callWith
  refine wpL_bind (wpL_holding (wpL_thn h fun a s₁ h₁ => wpL_bind' (wpAny_standAt ?_)))
  obtain ⟨k, hk', lk⟩ := hk _ h₁.1
  simp only [hplain, List.any_nil, Bool.or_false]
  refine wpL_bind' (lk.here ?_)
  have tail : ∀ {t : Sem Value}, wpL M A t Q E s₁ → wpL M A (t >>= fun r => holding [r] point >>= fun _ => pure r) Q E s₁ :=
    fun ht => wpL_bind (wpL_thn ht fun r s₂ hr => wpL_bind' (wpAny_holding (wpAny_point (wpL_pure hr))))
  have marked : ∀ mk, wpL M A (callMarked mk f (first ++ a.pos) a.kw) Q E s₁ := fun mk => wpL_keep h₁.2
  rcases hk' with rfl | rfl | rfl <;> dsimp only <;> first | exact tail h₁.2 | (split <;> first | exact tail h₁.2 | exact tail (marked _))
theorem keeperT {T : String} (h : Heap) (_ : True) : ∃ k, (k = Keeper.frame ∨ k = Keeper.machine ∨ k = Keeper.boundFrame) ∧ PySem.W.Looks M h (keeperOf (.type T)) k :=
  ⟨.machine, .inr (.inl rfl), fun A Q E s _ q => wpAny_pure q⟩
end
section
variable {X : Cx} {e a b : Expr} {es rest : List Expr} {te ta tb : TE} {tA tB' : TT} {t : TA} {pos p : Pos}
theorem PEL.of (h : PE X e te) : PEL X e te := ⟨fun pins s σ H Q I q => wpL_of (h.run pins s σ H Q I q)⟩
theorem PTL.of (h : PT X e tA) : PTL X e tA := ⟨fun pins s σ H Q I q => wpL_of (h.run pins s σ H Q I q)⟩
theorem PWL.of (h : PW X e tA) : PWL X e tA := ⟨fun wh pins s σ H Q I q => wpL_of (h.run wh pins s σ H Q I q)⟩
theorem PAL.of (h : PA X es t) : PAL X es t := ⟨fun pos pins s σ H Q I q => wpL_of (h.run pos pins s σ H Q I q)⟩
theorem PEL.imp {t t' : TE} (h : PEL X e t) (f : ∀ σ H Q, t' σ H Q → t σ H Q) : PEL X e t' := ⟨fun pins s σ H Q I q => h.run pins s σ H Q I (f σ H Q q)⟩
theorem PTL.imp {t t' : TT} (h : PTL X e t) (f : ∀ σ H Q, t' σ H Q → t σ H Q) : PTL X e t' := ⟨fun pins s σ H Q I q => h.run pins s σ H Q I (f σ H Q q)⟩
theorem PWL.imp {t t' : TT} (h : PWL X e t) (f : ∀ σ H Q, t' σ H Q → t σ H Q) : PWL X e t' := ⟨fun wh pins s σ H Q I q => h.run wh pins s σ H Q I (f σ H Q q)⟩
theorem PAL.imp {t t' : TA} (h : PAL X es t) (f : ∀ σ H Q, t' σ H Q → t σ H Q) : PAL X es t' := ⟨fun pos pins s σ H Q I q => h.run pos pins s σ H Q I (f σ H Q q)⟩
theorem pal_cons (ha : PEL X e te) (hr : PAL X es t) (hs : starEach (e :: es) X.env = (false, eval e X.env) :: starEach es X.env := by rfl) : PAL X (e :: es) (tCons te t) := by
  refine ⟨fun pos pins s σ H Q I h => ?_⟩
  rw [hs]
  show wpL _ _ (spliced ((false, eval e X.env) :: backTo pos (starEach es X.env))) _ _ s
  refine splicedL_cons (wpL_thn (ha.run pins s σ H _ I h) fun u s1 ⟨x, H1, I1, r1, q1⟩ => ?_)
  exact wpL_thn (hr.run pos pins s1 σ H1 _ I1 q1) fun us s2 ⟨xs, H2, I2, r2, q2⟩ => ⟨x :: xs, H2, I2, .cons r1 r2, q2⟩
/-! ### list(g) -/
def tListN (tg : TGenN) : TE := fun σ H Q => ∃ m, m ≤ sizeLine ∧ tg σ H m fun out H2 => ∀ p, H2 p = none → Q (.ref p) (upd H2 p (.lst out))
theorem pel_listN {k : Nat} {tg : TGenN} {nm : Str} (h : PGenN X k e tg) (hr : Room (k + 3) X.A) (hg : Gl X nm) (hmg : X.mg nm = none) (hv : bootBuiltins nm = some (.type "list")) (hnm : nm ≠ "__name__" := by decide) (hdb : (nm == ("__debug__" : Str)) = false := by decide)
    (he : starEach [e] X.env = (false, eval e X.env) :: starEach [] X.env := by rfl) : PEL X (.Call (.Name nm p) [e] [] pos) (tListN tg) := by
  refine ⟨fun pins s σ H Q I hq => ?_⟩
  obtain ⟨m, hm, hq⟩ := hq
  rw [arm_eval_Call_Name']
  refine wpL_bind' (ld_blt I hg hmg hv ?_ hnm hdb)
  rw [he]
  show wpL _ _ (callWith pos (.type "list") [] ((false, eval e X.env) :: backTo pos (starEach [] X.env)) []) _ _ s
  refine callWithL rfl keeperT (evalArgsL (splicedL_cons (wpL_of (wpAny_mono (h.run pins s σ H m _ [] I hq fun b hb => by simp at hb) (fun u s1 ⟨H1, sc, I1, _, hG⟩ => ?_) fun _ _ x => x))))
  refine wpL_of (Calls.spliced_nil ⟨trivial, ?_⟩)
  have hsz : sc.heap.objs.size ≤ s1.heap.objs.size := by
    obtain ⟨a, g, c, _, h1, h2, _⟩ := hG
    exact Nat.le_trans h1 (Nat.le_of_lt h2)
  refine call_listL hr I1.ok.frames hm hG fun S a g s₁ h' H' ys q0 hat hk hle q8 => ?_
  obtain ⟨acc, c, hS, rS⟩ := hat.atS
  refine ⟨.ref S, upd H' S (.lst ys), I1.drained (ex := []) (Nat.le_trans hsz q0) hle (hk _ _ hS) rS .nil hat.os (allBare_setGen hat.bare rfl) (hat.un.trans (Un.kept hk)) (hat.hok.kept hk) (hat.no S (one_as.mpr (.inl rfl))), rfl, q8 S (hat.no S (one_as.mpr (.inl rfl)))⟩
/-! ### f(e, ..), its arguments loud -/
theorem pel_callSD {CX : CXT} {k : Nat} {f : Addr} {fd : FuncData} {ps : List Str} {sp : Sp} {dvs : List V} {ds : List Value} {E : L2.St → XK} {x : Str} (F : FnOk X.prog X.w X.K X.mg X.base CX k f fd ps sp) (hr : Room k X.A) (hg : Gl X x) (hm : X.mg x = some (.ref f)) (hk : PySem.W.keepIn X.K (.ref f) = true) (hb : Binds X.K fd ps ds) (hd : Vals dvs ds) (hx : ∀ σ, PassesAt CX X σ (E σ))
    (ha : PAL X (e :: es) t) (hdb : (x == ("__debug__" : Str)) = false := by decide) (he : starEach (e :: es) X.env = (false, eval e X.env) :: starEach es X.env := by rfl) (hpl : (backTo pos (starEach es X.env)).any (·.1) = false := by rfl) :
    PEL X (.Call (.Name x p) (e :: es) [] pos) (tCallSD sp dvs E t) := by
  refine ⟨fun pins s σ H Q I h => ?_⟩
  rw [arm_eval_Call_Name']
  refine wpL_bind' (ld_glob I hg hm ?_ hdb)
  have q := ha.run pos pins s σ H _ I h
  rw [he] at q ⊢
  refine callWithL (P := fun h => X.K.In h) (by show (false || (backTo pos (starEach es X.env)).any (·.1)) = false; rw [hpl]; rfl) (PySem.W.keeps_K hk) (evalArgsL (wpL_thn q fun us s1 ⟨vs, H1, I1, r, q⟩ => ⟨I1.kIn, wpL_of ?_⟩))
  exact run_fnSD F hr hb hd (hx σ) I1 r q
/-! ### and, or, not -/
theorem ptl_val (h : PEL X e te) (he : ∀ whole, isTrue e X.env whole = (do let v ← whole; standAt e.pos; holding [v] (truthy v)) := by intro _; rfl) : PTL X e (tB te) := by
  refine ⟨fun pins s σ H Q I hw => ?_⟩
  rw [he]
  refine wpL_bind (wpL_thn (h.run pins s σ H _ I hw) fun v s1 ⟨x, H1, I1, r1, q1⟩ => wpL_of (wpAny_bind (wpAny_standAt (wpAny_holding ?_))))
  obtain ⟨d, rfl, q⟩ := q1
  cases r1
  exact wpAny_truthy_bool ⟨H1, I1, q⟩
theorem isTrueL_and {x : Expr} {rest : List Expr} {pos : Pos} {whole : Sem Value} {M : Model} {A : Around} {E : Value → Shared → Prop} {s : Shared} {env : Env} {Q : Bool → Shared → Prop} (h : wpL M A (isTrue x env (eval x env)) (fun c s' => if c then wpL M A (isTrue (.BoolOp .And rest pos) env whole) Q E s' else Q false s') E s) : wpL M A (isTrue (.BoolOp .And (x :: rest) pos) env whole) Q E s := by
  show wpL M A (do match BoolOp.And, ← isTrue x env (eval x env) with | .And, false => pure false | .Or, true => pure true | _, _ => allTrue .And rest env) Q E s
  refine wpL_bind (wpL_thn h fun c s' h' => ?_)
  cases c with
  | false => exact wpL_pure h'
  | true => exact h'
theorem isTrueL_or {x : Expr} {rest : List Expr} {pos : Pos} {whole : Sem Value} {M : Model} {A : Around} {E : Value → Shared → Prop} {s : Shared} {env : Env} {Q : Bool → Shared → Prop} (h : wpL M A (isTrue x env (eval x env)) (fun c s' => if c then Q true s' else wpL M A (isTrue (.BoolOp .Or rest pos) env whole) Q E s') E s) : wpL M A (isTrue (.BoolOp .Or (x :: rest) pos) env whole) Q E s := by
  show wpL M A (do match BoolOp.Or, ← isTrue x env (eval x env) with | .And, false => pure false | .Or, true => pure true | _, _ => allTrue .Or rest env) Q E s
  refine wpL_bind (wpL_thn h fun c s' h' => ?_)
  cases c with
  | false => exact h'
  | true => exact wpL_pure h'
theorem pwl_and1 (ha : PTL X a tA) : PWL X (.BoolOp .And [a] pos) tA := by
  refine ⟨fun wh pins s σ H Q I h => isTrueL_and (wpL_thn (ha.run pins s σ H Q I h) fun c s1 e => ?_)⟩
  cases c with
  | true => exact wpL_of (isTrue_and_nil e)
  | false => exact e
theorem pwl_or1 (ha : PTL X a tA) : PWL X (.BoolOp .Or [a] pos) tA := by
  refine ⟨fun wh pins s σ H Q I h => isTrueL_or (wpL_thn (ha.run pins s σ H Q I h) fun c s1 e => ?_)⟩
  cases c with
  | false => exact wpL_of (isTrue_or_nil e)
  | true => exact e
theorem pwl_and (ha : PTL X a tA) (hb : PWL X (.BoolOp .And (b :: rest) pos) tB') : PWL X (.BoolOp .And (a :: b :: rest) pos) (tAnd tA tB') := by
  refine ⟨fun wh pins s σ H Q I h => isTrueL_and (wpL_thn (ha.run pins s σ H _ I h) fun c s1 ⟨H1, I1, q1⟩ => ?_)⟩
  cases c with
  | true => exact hb.run wh pins s1 σ H1 Q I1 q1
  | false => exact ⟨H1, I1, q1⟩
theorem pwl_or (ha : PTL X a tA) (hb : PWL X (.BoolOp .Or (b :: rest) pos) tB') : PWL X (.BoolOp .Or (a :: b :: rest) pos) (tOr tA tB') := by
  refine ⟨fun wh pins s σ H Q I h => isTrueL_or (wpL_thn (ha.run pins s σ H _ I h) fun c s1 ⟨H1, I1, q1⟩ => ?_)⟩
  cases c with
  | true => exact ⟨H1, I1, q1⟩
  | false => exact hb.run wh pins s1 σ H1 Q I1 q1
theorem PWL.pt (h : PWL X e tA) : PTL X e tA := ⟨h.run _⟩
theorem ptl_not (ha : PTL X a tA) : PTL X (.UnaryOp .Not a pos) (tNot tA) := by
  refine ⟨fun pins s σ H Q I h => ?_⟩
  show wpL _ _ (do return !(← isTrue a X.env (eval a X.env))) _ _ s
  exact wpL_bind (wpL_thn (ha.run pins s σ H (fun c H1 => Q (!c) H1) I h) fun c s' h' => wpL_pure h')
/-- e and f as a value, e loud -/
theorem pel_and (ha : PEL X a ta) (hb : PEL X (.BoolOp .And (b :: rest) pos) tb) : PEL X (.BoolOp .And (a :: b :: rest) pos) (tAndV ta tb) := by
  refine ⟨fun pins s σ H Q I h => ?_⟩
  show wpL _ _ (do
    let v ← eval a X.env
    standAt pos
    let c ← holding [v] (truthy v)
    match BoolOp.And, c with
    | .And, false | .Or, true => pure v
    | _, _ => boolOp pos .And (eval b X.env :: evalEach rest X.env)) _ _ s
  refine wpL_bind (wpL_thn (ha.run pins s σ H _ I h) fun v s1 ⟨x, H1, I1, r1, q1⟩ => ?_)
  obtain ⟨c, rfl, q1⟩ := q1
  cases r1
  refine wpL_bind' (wpAny_standAt (wpL_bind' (wpAny_holding (wpAny_truthy_bool ?_))))
  cases c with
  | true => exact hb.run pins s1 σ H1 Q I1 q1
  | false => exact wpL_pure ⟨.bl false, H1, I1, rfl, q1⟩
/-! ### statements -/
variable {st : Stmt} {sts : List Stmt} {u v : TS}
theorem PSL.of (h : PS X st u) : PSL X st u := ⟨fun pins s σ H D I q => wpL_of (h.run pins s σ H D I q)⟩
theorem PSsL.of (h : PSs X sts u) : PSsL X sts u := ⟨fun pins s σ H D I q => wpL_of (h.run pins s σ H D I q)⟩
theorem PSL.imp {t t' : TS} (h : PSL X st t) (f : ∀ D σ H, t' D σ H → t D σ H) : PSL X st t' := ⟨fun pins s σ H D I q => h.run pins s σ H D I (f D σ H q)⟩
theorem PSsL.imp {t t' : TS} (h : PSsL X sts t) (f : ∀ D σ H, t' D σ H → t D σ H) : PSsL X sts t' := ⟨fun pins s σ H D I q => h.run pins s σ H D I (f D σ H q)⟩
theorem pssl_cons (h1 : PSL X st u) (h2 : PSsL X sts v) : PSsL X (st :: sts) (tSeq u v) := by
  refine ⟨fun pins s σ H D I h => ?_⟩
  rw [execs_cons]
  refine wpL_bind (wpL_thn (h1.run pins s σ H { D with nx := v D } I h) fun f s1 q => ?_)
  cases f with
  | next =>
    obtain ⟨σ', H', I', q⟩ := q
    exact h2.run pins s1 σ' H' D I' q
  | ret v => exact wpL_pure q
  | brk => exact wpL_pure q
  | cont => exact wpL_pure q
theorem psl_ret (he : PEL X e te) : PSL X (.Return (some e) pos) (tRet te) := by
  refine ⟨fun pins s σ H D I h => ?_⟩
  rw [exec_Return_some]
  exact wpL_bind' (wpAny_standAt (wpL_bind (wpL_thn (he.run pins s σ H _ I h) fun v s1 ⟨x, H1, I1, r1, q1⟩ => wpL_pure ⟨x, σ, H1, I1, r1, q1⟩)))
theorem psl_if {c : Expr} {a b : List Stmt} {tc : TT} (hc : PTL X c tc) (ha : PSsL X a u) (hb : PSsL X b v) : PSL X (.If c a b pos) (tIfS tc u v) := by
  refine ⟨fun pins s σ H D I h => ?_⟩
  rw [exec_If]
  refine wpL_bind' (wpAny_standAt (wpL_bind (wpL_thn (hc.run pins s σ H _ I h) fun d s1 ⟨H1, I1, q1⟩ => ?_)))
  cases d with
  | true => exact ha.run pins s1 σ H1 D I1 q1
  | false => exact hb.run pins s1 σ H1 D I1 q1
theorem psl_set {i : Nat} {x : Str} {pos' : Pos} (hN : X.N.Nodup) (hi : X.N[i]? = some x) (hx : Loc X.env.scope x) (he : PEL X e te) (hs : swapsWith e (some (.Name x pos')) pos.line X.env = pure false := by rfl) (hf : X.fn x = true ∨ X.env.scope.names.lookup x = some .local := by first | exact .inl rfl | exact .inr rfl) :
    PSL X (.Assign [.Name x pos'] e pos) (tAsg te (gName i)) := by
  refine ⟨fun pins s σ H D I h => ?_⟩
  rw [exec_Assign_Name X.env x pos' e pos hs]
  refine wpL_bind' (wpAny_standAt (wpL_bind (wpL_thn (he.run pins s σ H _ I h) fun v s1 ⟨y, H1, I1, r1, q1⟩ => wpL_of (wpAny_bind (wpAny_standAt (wpAny_bind (wpAny_bindName ?_)))))))
  exact store_ok I1 hN hi hx r1 (fun s2 I2 => wpAny_pure ⟨_, H1, I2, q1⟩) hf
end
end GX
set_option Elab.async false
set_option linter.all false
set_option maxRecDepth 100000
set_option maxHeartbeats 1000000
namespace GX
open PySem PySem.Spec PyProof.Rows GenW L2 LA

/-! ### a def whose body is loud -/
section
variable {prog : Program} {w : World} {A : Around} {s : Shared} {R : Result → Shared → Prop}
theorem codeL_func {body : List Stmt} {env : Env} (h : wpL (model prog w) (A.deeper env) (execs body env) (fun f s' => R (.ok (.ret (match f with | .ret v => v | _ => .none))) s')
    (fun e s' => wpAny (model prog w) (A.deeper env) (leaving env e) (fun _ s'' => R (.error e) s'') (fun e' s'' => R (.error e') s'') s') s) : codeL (model prog w) A (.func body env) R s := by
  refine codeL_tree ?_
  show wpL _ (A.deeper env) (do point; match ← (execs body env).onRaise (leaving env) with | .ret v => ret v | _ => ret .none) _ _ s
  refine wpL_bind' (wpAny_point (wpL_bind (wpL_onRaise (wpL_mono h (fun f s' h' => ?_) fun e s' h' => wpL_of h'))))
  cases f <;> exact wpL_pure h'
theorem codeL_call_function {a : Addr} {args : Args} {o : Obj} {fd : FuncData} {body : List Stmt} (hroom : A.depth < recursionLimit) (ho : s.heap.get? a = some o) (hd : o.data = .func fd) (hco : fd.scope.isCoroutine = false) (hgen : fd.scope.isGenerator = false)
    (hbody : fd.body = .stmts body) (hcd : s.heap.CodeRec fd.code fd.qualname) (h : wpAny (model prog w) A.in1 (bindArgs fd args) (fun binds s₁ =>
      wpAny (model prog w) A.in1 (newFunctionEnv fd.scope fd.globals fd.closure binds (fd.qualname ++ ".<locals>.") (some a) fd.code none fd.builtins) (fun env s₂ => s₂.heap.NoLimit ∧ codeL (model prog w) A (.func body env) R s₂) (fun e s' => R (.error e) s') s₁) (fun e s' => R (.error e) s') s) :
    codeL (model prog w) A (.call (.ref a) args) R s := by
  refine codeL_tree ?_
  show wpL _ A.in1 (callAny (.ref a) args) _ _ s
  simp only [callAny]
  refine wpL_bind' (wpAny_load ho ?_)
  obtain ⟨c, oc, vs, tq, hc, hoc, hdc, hq⟩ := hcd
  simp only [hd, callFunction, hco, hgen, hbody, hc]
  rw [hc] at h
  refine wpL_bind' (m := field (.ref c) 1) (wpAny_field hoc hdc hq (wpL_bind' (wpAny_pure ?_)))
  exact wpL_bind' (wpAny_mono h (fun binds s₁ h₁ => wpL_bind' (wpAny_mono h₁ (fun env s₂ h₂ => wpL_bind' (wpAny_enterFrame h₂.1 hroom (wpL_pure ⟨rfl, h₂.2⟩))) fun _ _ h' => h')) fun _ _ h' => h')
end
structure FnL (P : Program) (w : World) (K : PySem.W.Frag) (mg : Str → Option Value) (base : Heap) (CX : CXT) (k : Nat) (f : Addr) (fd : FuncData) (ps : List Str) (sp : Sp) : Prop where
  len : ∀ vs H Q E, sp vs H Q E → vs.length = ps.length
  run : ∀ (A : Around) (outer : List Env) (s : Shared) (H : Hp) (args : Args) (us : List Value) (vs : List V) (Q : VK) (E : XK), Room k A → Env0 P w K mg base A outer s H → BindsTo s fd args (ps.zip us) → Vals vs us → sp vs H Q E →
    codeL (model P w) A (.call (.ref f) args) (CR CX outer P w H s Q E) s
theorem fnL_of {CX : CXT} {P : Program} {w : World} {K : PySem.W.Frag} {mg : Str → Option Value} {base : Heap} {k : Nat} {f : Addr} {name qual : Str} {params : Arguments} {body : List Stmt} {scope : Scope} {dV kV doc pm cdv ct oc : Value} {an od : Option Addr}
    {osl : Array (Option Value)} {N ps : List Str} {sp : Sp} (lk : K.lookup f = some ⟨oc, od, .func (PySem.W.fnOf name qual params body scope dV kV doc pm an cdv ct), osl⟩) (hcd : PySem.W.codeIn K cdv qual = true) (S : FnScope N ps scope)
    (len : ∀ vs H Q E, sp vs H Q E → vs.length = ps.length)
    (hbody : ∀ (A : Around) (outer : List Env) (s : Shared) (H : Hp) (vs : List V) (Q : VK) (E : XK), Room k (A.deeper (envOfC qual scope s.heap.objs.size f cdv)) → sp vs H Q E →
      ∃ t, PSsL (cxOf CX P w K mg base N qual scope f cdv A outer s H E) body t ∧ t { nx := fun _ H' => Q .non H', rt := Q } (start N vs) H) :
    FnL P w K mg base CX (k + 1) f (PySem.W.fnOf name qual params body scope dV kV doc pm an cdv ct) ps sp := by
  refine ⟨len, fun A outer s H args us vs Q E hr e0 hb r hsp => ?_⟩
  have KX : K.In s.heap := e0.mod.kin.keeps fun b o e => (e0.bs b o e).1
  have lim : s.heap.NoLimit := e0.mod.nolimit.keeps fun b o e => (e0.bs b o e).1
  refine codeL_call_function hr.depth (KX _ _ lk) rfl S.co S.gen rfl (PySem.W.codeRec_of KX hcd) (hb _ _ _ _ (wpAny_newFunctionEnv_cells S.kind (fun ⟨n, v⟩ hy => ?_) fun env he s1 x => ?_))
  · exact (S.par n (List.of_mem_zip hy).1).imp id fun q => ⟨q, PySem.W.cellsFrom_some _ _ _ (.inl q)⟩
  subst he
  obtain ⟨t, ht, hq⟩ := hbody A outer s H vs Q E (hr.deeper _) hsp
  have I := inv_start (CX := CX) (E := E) S hr.hd e0 (len _ _ _ _ hsp) r x
  refine ⟨lim.keeps x.toInCall.keep, codeL_func (wpL_mono (ht.run [] s1 (start N vs) H _ I hq) (fun fl s' hs => ?_) fun e s' hs => hs)⟩
  cases fl with
  | ret u =>
    obtain ⟨v, σ', H', J, rv, q⟩ := hs
    exact ⟨v, H', J.os, J.bare, J.base, J.hok, rv, q⟩
  | next =>
    obtain ⟨σ', H', J, q⟩ := hs
    exact ⟨V.non, H', J.os, J.bare, J.base, J.hok, rfl, q⟩
  | brk =>
    obtain ⟨_, _, _, q⟩ := hs
    exact False.elim q
  | cont =>
    obtain ⟨_, _, _, q⟩ := hs
    exact False.elim q
/-! ### f(e, ..) of such a def -/
section
variable {X : Cx} {CX : CXT} {k : Nat} {f : Addr} {fd : FuncData} {ps : List Str} {sp : Sp} {dvs : List V} {ds : List Value} {E : L2.St → XK} {x : Str} {p pos : Pos} {e : Expr} {es : List Expr} {t : TA}
theorem pel_callL (F : FnL X.prog X.w X.K X.mg X.base CX k f fd ps sp) (hr : Room k X.A) (hg : Gl X x) (hm : X.mg x = some (.ref f)) (hk : PySem.W.keepIn X.K (.ref f) = true) (hb : Binds X.K fd ps ds) (hd : Vals dvs ds) (hx : ∀ σ, PassesAt CX X σ (E σ))
    (ha : PAL X (e :: es) t) (hdb : (x == ("__debug__" : Str)) = false := by decide) (he : starEach (e :: es) X.env = (false, eval e X.env) :: starEach es X.env := by rfl) (hpl : (backTo pos (starEach es X.env)).any (·.1) = false := by rfl) :
    PEL X (.Call (.Name x p) (e :: es) [] pos) (tCallSD sp dvs E t) := by
  refine ⟨fun pins s σ H Q I h => ?_⟩
  rw [arm_eval_Call_Name']
  refine wpL_bind' (ld_glob I hg hm ?_ hdb)
  have q := ha.run pos pins s σ H _ I h
  rw [he] at q ⊢
  refine callWithL (P := fun h => X.K.In h) (by show (false || (backTo pos (starEach es X.env)).any (·.1)) = false; rw [hpl]; rfl) (PySem.W.keeps_K hk) (evalArgsL (wpL_thn q fun us s1 ⟨vs, H1, I1, r, q⟩ => ⟨I1.kIn, ?_⟩))
  have r2 : Vals (vs ++ dvs) (us ++ ds) := r.append hd
  have hl : (us ++ ds).length = ps.length := by rw [← r2.length]; exact F.len _ _ _ _ q
  refine wpL_call (codeL_mono (F.run X.A X.stack s1 H1 ⟨us, []⟩ (us ++ ds) (vs ++ dvs) Q (E σ) hr I1.env0 (hb s1 us I1.kIn hl) r2 q) fun r s' hq => ?_)
  cases r with
  | error e => exact hx σ pins H1 s1 e s' I1 hq
  | ok fl =>
    cases fl with
    | ret u => exact I1.after hq
    | next => exact False.elim hq
    | brk => exact False.elim hq
    | cont => exact False.elim hq
end
/-! ### the law's own call -/
theorem codeL_law {P : Program} {w : World} {K : PySem.W.Frag} {mg mb : Str → Option Value} {CX : CXT} {k : Nat} {fa a : Addr} {fd : FuncData} {x : Str} {sp : Sp} {s₁ : Shared} {vs : List Value} {ns : List Int}
    (KX : K.In s₁.heap) (hns : s₁.heap.Ns mainGlobals mg) (hb : s₁.heap.Ns builtinsNs mb) (hbb : ∀ x : Str, x ≠ "__name__" → mb x = bootBuiltins x) (hlim : s₁.heap.NoLimit) (hg : s₁.gens = #[])
    (ha : s₁.heap.get? a = some { cls := .type "list", data := .seq vs.toArray }) (hi : IntsAre vs ns) (hl : ns.length ≤ sizeLine) (hr : Room k callerA)
    (F : ∀ base : Heap, K.In base → base.Ns mainGlobals mg → FnL P w K mg base CX k fa fd [x] sp) (hbind : ∀ (s : Shared) (u : Value), BindsTo s fd ⟨[u], []⟩ [(x, u)])
    (hsp : ∀ H : Hp, Only H → SqL K H a (ns.map V.int) → sp [.ref a] H (fun v _ => v = .bl true) fun _ _ _ => False) (hCX : ∀ H e s', CX [] H s₁ (fun _ _ _ => False) e s' → False) :
    codeL (model P w) callerA (.call (.ref fa) ⟨[.ref a], []⟩) (fun r s' => r = .ok (.ret (.bool true)) ∧ OldK s₁.heap s'.heap ∧ s'.os = s₁.os ∧ AllBare s'.gens) s₁ := by
  have rv := vals_ints hi
  have core : ∀ H : Hp, Only H → SqL K H a (ns.map V.int) → HOk P w H s₁.heap → (∀ b, b ≠ a → H b = none) → (H a ≠ none → K.lookup a = none) →
      codeL (model P w) callerA (.call (.ref fa) ⟨[.ref a], []⟩) (fun r s' => r = .ok (.ret (.bool true)) ∧ OldK s₁.heap s'.heap ∧ s'.os = s₁.os ∧ AllBare s'.gens) s₁ := by
    intro H hO hS hok hA hK
    have noA : ∀ {b : Addr} {o : Obj} {es : Array DictEntry} {ep : Nat}, s₁.heap.get? b = some o → o.data = .dict es ep → H b = none := fun {b o es ep} e d => by
      by_cases z : b = a
      · subst z
        rw [ha] at e
        cases e
        cases d
      · exact hA b z
    have hidden : ∀ {b : Addr} {m : Str → Option Value}, s₁.heap.Ns b m → (hidT s₁.heap H).Ns b m := fun {b m} ⟨o, es, ep, e, d, r⟩ => ⟨o, es, ep, hidT_get e (noA e d), d, r⟩
    have hKb : K.In (hidT s₁.heap H) := fun b o e => hidT_get (KX b o e) (by
      by_cases z : b = a
      · subst z
        cases q : H b with
        | none => rfl
        | some u =>
          rw [hK (by rw [q]; simp)] at e
          cases e
      · exact hA b z)
    have hM : Mod K mg (hidT s₁.heap H) := ⟨hKb, hidden hns, ⟨mb, hidden hb, hbb⟩, let ⟨mc, h1, h2⟩ := hlim; ⟨mc, hidden h1, h2⟩⟩
    have e0 : Env0 P w K mg (hidT s₁.heap H) callerA [] s₁ H := ⟨rfl, hM, fun b o e => of_hidT e, Nat.le_of_eq (hidT_size _ _), trivial, fun b hb => absurd (show b ∈ ([] : List Addr) from hb) (by simp), hok, .of_eq hg⟩
    refine codeL_mono ((F _ hKb (hidden hns)).run callerA [] s₁ H ⟨[.ref a], []⟩ [.ref a] [.ref a] _ _ hr e0 (hbind s₁ (.ref a)) (.cons rfl .nil) (hsp H hO hS)) fun r s' h => ?_
    cases r with
    | error e => exact (hCX H e s' h).elim
    | ok fl =>
      cases fl with
      | next => exact False.elim h
      | brk => exact False.elim h
      | cont => exact False.elim h
      | ret u =>
        obtain ⟨v, H', os, bare, un, hok', r', q⟩ := h
        have q : v = .bl true := q
        subst q
        obtain rfl : u = Value.bool true := r'
        refine ⟨rfl, OldK.of_keep fun b o e => ?_, os, bare⟩
        rcases hO b with z | ⟨ob, xs, z⟩
        · exact un.keep b o e z (fun m => absurd (show b ∈ ([] : List Addr) from m) (by simp)) (by simp)
        · obtain ⟨e1, _⟩ := hok b _ z
          obtain ⟨e2, _⟩ := hok' b _ (un.frzs b ob _ z)
          rw [e] at e1
          cases e1
          exact e2
  have he : (none : Option HO) ≠ none → False := fun z => z rfl
  cases hk : K.lookup a with
  | some o =>
    have e := KX a o hk
    rw [ha] at e
    cases e
    exact core (fun _ => none) (fun _ => .inl rfl) (.inr ⟨_, vs.toArray, _, hk, rfl, rfl, rfl, by rw [List.size_toArray, hi.length]; exact hl, by simpa using rv⟩) (fun b u z => by cases (show (none : Option HO) = some u from z)) (fun _ _ => rfl) fun z => (he z).elim
  | none =>
    have at1 : ∀ {o : HO}, (fun b : Addr => if b = a then some o else none) a = some o := if_pos rfl
    refine core (fun b => if b = a then some (.frz { cls := .type "list", data := .seq vs.toArray } (.lst (ns.map V.int))) else none) (fun b => ?_) (.inl (.inr ⟨_, at1⟩)) (fun b u z => ?_) (fun b z => if_neg z) fun _ => hk
    · by_cases hb : b = a
      · exact .inr ⟨_, _, if_pos hb⟩
      · exact .inl (if_neg hb)
    · by_cases hb : b = a
      · subst hb
        cases at1.symm.trans z
        exact ⟨ha, by rw [List.length_map]; exact hl, vs, _, rv, ha⟩
      · cases (if_neg hb).symm.trans z
/-! ### the machine's end -/
theorem endsL {prog : Program} {w : World} {t : Sem PySem.Fin} {s : Shared} {R : Result → Shared → Prop} (hz : s.asleep)
    (h : wpL (model prog w) callerA t (fun fin s' => ∃ f, fin = .done f ∧ (R (.ok f) s' ∧ leftWithCleanup s'.gens = false)) (fun e s' => R (.error e) s' ∧ leftWithCleanup s'.gens = false) s) :
    ∃ n r s' s'', runN (denote table) prog w n s ⟨t, .builtin "claim.caller" {}, default, []⟩ = .halted (outcomeOf r) s' ∧ schedN (denote table) prog w n (.single s ⟨t, .builtin "claim.caller" {}, default, []⟩) = .halted (outcomeOf r) s' ∧ s'.forget = s''.forget ∧ R r s'' := by
  have k := h (endGoal (model prog w) R) (.builtin "claim.caller" {}) [] default .pure .raise id id caller_in (fun fin p' s' q => ?_) fun x p' s' q => endGoal_leaf (r := .error x) q.1 q.2
  · rw [wrap_id] at k
    exact k s _ rfl rfl hz
  · obtain ⟨f, rfl, q⟩ := q
    exact endGoal_leaf (r := .ok f) q.1 q.2
end GX
set_option Elab.async false
set_option linter.all false
set_option maxRecDepth 100000
set_option maxHeartbeats 1000000
namespace PySem.W
open PySem PySem.Calls PyProof.Rows LA GX

/-! ### the head of a law whose own def is loud -/
abbrev LoudWalk (q : Program) (loose : List Str) (XP : (Str → Option Value) → Heap → Prop) (YP : World → Heap → Prop) (r : RowW) (d : DefRec) (kwd : List (Str × Expr)) (run : Value → List Value → Sem Value) : Prop :=
  ∀ (w : World) (s₀ s₁ : Shared) (mg mb : Str → Option Value), Ground q loose r.records XP w s₀ mg mb s₁.heap → YP w s₁.heap → ∀ (a : Addr) (o : Obj) (pm cd doc dV kV : Value), s₁.heap.get? a = some o → o.data = .func { docDef d.name d.params d.body d.scope pm cd doc with defaults := dV, kwdefaults := kV } →
    s₁.heap.CodeRec cd d.name → Dflts mg s₁.heap d.params kwd dV kV → mg d.name = some (.ref a) → s₁.gens = #[] → ∀ (args : List WData) (vals : List Value) (as : List Addr), r.claim.pre args = true → WData.layableAll args = true → ReadsAllW r.records (classAt s₀.heap) s₁.heap vals args as →
    WellAll w.params s₁.heap vals args → (∀ a ∈ as, (a == sysModules) = false) → wpL (model r.prog w) callerA (run (.ref a) vals) (fun v s' => GoodWG r.claim (classAt s₀.heap) (ExcName.means s₀.heap) args s₁ (.ok (.ret v)) s') (fun e s' => GoodWG r.claim (classAt s₀.heap) (ExcName.means s₀.heap) args s₁ (.error e) s') s₁
theorem callFromL {c : ClaimW} {tree : List Value → Sem Fin} {w : World} {s : Shared} {free : Addr → Prop} {gens : Prop} {kept : Heap → Prop} (hz : s.asleep) (hgens : s.gens = #[])
    (hspec : ∀ args, c.pre args = true → WData.layableAll args = true → ∀ ord : List DictEntry → List DictEntry, (∀ l, (ord l).Perm l) → ∃ vs s₁, layAllW c.records (classAt s.heap) w.params ord args s = some (vs, s₁) ∧
      wpL (model c.prog w) callerA (tree vs) (fun fin s' => ∃ f, fin = .done f ∧ c.Ends s args vs s₁ (.ok f) s' ∧ s'.os = s.os ∧ AllBare s'.gens ∧ kept s'.heap) (fun e s' => c.Ends s args vs s₁ (.error e) s' ∧ s'.os = s.os ∧ AllBare s'.gens ∧ kept s'.heap) s₁) :
    c.CallFrom (fun vs => ⟨tree vs, .builtin "claim.caller" {}, default, []⟩) w free gens kept s := by
  intro args hpre hlay ord hord
  obtain ⟨vs, s₁, hlaid, hcode⟩ := hspec args hpre hlay ord hord
  have hal := layAllW_rest _ _ _ hlaid
  obtain ⟨k, r, s', s'', hrun, hsched, hfo, hcase, hos, hkp⟩ := endsL (prog := c.prog) (w := w) (t := tree vs) (s := s₁) (R := fun r s' => c.Ends s args vs s₁ r s' ∧ s'.os = s.os ∧ kept s'.heap) (Shared.asleep_of_life hal.2.2.2 hz)
    (wpL_mono hcode (fun fin s' ⟨f, e, h1, h2, h3, h4⟩ => ⟨f, e, ⟨h1, h2, h4⟩, leftWithCleanup_false_of_bare h3⟩) fun e s' ⟨h1, h2, h3, h4⟩ => ⟨⟨h1, h2, h4⟩, leftWithCleanup_false_of_bare h3⟩)
  obtain ⟨eh, _, _, eo, _⟩ := Shared.forget_eq hfo
  have hcase := hcase.congr eh
  rw [← eh] at hkp
  rw [← eo] at hos
  refine ⟨vs, s₁, hlaid, k, _, s', hsched, ?_, (fun _ i x hx => by rw [hgens] at hx; simp at hx), hkp, by rw [(runN_life _ _ _ hrun).trans hal.2.2.2], Shared.rest_eq hos⟩
  rcases hcase with ⟨v, rfl, d1, d2, d3, d4, d5⟩ | ⟨e, ob, cls, rfl, d1, d2, d3, d4, d5⟩
  · exact .inl ⟨v, rfl, d1, d2, d3, fun b o y _ => d4 b o y, d5⟩
  · exact .inr ⟨e, ob, cls, rfl, d1, d2, d3, d4, fun b o y _ => d5 b o y⟩
end PySem.W
namespace GXH
open PySem PySem.W PySem.Calls PyProof.Rows LA GX
theorem PySem.W.holds_open {r : OpenRow} {q : Program} {loose : List Str} {Xt : Shared → Bool} {XP : (Str → Option Value) → Heap → Prop} {α : Type} {Yf : Shared → α} {Ya : World → α} {YP : World → Heap → Prop} {d : DefRec} {kwd : List (Str × Expr)} {N : Nat}
    (left : LeftO r.prog q loose Xt Yf Ya N) (hY : ∀ w s, Yf s = Ya w → YP w s.heap) (hYk : ∀ w h h', YP w h → (∀ b o, h.get? b = some o → h'.get? b = some o) → YP w h')
    (hX : ∀ s, Xt s = true → XP (s.heap.nsMap mainGlobals) s.heap) (hXk : ∀ mg h h', XP mg h → (∀ b o, h.get? b = some o → h'.get? b = some o) → XP mg h')
    (hdef : defOf q r.name = some (d, kwd)) (hp : r.prog.theDef r.name = some (d.params, d.body, d.scope)) (hk : kwWritten? d.params.kwonlyargs d.params.kw_defaults = some kwd) (hRf : ∀ s, Xt s = true → RecFacts r.records s.heap) (hwr : (!r.writes || r.records.isEmpty) = true)
    (k1 : r.wellSaid = true) (ok : (chainsOk q && opensWell r.prog && (frees r.toRowW && r.within.isEmpty)) = true) (hb : r.prog.bare) (hw : r.toRowW.promised)
    (call : LoudWalk q loose XP YP r.toRowW d kwd fun f vs => PySem.call f vs) : r.Holds := by
  obtain ⟨ok, k5⟩ := Bool.and_eq_true_iff.mp ok
  obtain ⟨hch, o1⟩ := Bool.and_eq_true_iff.mp ok
  obtain ⟨k5, k6⟩ := Bool.and_eq_true_iff.mp k5
  obtain ⟨hsame, hu, ha, hap, hm⟩ := frees_parts k5
  have hi := ident_freeW hu ha hap
  have hwi : r.toRowW.claim.within = [] := List.isEmpty_iff.mp k6
  refine ⟨k1, hw, ⟨hb, o1, by show r.makers.map _ = []; rw [hm]; rfl⟩, hw.witness, fun w => ⟨(left.behind hX hch w).1, fun s' hs' => ?_⟩⟩
  obtain ⟨s₀, hf, hg0, s, hT, hz, hgens, hg, G00, y⟩ := (left.behind (XP := fun mg h => XP mg h ∧ RecFacts r.records h) (fun s hs => ⟨hX s hs, hRf s hs⟩) hch w).2 s' hs'
  have G0 : Ground q loose [] XP w s (s.heap.nsMap mainGlobals) (s.heap.nsMap builtinsNs) s.heap := ⟨G00.T, G00.B, G00.D, G00.TE, G00.TD, G00.W, G00.X.1, G00.cls, G00.has, G00.apart, G00.once, G00.K⟩
  have RF := G00.X.2
  refine ⟨s₀, hf, hg0, s, hT, fun n hn => ?_, RF.1, RF.2.1, ?_⟩
  · obtain rfl : n = r.name := by split at hn <;> simp_all
    exact pinned_of_view hg G0 hdef hp hk
  have hgens : s.gens = #[] := Array.eq_empty_of_size_eq_zero (beq_iff_eq.mp hgens)
  have G : Ground q loose r.records XP w s _ _ s.heap := RF.ground G0
  refine callFromL (c := r.toRowW.claim) (tree := fun vs => do match ← nsGet mainNs r.name with
      | some f => do ret (← PySem.call f vs)
      | none => unsupported "claim.caller:no-such-global") hz hgens fun args hpre hlay ord hord => ?_
  obtain ⟨⟨vs, s₁⟩, hlaid⟩ := Option.isSome_iff_exists.mp (layAllW_isSome (P := w.params) (ord := ord) G.has args r.args s (pre_splitW hpre).1)
  have keeps := layAllW_keeps _ _ _ hlaid
  have hal := layAllW_rest _ _ _ hlaid
  obtain ⟨as, hrd, hin, hold⟩ := reads_layAllW hord _ _ _ hlaid hlay s₁.heap (fun _ _ e => e)
  have L : Laid r.records w s s₁ args vs as := ⟨⟨ord, hord, hlaid⟩, hrd, hin, hold, keeps, hal.1.trans hgens, hal.2.2.1⟩
  have G₁ := G.keeps hXk keeps
  obtain ⟨a, o, pm, cd, doc, dV, kV, h1, h2, h3, h4, h5⟩ := G₁.fn hdef
  have fin : ∀ {x : Result} {s' : Shared}, GoodWG r.toRowW.claim (classAt s.heap) (ExcName.means s.heap) args s₁ x s' → r.toRowW.claim.Ends s args vs s₁ x s' ∧ s'.os = s.os ∧ AllBare s'.gens ∧ (r.writes = true → namesKept r.toRowW.claim.prog r.keeps s.heap s'.heap ∧ ∀ x ∈ r.toRowW.claim.records, ∀ a, classAt s.heap x.1 = some a → recordClass s'.heap a x.1 (x.2.map (·.1)) = true) := fun {x s'} g =>
    have z := g.laid (c := r.toRowW.claim) hsame hwi hi L
    ⟨z.1, z.2.1, z.2.2, fun q => ⟨namesKept_of hT hg _ keeps g.2.1.old, noTable hwr q⟩⟩
  have h := call w s s₁ _ _ G₁ (hYk _ _ _ (hY w s y) keeps) a o pm cd doc dV kV h2 h3 h4 h5 (defOf_name hdef ▸ h1) L.gens args vs as hpre hlay L.reads L.well (L.low G.low)
  refine ⟨vs, s₁, hlaid, wpL_bind' (wpAny_nsGet G₁.T.g (by rw [h1]; exact wpL_bind (wpL_mono h (fun v s' g => wpL_pure ⟨_, rfl, fin g⟩) fun e s' g => fin g)))⟩
end GXH
set_option Elab.async false
set_option linter.all false
set_option maxRecDepth 100000
namespace DL
open PySem PySem.Spec PyProof.Rows L2

/-! ### loud generators' bodies -/
def LDS (X : Cx) (W : WX) (ow ow' : Ow) (owl : Ox) (st : Stmt) (fs : DL.Env → GO) : Prop := GX.GS X st (tGD X.K W ow ow' owl fs)
def LDB (X : Cx) (W : WX) (ow ow' : Ow) (owl : Ox) (st : List Stmt) (fs : DL.Env → GO) : Prop := GX.GSs X st (tGD X.K W ow ow' owl fs)
section
variable {X : Cx} {W : WX} {ow ow' ow1 ow2 lo : Ow} {owl : Ox} {st : Stmt} {sts rest : List Stmt} {f g : DL.Env → GO} {fp : DL.Env → Out} {e c : Expr} {es ts : List Nat} {fe : DL.Env → R D} {fc : DL.Env → R Bool} {pos yp : Pos}
theorem lds_ps (h : PDS X W ow ow' owl st fp) : LDS X W ow ow' owl st (gPl fp) := GX.GS.imp (GX.gs_ps h) fun D ys σ H ⟨B, O, L, ρ, S, w, hl, P⟩ => ⟨B, O, L, ρ, S, w, by
  have P : PostGS X.K B O W ow' owl ys ([], fp ρ) D := P
  cases q : fp ρ with
  | nx ρ' =>
    rw [q] at P
    intro σ' H' L' S' w'
    have p := P B [] σ' H' L' (Same.refl B) rfl S' w'
    rw [List.append_nil] at p
    exact p
  | rt d ρ' =>
    rw [q] at P
    intro v σ' H' L' S' w' r'
    have p := P B [] v σ' H' L' (Same.refl B) rfl S' w' r'
    rw [List.append_nil] at p
    exact p
  | bk ρ' =>
    rw [q] at P
    intro σ' H' L' S' w'
    have p := P B [] σ' H' L' (Same.refl B) rfl S' w'
    rw [List.append_nil] at p
    exact p
  | ct ρ' =>
    rw [q] at P
    intro σ' H' L' S' w'
    have p := P B [] σ' H' L' (Same.refl B) rfl S' w'
    rw [List.append_nil] at p
    exact p
  | exc x ρ' => rw [q] at P; exact fun c dd σ' H' L' S' w' r' => P B c dd σ' H' L' (Same.refl B) S' w' r'
  | stuck => rw [q] at P; exact P⟩
theorem ldb_nil (h : ∀ p ∈ ow', p ∈ ow := by decide) : LDB X W ow ow' owl [] gNext := GX.GSs.imp GX.gss_nil fun D ys σ H ⟨B, O, L, ρ, S, w, hl, P⟩ => by
  have p := P B [] σ H L (Same.refl B) rfl S (w.sub h)
  rw [List.append_nil] at p
  exact p
theorem ldb_cons (h : LDS X W ow ow1 owl st f) (k : LDB X W ow1 ow2 owl rest g) : LDB X W ow ow2 owl (st :: rest) (gSeq f g) := GX.GSs.imp (GX.gss_cons h k) fun D ys σ H ⟨B, O, L, ρ, S, w, hl, P⟩ => by
  obtain ⟨zs, o, hfo⟩ : ∃ zs o, f ρ = (zs, o) := ⟨_, _, rfl⟩
  have e : gSeq f g ρ = gThen (zs, o) g := by
    unfold gSeq
    rw [hfo]
  rw [e] at hl P
  refine ⟨B, O, L, ρ, S, w, ?_, ?_⟩
  · rw [hfo]
    cases o with
    | nx ρ' =>
      have hl : ys.length + (zs ++ (g ρ').1).length ≤ sizeLine := hl
      rw [List.length_append] at hl
      show ys.length + zs.length ≤ _
      omega
    | _ => exact hl
  · rw [hfo]
    cases o with
    | nx ρ' =>
      intro B' us σ' H' L' e' r' S' w'
      have hl : ys.length + (zs ++ (g ρ').1).length ≤ sizeLine := hl
      have hr : us.length = zs.length := RepL.length r'
      refine ⟨B', O, L', ρ', S', w', ?_, PostGS.shift (zs := zs) (zs2 := (g ρ').1) (o := (g ρ').2) P e' r'⟩
      rw [List.length_append] at hl ⊢
      omega
    | rt d ρ' => exact P
    | bk ρ' => exact P
    | ct ρ' => exact P
    | exc x ρ' => exact P
    | stuck => exact P
theorem LDB.sub (h : LDB X W ow1 ow' owl sts f) (s : ∀ p ∈ ow1, p ∈ ow := by decide) : LDB X W ow ow' owl sts f := GX.GSs.imp h fun D ys σ H ⟨B, O, L, ρ, S, w, hl, P⟩ => ⟨B, O, L, ρ, S, w.sub s, hl, P⟩
theorem lds_if {a b : List Stmt} (hc : PDT X W c fc) (ha : LDB X W ow ow' owl a f) (hb : LDB X W ow ow' owl b g) (hx : ∀ p ∈ owl.rx, p ∈ ow := by decide) : LDS X W ow ow' owl (.If c a b pos) (gIf fc f g) := GX.GS.imp (GX.gs_if hc ha hb) fun D ys σ H ⟨B, O, L, ρ, S, w, hl, P⟩ =>
  ⟨B, O, L, ρ, S, PostGS.bind P S (w.sub hx) fun k k' H1 ek e r P1 => by
    obtain rfl : k' = k := r
    have hl : ys.length + (gIf fc f g ρ).1.length ≤ sizeLine := hl
    unfold gIf at hl
    rw [ek] at hl
    cases k' with
    | true => exact ⟨B, O, L, ρ, S.ext e, w, hl, P1⟩
    | false => exact ⟨B, O, L, ρ, S.ext e, w, hl, P1⟩⟩
theorem lds_yield (h : PD X W e es fe) (ho : ∀ p ∈ ow', p ∈ ow ∧ p.1 ∉ es := by decide) (hx : ∀ p ∈ owl.rx, p ∈ ow := by decide) (hco : X.env.scope.isCoroutine = false := by rfl) (hi : interactive X.env = false := by rfl) :
    LDS X W ow ow' owl (.Expr (.Yield (some e) yp) pos) (gYield fe) := GX.GS.imp (GX.gs_yield h hco hi) fun D ys σ H ⟨B, O, L, ρ, S, w, hl, P⟩ => by
  have P : PostGS X.K B O W ow' owl ys (match fe ρ with | .ok d => ([d], .nx ρ) | .exc x => ([.non], .exc x ρ) | .stuck => ([], .stuck)) D := P
  have hl : ys.length + (match fe ρ with | .ok d => (([d], Out.nx ρ) : GO) | .exc x => ([.non], .exc x ρ) | .stuck => ([], .stuck)).1.length ≤ sizeLine := hl
  cases q : fe ρ with
  | stuck => rw [q] at P; exact P.elim
  | exc x =>
    rw [q] at P hl
    have hl : ys.length + 1 ≤ sizeLine := hl
    refine ⟨hl, B, O, L, ρ, S, ?_⟩
    rw [q]
    exact fun c dd H1 e hr => P B c dd σ H1 L (Same.refl B) (S.ext e) (w.sub hx) hr
  | ok d =>
    rw [q] at P hl
    have hl : ys.length + 1 ≤ sizeLine := hl
    refine ⟨hl, B, O, L, ρ, S, ?_⟩
    rw [q]
    intro v H1 e hr
    have S1 := (S.ext e).drop es
    have S2 := S1.rebase
    refine P (nb (dropL es L) H1) [v] σ H1 (dropL es L) S1.nbSame ?_ S2 (w.drop ho)
    have r2 : Rep X.K (hide (HS O (dropL es L)) H1) v d := hr
    refine RepL.one (r2.mono (.ofKey fun a u z => ?_))
    obtain ⟨n, z⟩ := hide_some z
    rw [hide_no fun y => n (.inl y)]
    unfold nb
    rw [hide_no fun y => n (.inr y)]
    exact z
theorem lds_for {tg iter : Expr} {body : List Stmt} {fi : DL.Env → R (List DL.D)} {g : TG} {ft : DL.D → DL.Env → Option DL.Env} {fb : DL.Env → GO} (hp : PassesOwn (model X.prog X.w) X.A X.env X.xe) (hc : X.calm = true) (hi : PDI X W tg iter es fi) (hg : PG X tg g) (ht : TgD X.K g ts ft) (hb : LDB X W lo lo ⟨lo, owl.rx⟩ body fb)
    (hlo : ∀ p ∈ lo, p ∈ ow ∧ p.1 ∉ es ∧ p.1 ∉ ts := by decide) (how : ∀ p ∈ ow', p ∈ lo := by decide) (hx : ∀ p ∈ owl.rx, p ∈ ow := by decide) (hs : ∀ x, foldedSetIterable iter X.env x = pure x := by intro _; rfl) : LDS X W ow ow' owl (.For tg iter body [] pos) (gFor fi ft fb) :=
  GX.GS.imp (GX.gs_for hp hc hi hg hb hs) fun D ys σ H ⟨B, O, L, ρ, S, w, hl, P⟩ => ⟨B, O, L, ρ, S, PostGS.bind P S (w.sub hx) fun ds J H1 ek e hJ P1 => by
    have hl : ys.length + (gE (fi ρ) ρ fun ds => gForL ft fb ds ρ).1.length ≤ sizeLine := hl
    rw [ek] at hl
    have hl : ys.length + (gForL ft fb ds ρ).1.length ≤ sizeLine := hl
    have S1 := (S.ext e).drop es
    have S2 := S1.rebase
    have eB := S1.nbSame
    have P2 := PostGS.ext P1 eB
    have hB1 : ∀ a u, hide (HS O (dropL es L)) H1 a = some u → nb (dropL es L) H1 a = some u := fun a u z => by
      obtain ⟨n, z⟩ := hide_some z
      unfold nb
      rw [hide_no fun y => n (.inr y)]
      exact z
    generalize nb (dropL es L) H1 = B1 at P2 S2 eB hB1
    have seen : ∀ {B' : Hp} {L' : Lm} {σ' : L2.St} {H' : Hp} {ρ' : DL.Env}, Same B1 B' → SR X.K B' O L' σ' H' ρ' → RdLe (hide (HS O (dropL es L)) H1) (hide (HS O L') H') := fun {B' L' σ' H' ρ'} e1 S' => by
      refine RdLe.ofKey fun a u z => ?_
      have b1 := e1 a u (hB1 a u z)
      obtain ⟨n, z⟩ := hide_some z
      rw [hide_no]
      · exact S'.same a u b1
      · rintro (y | ⟨i, k, as, y, m⟩)
        · exact n (.inl y)
        · rw [(S'.nodup i k as y).2 a m] at b1
          cases b1
    refine ⟨fun i m ys σ H => m = ds.length - i ∧ i ≤ ds.length ∧ ∃ B' L' ρ', Same B1 B' ∧ SR X.K B' O L' σ H ρ' ∧ OwOk lo L' ∧ ys.length + (gForL ft fb (ds.drop i) ρ').1.length ≤ sizeLine ∧ PostGS X.K B' O W ow' owl ys (gForL ft fb (ds.drop i) ρ') D,
      ⟨ds.length, by simp, Nat.zero_le _, B1, dropL es L, ρ, Same.refl B1, S2, w.drop fun p hp => ⟨(hlo p hp).1, (hlo p hp).2.1⟩, hl, P2⟩, ?_⟩
    rintro i m ys' σ' H' ⟨rfl, hi, B', L', ρ', e1, S', w', hl', P'⟩
    obtain ⟨j1, j2⟩ := hJ i H' (HS O L') (seen e1 S') S'.hdom
    by_cases hlt : i < ds.length
    · obtain ⟨d, hd⟩ : ∃ d, ds[i]? = some d := ⟨ds[i], List.getElem?_eq_getElem hlt⟩
      obtain ⟨g1, g2⟩ := j1 d hd
      refine .inr ⟨g1, fun ys σ H => ∃ B' L' ρ', Same B1 B' ∧ SR X.K B' O L' σ H ρ' ∧ OwOk lo L' ∧ ys.length + (gForL ft fb (ds.drop (i + 1)) ρ').1.length ≤ sizeLine ∧ PostGS X.K B' O W ow' owl ys (gForL ft fb (ds.drop (i + 1)) ρ') D, fun ys2 σ2 H2 q => ⟨ds.length - (i + 1), by omega, rfl, hlt, q⟩, fun x H2 y => ?_⟩
      obtain ⟨e2, r2⟩ := g2 x H2 y
      have hdr : ds.drop i = d :: ds.drop (i + 1) := by
        rw [List.drop_eq_getElem_cons hlt]
        rw [List.getElem?_eq_getElem hlt] at hd
        cases hd
        rfl
      rw [hdr] at P' hl'
      have P' : PostGS X.K B' O W ow' owl ys' (match ft d ρ' with | none => ([], .stuck) | some ρ1 => gLoop (fb ρ1) (gForL ft fb (ds.drop (i + 1)))) D := P'
      have hl' : ys'.length + (match ft d ρ' with | none => (([], .stuck) : GO) | some ρ1 => gLoop (fb ρ1) (gForL ft fb (ds.drop (i + 1)))).1.length ≤ sizeLine := hl'
      cases hft : ft d ρ' with
      | none =>
        rw [hft] at P'
        exact P'.elim
      | some ρ1 =>
        rw [hft] at P' hl'
        have P' : PostGS X.K B' O W ow' owl ys' (gLoop (fb ρ1) (gForL ft fb (ds.drop (i + 1)))) D := P'
        have hl' : ys'.length + (gLoop (fb ρ1) (gForL ft fb (ds.drop (i + 1)))).1.length ≤ sizeLine := hl'
        refine ht B' O L' σ' H2 ρ' ρ1 x d _ (S'.ext e2) r2 hft fun σ3 S3 _ => ?_
        obtain ⟨zs, o, hfo⟩ : ∃ zs o, fb ρ1 = (zs, o) := ⟨_, _, rfl⟩
        rw [hfo] at P' hl'
        have w3 : OwOk lo (dropL ts L') := w'.drop fun p hp => ⟨hp, (hlo p hp).2.2⟩
        have hz : ys'.length + zs.length ≤ sizeLine := by
          cases o with
          | nx ρ2 =>
            have hl' : ys'.length + (zs ++ (gForL ft fb (ds.drop (i + 1)) ρ2).1).length ≤ sizeLine := hl'
            rw [List.length_append] at hl'
            omega
          | ct ρ2 =>
            have hl' : ys'.length + (zs ++ (gForL ft fb (ds.drop (i + 1)) ρ2).1).length ≤ sizeLine := hl'
            rw [List.length_append] at hl'
            omega
          | _ => exact hl'
        refine ⟨B', O, _, ρ1, S3, w3, by rw [hfo]; exact hz, ?_⟩
        rw [hfo]
        have on : ∀ {ρ2 : DL.Env}, PostGS X.K B' O W ow' owl ys' (zs ++ (gForL ft fb (ds.drop (i + 1)) ρ2).1, (gForL ft fb (ds.drop (i + 1)) ρ2).2) D → ys'.length + (zs ++ (gForL ft fb (ds.drop (i + 1)) ρ2).1).length ≤ sizeLine →
            ∀ B'' us σ4 H4 L4, Same B' B'' → RepL X.K (hide O B'') us zs → SR X.K B'' O L4 σ4 H4 ρ2 → OwOk lo L4 → ∃ B3 L5 ρ5, Same B1 B3 ∧ SR X.K B3 O L5 σ4 H4 ρ5 ∧ OwOk lo L5 ∧ (ys' ++ us).length + (gForL ft fb (ds.drop (i + 1)) ρ5).1.length ≤ sizeLine ∧ PostGS X.K B3 O W ow' owl (ys' ++ us) (gForL ft fb (ds.drop (i + 1)) ρ5) D := fun {ρ2} P2 hl2 B'' us σ4 H4 L4 e4 r4 S4 w4 => by
          have hr : us.length = zs.length := RepL.length r4
          refine ⟨B'', L4, ρ2, e1.trans e4, S4, w4, ?_, PostGS.shift (zs := zs) (zs2 := (gForL ft fb (ds.drop (i + 1)) ρ2).1) (o := (gForL ft fb (ds.drop (i + 1)) ρ2).2) P2 e4 r4⟩
          rw [List.length_append] at hl2 ⊢
          omega
        cases o with
        | nx ρ2 => exact on P' hl'
        | ct ρ2 => exact on P' hl'
        | bk ρ2 => exact fun B'' us σ4 H4 L4 e4 r4 S4 w4 => P' B'' us σ4 H4 L4 e4 r4 S4 (w4.sub how)
        | rt d ρ2 => exact P'
        | exc x ρ2 => exact P'
        | stuck => exact P'
    · have hi2 : i = ds.length := by omega
      subst hi2
      rw [List.drop_length] at P'
      refine .inl ⟨j2 (Nat.le_refl _), ?_⟩
      have p := P' B' [] σ' H' L' (Same.refl B') rfl S' (w'.sub how)
      rw [List.append_nil] at p
      exact p⟩
end
end DL
set_option Elab.async false
set_option linter.all false
set_option maxRecDepth 100000
namespace DL
open PySem PySem.Spec PyProof.Rows L2

/-! ### a loud generator def's promise -/
def WNo : WX := fun _ _ _ _ => False
section
variable {P : Program} {w : World} {K : PySem.W.Frag} {mg : Str → Option Value} {base : Heap} {N : List Str} {qual : Str} {scope : Scope} {f : Addr} {cd : Value} {A : Around} {outer : List PySem.Env} {s : Shared} {H : Hp} {ex : List Addr}
theorem takes_gnx : Takes (GX.gnx P w K mg base N qual scope f cd A outer s H ex) WNo := fun u s' h => by
  obtain ⟨_, _, _, _, _, _, _, _, _, _, _, _, _, _, _, _, q⟩ := h
  exact q
theorem owns_gnx : PassesOwn (model P w) (GX.gnx P w K mg base N qual scope f cd A outer s H ex).A (GX.gnx P w K mg base N qual scope f cd A outer s H ex).env (GX.gnx P w K mg base N qual scope f cd A outer s H ex).xe := PassesOwn.never
end
def spLD (K : PySem.W.Frag) (n : Nat) (F : List DL.D → R (List DL.D)) : GX.SpN := fun vs H m Q => ∃ (O : Addr → Prop) (ds : List DL.D), (∀ p, O p → H p ≠ none) ∧ RepL K (hide O H) vs ds ∧ ds.length = n ∧
  match F ds with
  | .ok out => out.length ≤ m ∧ ∀ us H', Same H H' → RepL K (hide O H') us out → Q us H'
  | _ => False
theorem spLD_len {K : PySem.W.Frag} {n : Nat} {F : List DL.D → R (List DL.D)} {vs : List V} {H : Hp} {m : Nat} {Q : List V → Hp → Prop} (h : spLD K n F vs H m Q) : vs.length = n := by
  obtain ⟨O, ds, _, r, e, _⟩ := h
  rw [← e]
  exact r.length
section
variable {P : Program} {w : World} {K : PySem.W.Frag} {mg : Str → Option Value} {base : Heap}
theorem okLG {x qual : Str} {st : Stmt} {f : Addr} {fd : FuncData} {N ps : List Str} {k : Nat} (F : List DL.D → R (List DL.D)) (Fn : Fun K x qual st f fd) (S : GScope N ps (defScope st))
    (body : ∀ (cdv : Value) (A : Around) (outer : List PySem.Env) (s : Shared) (H : Hp) (ex : List Addr), Room k (A.deeper (envOfC qual (defScope st) s.heap.objs.size f cdv)) →
      ∃ fs, LDB (GX.gnx P w K mg base N qual (defScope st) f cdv A outer s H ex) WNo [] [] ⟨[], []⟩ (defBody st) fs ∧ ∀ ds, ds.length = ps.length → F ds = .stuck ∨ runG N.length ps.length fs ds = F ds) :
    GX.GFnN P w K mg base (k + 1) f fd ps (spLD K ps.length F) := by
  obtain ⟨oc, od, kV, doc, pm, an, cdv, ct, osl, rfl, lk, hcd⟩ := Fn.ex
  refine GX.gfnN_of lk hcd S (fun vs H m Q h => spLD_len h) fun A outer s H vs m Q ex ys hr h hm => ?_
  obtain ⟨fs, hb, he⟩ := body cdv A outer s H ex hr
  refine ⟨_, hb, ?_⟩
  obtain ⟨O, ds, dom, r, hl, h⟩ := h
  have e : runG N.length ps.length fs ds = F ds := by
    rcases he ds hl with z | z
    · rw [z] at h
      exact h.elim
    · exact z
  have SS := SR.begin (N := N) dom r
  refine ⟨H, Ob.no O, L0, _, SS, OwOk.nil, ?_⟩
  unfold runG at e
  rw [← hl] at e
  obtain ⟨zs, o, hfo⟩ : ∃ zs o, fs (ds.map some ++ List.replicate (N.length - ds.length) none) = (zs, o) := ⟨_, _, rfl⟩
  rw [hfo] at e ⊢
  have fin : F ds = .ok zs → zs.length ≤ m ∧ ∀ us H', Same H H' → RepL K (hide O H') us zs → Q us H' := fun q => by
    rw [q] at h
    exact h
  have up : ∀ {B' H' : Hp} {us : List V}, Same B' H' → RepL K (hide O B') us zs → RepL K (hide O H') us zs := fun e r => r.mono (hide_same (fun _ z => z) e)
  cases o with
  | nx ρ =>
    obtain ⟨q1, q2⟩ := fin e.symm
    refine ⟨by show ys.length + zs.length ≤ _; omega, ?_⟩
    exact fun B' us σ H' L e1 r1 S1 w1 => ⟨us, rfl, q2 _ H' (e1.trans S1.same) (up S1.same r1)⟩
  | rt d ρ =>
    cases d <;> first
      | (rw [show F ds = .stuck from e.symm] at h; exact h.elim)
      | (obtain ⟨q1, q2⟩ := fin e.symm
         refine ⟨by show ys.length + zs.length ≤ _; omega, ?_⟩
         exact fun B' us v σ H' L e1 r1 S1 w1 r2 => ⟨r2, us, rfl, q2 _ H' (e1.trans S1.same) (up S1.same r1)⟩)
  | bk ρ => rw [show F ds = .stuck from e.symm] at h; exact h.elim
  | ct ρ => rw [show F ds = .stuck from e.symm] at h; exact h.elim
  | exc x ρ => rw [show F ds = .stuck from e.symm] at h; exact h.elim
  | stuck => rw [show F ds = .stuck from e.symm] at h; exact h.elim
/-- the module's name x is a generator def that hands out F -/
def HasLG (P : Program) (w : World) (K : PySem.W.Frag) (mg : Str → Option Value) (base : Heap) (x : Str) (k n : Nat) (F : List DL.D → R (List DL.D)) : Prop :=
  ∃ (f : Addr) (fd : FuncData) (ps : List Str), GX.GFnN P w K mg base k f fd ps (spLD K n F) ∧ mg x = some (.ref f) ∧ PySem.W.keepIn K (.ref f) = true ∧ Binds K fd ps []
theorem hasLG_stuck {x : Str} {n k : Nat} {f : Addr} {fd : FuncData} {ps : List Str} (hl : ps.length = n) (hm : mg x = some (.ref f)) (hk : PySem.W.keepIn K (.ref f) = true) (hb : Binds K fd ps []) : HasLG P w K mg base x k n (fun _ => .stuck) :=
  ⟨f, fd, ps, ⟨fun vs H m Q h => by
    obtain ⟨_, _, _, _, _, z⟩ := h
    exact z.elim, fun A outer s H args us vs m Q ex hr e0 hex hbd r h => by
    obtain ⟨_, _, _, _, _, z⟩ := h
    exact z.elim⟩, hm, hk, hb⟩
end
/-! ### yield from f(e, ..) -/
section
variable {X : Cx} {W : WX} {ow ow' : Ow} {owl : Ox} {k j n : Nat} {F : List DL.D → R (List DL.D)} {x nm : Str} {p p2 pos pos' yp : Pos} {e : PySem.Expr} {es : List PySem.Expr} {ea : List Nat} {fa : DL.Env → R (List DL.D)}
def gFrom (F : List DL.D → R (List DL.D)) (fa : DL.Env → R (List DL.D)) : DL.Env → GO := fun ρ => gE (fa ρ) ρ fun l => match F l with
  | .ok out => (out, .nx ρ)
  | _ => ([], .stuck)
theorem rep_nb {K : PySem.W.Frag} {O : Ob} {L : Lm} {H : Hp} {us : List V} {out : List DL.D} (r : RepL K (hide (HS O L) H) us out) : RepL K (hide O (nb L H)) us out := r.mono (.ofKey fun a u z => by
  obtain ⟨n, z⟩ := hide_some z
  rw [hide_no fun y => n (.inl y)]
  unfold nb
  rw [hide_no fun y => n (.inr y)]
  exact z)
theorem lds_from (G : HasLG X.prog X.w X.K X.mg X.base x k n F) (hr : Room j X.A) (hkj : k + 2 ≤ j) (hg : Gl X x) (ha : PDA X W (e :: es) ea fa) (hn : ∀ ρ l, fa ρ = .ok l → l.length = n)
    (ho : ∀ p ∈ ow', p ∈ ow ∧ p.1 ∉ ea := by decide) (hx : ∀ p ∈ owl.rx, p ∈ ow := by decide) (hi : interactive X.env = false := by rfl) (hdb : (x == ("__debug__" : Str)) = false := by decide)
    (he : starEach (e :: es) X.env = (false, eval e X.env) :: starEach es X.env := by rfl) (hpl : (backTo pos' (starEach es X.env)).any (·.1) = false := by rfl) :
    LDS X W ow ow' owl (.Expr (.YieldFrom (.Call (.Name x p) (e :: es) [] pos') yp) pos) (gFrom F fa) := by
  obtain ⟨f, fd, ps, G1, hm, hk, hb⟩ := G
  refine GX.GS.imp (GX.gs_yieldFrom (GX.pgenN_call G1 (hr.mono (by omega)) hg hm hk hb .nil ha hdb he hpl) (hr.mono hkj) hi) fun D ys σ H ⟨B, O, L, ρ, S, w, hl, P⟩ => ?_
  cases q : fa ρ with
  | stuck =>
    unfold gFrom at P
    rw [q] at P
    exact P.elim
  | exc y =>
    unfold gFrom at P hl
    rw [q] at P hl
    refine ⟨0, hl, B, O, L, ρ, S, ?_⟩
    rw [q]
    exact fun c dd H1 e hr => P B c dd σ H1 L (Same.refl B) (S.ext e) (w.sub hx) hr
  | ok l =>
    have P : PostGS X.K B O W ow' owl ys (match F l with | .ok out => (out, .nx ρ) | _ => ([], .stuck)) D := by
      unfold gFrom at P
      rw [q] at P
      exact P
    have hl : ys.length + (match F l with | .ok out => ((out, .nx ρ) : GO) | _ => ([], .stuck)).1.length ≤ sizeLine := by
      unfold gFrom at hl
      rw [q] at hl
      exact hl
    cases z : F l with
    | exc y => rw [z] at P; exact P.elim
    | stuck => rw [z] at P; exact P.elim
    | ok out =>
      rw [z] at P hl
      refine ⟨out.length, hl, B, O, L, ρ, S, ?_⟩
      rw [q]
      intro vs H1 e1 r1
      refine ⟨HS O (dropL ea L), l, ((S.ext e1).drop ea).hdom, by rw [List.append_nil]; exact r1, hn ρ l q, ?_⟩
      rw [z]
      refine ⟨Nat.le_refl _, fun us H2 e2 r2 => ?_⟩
      have S1 := (S.ext (e1.trans e2)).drop ea
      exact P (nb (dropL ea L) H2) us σ H2 (dropL ea L) S1.nbSame (rep_nb r2) S1.rebase (w.drop ho)
/-! ### loud expressions and statements -/
def LDE (X : Cx) (W : WX) (e : PySem.Expr) (es : List Nat) (fe : DL.Env → R DL.D) : Prop := GX.PEL X e (tD X.K W es fe)
def LDF (X : Cx) (W : WX) (e : PySem.Expr) (es : List Nat) (fe : DL.Env → R DL.D) : Prop := GX.PEL X e (tDF X.K W es fe)
def LDA (X : Cx) (W : WX) (e : List PySem.Expr) (es : List Nat) (fe : DL.Env → R (List DL.D)) : Prop := GX.PAL X e (tDA X.K W es fe)
def LDT (X : Cx) (W : WX) (e : PySem.Expr) (fe : DL.Env → R Bool) : Prop := GX.PTL X e (tDT X.K W fe)
def LDW (X : Cx) (W : WX) (e : PySem.Expr) (fe : DL.Env → R Bool) : Prop := GX.PWL X e (tDT X.K W fe)
def LSt (X : Cx) (W : WX) (ow ow' : Ow) (owl : Ox) (st : PySem.Stmt) (fs : DL.Env → Out) : Prop := GX.PSL X st (tDS X.K W ow ow' owl fs)
def LBl (X : Cx) (W : WX) (ow ow' : Ow) (owl : Ox) (st : List PySem.Stmt) (fs : DL.Env → Out) : Prop := GX.PSsL X st (tDS X.K W ow ow' owl fs)
/-- list(f(e, ..)) -/
def fListN (F : List DL.D → R (List DL.D)) (fa : DL.Env → R (List DL.D)) : DL.Env → R DL.D := fun ρ => (fa ρ).bind fun l => match F l with
  | .ok out => lenOk out (.ok (.lst out))
  | _ => .stuck
theorem ldf_list (G : HasLG X.prog X.w X.K X.mg X.base x k n F) (hr : Room j X.A) (hkj : k + 3 ≤ j) (hg : Gl X x) (ha : PDA X W (e :: es) ea fa) (hn : ∀ ρ l, fa ρ = .ok l → l.length = n) (hgl : Gl X nm) (hmg : X.mg nm = none) (hv : bootBuiltins nm = some (.type "list"))
    (hdb : (x == ("__debug__" : Str)) = false := by decide) (he : starEach (e :: es) X.env = (false, eval e X.env) :: starEach es X.env := by rfl) (hpl : (backTo pos' (starEach es X.env)).any (·.1) = false := by rfl)
    (hnm : nm ≠ "__name__" := by decide) (hdb2 : (nm == ("__debug__" : Str)) = false := by decide) (he2 : starEach [PySem.Expr.Call (.Name x p) (e :: es) [] pos'] X.env = (false, eval (PySem.Expr.Call (.Name x p) (e :: es) [] pos') X.env) :: starEach [] X.env := by rfl) :
    LDF X W (.Call (.Name nm p2) [.Call (.Name x p) (e :: es) [] pos'] [] pos) ea (fListN F fa) := by
  obtain ⟨f, fd, ps, G1, hm, hk, hb⟩ := G
  refine GX.PEL.imp (GX.pel_listN (GX.pgenN_call G1 (hr.mono (by omega)) hg hm hk hb .nil ha hdb he hpl) (hr.mono hkj) hgl hmg hv hnm hdb2 he2) fun σ H Q ⟨B, O, L, ρ, S, P⟩ => ?_
  unfold fListN at P
  cases q : fa ρ with
  | stuck =>
    rw [q] at P
    exact P.elim
  | exc y =>
    rw [q] at P
    refine ⟨0, Nat.zero_le _, B, O, L, ρ, S, ?_⟩
    rw [q]
    exact P
  | ok l =>
    rw [q] at P
    have P : PostF X.K O W (dropL ea L) (match F l with | .ok out => lenOk out (.ok (.lst out)) | _ => .stuck) σ H Q := P
    cases z : F l with
    | exc y => rw [z] at P; exact P.elim
    | stuck => rw [z] at P; exact P.elim
    | ok out =>
      rw [z] at P
      have P : PostF X.K O W (dropL ea L) (lenOk out (.ok (.lst out))) σ H Q := P
      unfold lenOk at P
      split at P
      case isFalse => exact P.elim
      rename_i hz
      refine ⟨out.length, hz, B, O, L, ρ, S, ?_⟩
      rw [q]
      intro vs H1 e1 r1
      refine ⟨HS O (dropL ea L), l, ((S.ext e1).drop ea).hdom, by rw [List.append_nil]; exact r1, hn ρ l q, ?_⟩
      rw [z]
      refine ⟨Nat.le_refl _, fun us H2 e2 r2 p hp => P p (.lst us) _ ((e1.trans e2).free hp) ((e1.trans e2).trans (same_new hp)) upd_same ?_⟩
      refine RepL.mono (.ofKey fun a u z => ?_) r2
      obtain ⟨n, z⟩ := hide_some z
      have np : a ≠ p := ne_of_none z hp
      rw [hide_no (fun y => y.elim n np), upd_ne np]
      exact z
theorem LDF.val {fe : DL.Env → R DL.D} (h : LDF X W e ea fe) : LDE X W e ea fe := GX.PEL.imp h fun σ H Q ⟨B, O, L, ρ, S, P⟩ => ⟨B, O, L, ρ, S, by
  cases q : fe ρ with
  | ok d =>
    rw [q] at P
    refine fun p o H' hp e' ho t => P (.ref p) H' e' ?_
    have n : ¬ HS O (dropL ea L) p := fun z => (S.drop ea).hdom p z hp
    exact t.rep (hide_same (fun a z => .inl z) (Same.refl H')) (by rw [hide_no n, ho])
  | exc x => rw [q] at P; exact P
  | stuck => rw [q] at P; exact P⟩
theorem lda_of {l : List PySem.Expr} (h : PDA X W l ea fa) : LDA X W l ea fa := GX.PAL.of h
theorem lde_of {fe : DL.Env → R DL.D} (h : PD X W e ea fe) : LDE X W e ea fe := GX.PEL.of h
theorem ldt_of {fe : DL.Env → R Bool} (h : PDT X W e fe) : LDT X W e fe := GX.PTL.of h
theorem ldw_of {fe : DL.Env → R Bool} (h : PDW X W e fe) : LDW X W e fe := GX.PWL.of h
theorem lst_of {st : PySem.Stmt} {fs : DL.Env → Out} (h : PDS X W ow ow' owl st fs) : LSt X W ow ow' owl st fs := GX.PSL.of h
theorem lbl_of {st : List PySem.Stmt} {fs : DL.Env → Out} (h : PDB X W ow ow' owl st fs) : LBl X W ow ow' owl st fs := GX.PSsL.of h
end
end DL
set_option Elab.async false
set_option linter.all false
set_option maxRecDepth 100000
namespace DL
open PySem PySem.Spec PyProof.Rows L2

section
variable {X : Cx} {W : WX} {ow ow' ow1 ow2 : Ow} {owl : Ox} {k j n : Nat} {x : Str} {p pos : Pos} {e a b c : PySem.Expr} {es rest : List PySem.Expr} {ea eb : List Nat} {fe fa fb : DL.Env → R DL.D} {fs : DL.Env → R (List DL.D)} {ta tb tc : DL.Env → R Bool} {F : List DL.D → R DL.D}
theorem lda_cons (h : LDE X W e ea fe) (k : LDA X W es eb fs) (hs : starEach (e :: es) X.env = (false, eval e X.env) :: starEach es X.env := by rfl) : LDA X W (e :: es) (ea ++ eb) (fCons fe fs) := GX.PAL.imp (GX.pal_cons h k hs) fun σ H Q ⟨B, O, L, ρ, S, P⟩ =>
  ⟨B, O, L, ρ, S, PostG.bind P fun d v H1 e1 r1 P1 => ⟨B, O, L, ρ, S.ext e1, PostG.bind P1 fun ds vs H2 e2 r2 P2 =>
    P2 (v :: vs) H2 (Same.refl H2) ⟨v, vs, rfl, drop_mono (fun i h => List.mem_append_left _ h) e2 r1, RepL.mono (hide_same (hs_dropLe fun i h => List.mem_append_right _ h) (Same.refl H2)) r2⟩⟩⟩
/-- a def whose body is loud -/
def HasL (P : Program) (w : World) (K : PySem.W.Frag) (mg : Str → Option Value) (base : Heap) (x : Str) (k n : Nat) (F : List D → R D) : Prop :=
  ∃ (f : Addr) (fd : FuncData) (ps : List Str), GX.FnL P w K mg base (L2.CX P w) k f fd ps (spD K n F) ∧ mg x = some (.ref f) ∧ PySem.W.keepIn K (.ref f) = true ∧ Binds K fd ps []
theorem tD_call {n : Nat} (hn : ∀ ρ l, fs ρ = .ok l → l.length = n) : ∀ σ H Q, tD X.K W ea (fCallN F fs) σ H Q → tCallSD (spD X.K n F) [] (WE W) (tDA X.K W ea fs) σ H Q := fun σ H Q ⟨B, O, L, ρ, S, P⟩ => ⟨B, O, L, ρ, S, by
  have P : PostG X.K O W (rV X.K O (dropL ea L)) ((fs ρ).bind F) σ H Q := P
  cases q : fs ρ with
  | stuck => rw [q] at P; exact P
  | exc y => rw [q] at P; exact P
  | ok l =>
    rw [q] at P
    intro vs H1 e1 r1
    have P : PostG X.K O W (rV X.K O (dropL ea L)) (F l) σ H Q := P
    refine ⟨HS O (dropL ea L), l, ((S.ext e1).drop ea).hdom, by rw [List.append_nil]; exact r1, hn ρ l q, ?_⟩
    cases z : F l with
    | stuck => rw [z] at P; exact P
    | ok d => rw [z] at P; exact fun v H' e2 r2 => P v H' (e1.trans e2) r2
    | exc y =>
      rw [z] at P
      refine fun c dd H' e2 r2 => P c dd H' (e1.trans e2) ?_
      obtain ⟨h1, a, us, h2, h3, h4, h5⟩ := r2
      exact ⟨h1, a, us, h2, h3, h4, h5.mono (hide_same hs_0 (Same.refl H'))⟩⟩
theorem lde_own (C : Has X.prog X.w X.K X.mg X.base x k n F) (tk : Takes X W) (hr : Room j X.A) (hkj : k ≤ j) (hg : Gl X x) (ha : LDA X W (e :: es) ea fs) (hn : ∀ ρ l, fs ρ = .ok l → l.length = n) (hdb : (x == ("__debug__" : Str)) = false := by decide)
    (he : starEach (e :: es) X.env = (false, eval e X.env) :: starEach es X.env := by rfl) (hpl : (backTo pos (starEach es X.env)).any (·.1) = false := by rfl) : LDE X W (.Call (.Name x p) (e :: es) [] pos) ea (fCallN F fs) := by
  obtain ⟨f, fd, ps, G, hm, hk, hb⟩ := C
  exact GX.PEL.imp (GX.pel_callSD G (hr.mono hkj) hg hm hk hb .nil (fun σ => passAt tk σ) ha hdb he hpl) (tD_call hn)
theorem lde_loud (C : HasL X.prog X.w X.K X.mg X.base x k n F) (tk : Takes X W) (hr : Room j X.A) (hkj : k ≤ j) (hg : Gl X x) (ha : LDA X W (e :: es) ea fs) (hn : ∀ ρ l, fs ρ = .ok l → l.length = n) (hdb : (x == ("__debug__" : Str)) = false := by decide)
    (he : starEach (e :: es) X.env = (false, eval e X.env) :: starEach es X.env := by rfl) (hpl : (backTo pos (starEach es X.env)).any (·.1) = false := by rfl) : LDE X W (.Call (.Name x p) (e :: es) [] pos) ea (fCallN F fs) := by
  obtain ⟨f, fd, ps, G, hm, hk, hb⟩ := C
  exact GX.PEL.imp (GX.pel_callL G (hr.mono hkj) hg hm hk hb .nil (fun σ => passAt tk σ) ha hdb he hpl) (tD_call hn)
theorem ldt_val (h : LDE X W e ea fe) (he : ∀ whole, isTrue e X.env whole = (do let v ← whole; standAt e.pos; holding [v] (truthy v)) := by intro _; rfl) : LDT X W e (fB fe) := GX.PTL.imp (GX.ptl_val h he) fun σ H Q q => tD_B σ H Q q
theorem ldw_and1 (h : LDT X W a ta) : LDW X W (.BoolOp .And [a] pos) ta := GX.pwl_and1 h
theorem ldw_or1 (h : LDT X W a ta) : LDW X W (.BoolOp .Or [a] pos) ta := GX.pwl_or1 h
theorem ldw_and (h : LDT X W a ta) (k : LDW X W (.BoolOp .And (b :: rest) pos) tb) : LDW X W (.BoolOp .And (a :: b :: rest) pos) (fAnd ta tb) := GX.PWL.imp (GX.pwl_and h k) tDT_and
theorem ldw_or (h : LDT X W a ta) (k : LDW X W (.BoolOp .Or (b :: rest) pos) tb) : LDW X W (.BoolOp .Or (a :: b :: rest) pos) (fOr ta tb) := GX.PWL.imp (GX.pwl_or h k) tDT_or
theorem ldt_w (h : LDW X W a ta) : LDT X W a ta := GX.PWL.pt h
theorem ldt_not (h : LDT X W a ta) : LDT X W (.UnaryOp .Not a pos) (fNot ta) := GX.PTL.imp (GX.ptl_not h) fun σ H Q ⟨B, O, L, ρ, S, P⟩ =>
  ⟨B, O, L, ρ, S, PostG.bind P fun k k' H1 e r P1 => by
    obtain rfl : k' = k := r
    exact P1 _ H1 (Same.refl H1) rfl⟩
theorem lde_and (h : LDE X W a ea fa) (k : LDE X W (.BoolOp .And (b :: rest) pos) eb fb) : LDE X W (.BoolOp .And (a :: b :: rest) pos) eb (fAndV fa fb) := GX.PEL.imp (GX.pel_and h k) fun σ H Q ⟨B, O, L, ρ, S, P⟩ =>
  ⟨B, O, L, ρ, S, PostG.bind P fun d v H1 e r P1 => by
    cases d <;> first
      | exact P1.elim
      | (rename_i c
         obtain rfl := (show v = _ from r)
         refine ⟨c, rfl, ?_⟩
         cases c with
         | true => exact ⟨B, O, L, ρ, S.ext e, P1⟩
         | false => exact P1 (.bl false) H1 (Same.refl H1) rfl)⟩
variable {st : PySem.Stmt} {sts : List PySem.Stmt} {f g : DL.Env → Out}
theorem lst_ret (h : LDE X W e ea fe) (hx : ∀ p ∈ owl.rx, p ∈ ow ∧ p.1 ∉ ea := by decide) : LSt X W ow ow' owl (.Return (some e) pos) (fRet fe) := GX.PSL.imp (GX.psl_ret h) fun D σ H ⟨B, O, L, ρ, S, w, P⟩ =>
  ⟨B, O, L, ρ, S, PostS.bind P S (w.sub fun p hp => (hx p hp).1) fun d v H1 e r P1 => P1 v σ H1 _ ((S.ext e).drop ea) (w.drop hx) r⟩
theorem lst_if {a b : List PySem.Stmt} (hc : LDT X W c tc) (ha : LBl X W ow ow' owl a f) (hb : LBl X W ow ow' owl b g) (hx : ∀ p ∈ owl.rx, p ∈ ow := by decide) : LSt X W ow ow' owl (.If c a b pos) (fIf tc f g) := GX.PSL.imp (GX.psl_if hc ha hb) fun D σ H ⟨B, O, L, ρ, S, w, P⟩ =>
  ⟨B, O, L, ρ, S, PostS.bind P S (w.sub hx) fun k k' H1 e r P1 => by
    obtain rfl : k' = k := r
    cases k' with
    | true => exact ⟨B, O, L, ρ, S.ext e, w, P1⟩
    | false => exact ⟨B, O, L, ρ, S.ext e, w, P1⟩⟩
theorem lbl_cons (h : LSt X W ow ow1 owl st f) (k : LBl X W ow1 ow2 owl sts g) : LBl X W ow ow2 owl (st :: sts) (fSeq f g) := GX.PSsL.imp (GX.pssl_cons h k) fun D σ H ⟨B, O, L, ρ, S, w, P⟩ => ⟨B, O, L, ρ, S, w, by
  have P : PostS X.K B O W ow2 owl (match f ρ with | .nx ρ' => g ρ' | o => o) D := P
  cases q : f ρ with
  | nx ρ' => rw [q] at P; exact fun σ' H' L' S' w' => ⟨B, O, L', ρ', S', w', P⟩
  | rt d ρ' => rw [q] at P; exact P
  | bk ρ' => rw [q] at P; exact P
  | ct ρ' => rw [q] at P; exact P
  | exc x ρ' => rw [q] at P; exact P
  | stuck => rw [q] at P; exact P⟩
theorem LBl.sub (h : LBl X W ow1 ow' owl sts f) (s : ∀ p ∈ ow1, p ∈ ow := by decide) : LBl X W ow ow' owl sts f := GX.PSsL.imp h fun D σ H ⟨B, O, L, ρ, S, w, P⟩ => ⟨B, O, L, ρ, S, w.sub s, P⟩
/-- x = e, e loud; the value is seen by others too -/
theorem lst_asg {i : Nat} (h : GX.PSL X st (tAsg (tD X.K W ea fe) (gName i))) (ho : ∀ p ∈ ow', p ∈ ow ∧ p.1 ∉ i :: ea := by decide) (hx : ∀ p ∈ owl.rx, p ∈ ow := by decide) : LSt X W ow ow' owl st (fAsg i fe) := GX.PSL.imp h fun D σ H ⟨B, O, L, ρ, S, w, P⟩ => ⟨B, O, L, ρ, S, PostS.bind P S (w.sub hx) fun d v H1 e r P1 => by
  refine P1 _ _ _ (((S.ext e).drop ea).set r) ?_
  rw [dropL_dropL]
  exact w.drop ho⟩
end
section
variable {P : Program} {w : World} {K : PySem.W.Frag} {mg : Str → Option Value} {base : Heap}
/-- THE RULE for a def with a loud body -/
theorem okLD {x qual : Str} {st : PySem.Stmt} {f : Addr} {fd : FuncData} {N ps : List Str} {k : Nat} (F : List D → R D) (Fn : Fun K x qual st f fd) (S : FnScope N ps (defScope st))
    (body : ∀ (cdv : Value) (A : Around) (outer : List PySem.Env) (s : Shared) (H : Hp) (E : XK), Room k (A.deeper (envOfC qual (defScope st) s.heap.objs.size f cdv)) →
      ∃ fs, LBl (cxOf (L2.CX P w) P w K mg base N qual (defScope st) f cdv A outer s H E) (fun c d _ H => E c d H) [] [] ⟨[], []⟩ (defBody st) fs ∧ ∀ ds, ds.length = ps.length → F ds = .stuck ∨ runF N.length ps.length fs ds = F ds) :
    GX.FnL P w K mg base (L2.CX P w) (k + 1) f fd ps (spD K ps.length F) := by
  obtain ⟨oc, od, kV, doc, pm, an, cdv, ct, osl, rfl, lk, hcd⟩ := Fn.ex
  refine GX.fnL_of lk hcd S (fun vs H Q E h => spD_len h) fun A outer s H vs Q E hr h => ?_
  obtain ⟨fs, hb, he⟩ := body cdv A outer s H E hr
  refine ⟨_, hb, ?_⟩
  obtain ⟨O, ds, dom, r, hl, h⟩ := h
  have e : runF N.length ds.length fs ds = F ds := by
    rw [hl]
    rcases he ds hl with z | z
    · rw [z] at h
      exact h.elim
    · exact z
  refine ⟨H, Ob.no O, L0, _, SR.begin (N := N) dom r, OwOk.nil, ?_⟩
  unfold runF at e
  cases q : fs (ds.map some ++ List.replicate (N.length - ds.length) none) with
  | nx ρ =>
    rw [q] at e
    rw [← e] at h
    exact fun σ H' L S' _ => h .non H' S'.same rfl
  | rt d ρ =>
    rw [q] at e
    rw [← e] at h
    exact fun v σ H' L S' _ r' => h v H' S'.same (hs_le r')
  | exc x ρ =>
    rw [q] at e
    rw [← e] at h
    exact fun c dd σ H' L S' _ r' => h c dd H' S'.same r'
  | bk ρ => rw [q] at e; rw [← e] at h; exact h.elim
  | ct ρ => rw [q] at e; rw [← e] at h; exact h.elim
  | stuck => rw [q] at e; rw [← e] at h; exact h.elim
end
/-- the goal that the head leaves -/
theorem loud_walk {l : PySem.W.OpenLaw} {n k : Nat} {q : Program} {loose : List Str} {XP : (Str → Option Value) → Heap → Prop} {YP : World → Heap → Prop} {d : DefRec} {K : Params → PySem.W.Frag} {CX : World → CXT} {sp : World → Sp} {x : Str}
    (hn : l.most = some n) (hn2 : n ≤ sizeLine) (hdf : d.params.defaults = []) (hr : Room k callerA) (hY : ∀ (w : World) (h : Heap), YP w h → (K w.params).In h)
    (F : ∀ (w : World) (mg : Str → Option Value) (fa : Addr) (h : Heap), (K w.params).In h → h.Ns mainGlobals mg → mg d.name = some (.ref fa) →
      ∃ fd : FuncData, (∀ (s : Shared) (u : Value), BindsTo s fd ⟨[u], []⟩ [(x, u)]) ∧ ∀ base : Heap, (K w.params).In base → base.Ns mainGlobals mg → GX.FnL l.prog w (K w.params) mg base (CX w) k fa fd [x] (sp w))
    (hsp : ∀ (w : World) (H : Hp) (a : Addr) (ns : List Int), ns.length ≤ n → Only H → SqL (K w.params) H a (ns.map V.int) → sp w [.ref a] H (fun v _ => v = .bl true) fun _ _ _ => False)
    (hCX : ∀ (w : World) (H : Hp) (s : Shared) (e : Value) (s' : Shared), CX w [] H s (fun _ _ _ => False) e s' → False) : PySem.W.LoudWalk q loose XP YP l.row.toRowW d [] (fun f vs => PySem.call f vs) := by
  intro w s₀ s₁ mg mb G Y fa o pm cd doc dV kV ho hd hcd hD hmg hg args vals as hpre hlay hrd hwl hlo
  obtain ⟨a, vs, ns, rfl, rfl, hobj, hints, hlen⟩ := Att.script_of hn hpre hwl
  obtain ⟨fd, hb, hF⟩ := F w mg fa _ (hY w _ Y) G.T.g hmg
  refine LA.wpL_call (LA.codeL_mono (GX.codeL_law (hY w _ Y) G.T.g G.T.b G.T.builtins G.T.nolimit hg hobj hints (Nat.le_trans hlen hn2) hr hF hb (fun H hO hS => hsp w H a ns hlen hO hS) fun H e s' => hCX w H s₁ e s') fun r s' hq => ?_)
  obtain ⟨rfl, h2, h3, h4⟩ := hq
  exact ⟨.inl ⟨.bool true, .bool true, [], rfl, fun _ => rfl, .bool true, Att.post_true l _, fun _ => ⟨List.Pairwise.nil, fun _ hm => (nomatch hm)⟩⟩, h2, h3, h4⟩
end DL
set_option Elab.async false
set_option linter.all false
set_option maxRecDepth 100000
namespace DL
open PySem PySem.Spec PyProof.Rows L2
/-- the module's name x is a def that changes its first argument -/
def HasR (P : Program) (w : World) (K : PySem.W.Frag) (mg : Str → Option Value) (base : Heap) (x : Str) (k n : Nat) (F : List D → RM) : Prop :=
  ∃ (f : Addr) (fd : FuncData) (ps : List Str), FnOk P w K mg base (L2.CX P w) k f fd ps (spM K 2 n F) ∧ mg x = some (.ref f) ∧ PySem.W.keepIn K (.ref f) = true ∧ Binds K fd ps []
/-- f(o, ..), o an owned object, changed -/
def fCallO (i : Nat) (C : Addr) (F : List D → RM) (fl : DL.Env → R (List D)) : DL.Env → R (D × DL.Env) := fun ρ =>
  match ρ[i]? with
  | some (some (.ins C' fs vs)) => if C' = C then (fl ρ).bind fun l => (match F (.ins C' fs vs :: l) with | .ok d s => .ok (d, ρ.set i (some s)) | _ => .stuck) else .stuck
  | _ => .stuck
section
variable {X : Cx} {W : WX} {ow ow' : Ow} {owl : Ox} {n k j : Nat} {C : Addr} {x : Str} {p pos np : Pos} {e eM : Expr} {es : List Expr} {ea : List Nat} {fl : DL.Env → R (List D)} {FM : List D → RM} {F : List D → R D} {fm : DL.Env → R (D × DL.Env)}
theorem pdm_callO (i : Nat) {kc : Nat} (G : HasR X.prog X.w X.K X.mg X.base x k n FM) (tk : Takes X W) (hr : Room j X.A) (hkj : k ≤ j) (hg : Gl X x) (ho : PE X e (tVar i)) (ha : PDA X W es ea fl) (hn : ∀ ρ l, fl ρ = .ok l → l.length + 1 = n)
    (hk : dep kc = 2 := by rfl) (hi : (i, kc) ∈ ow := by decide) (hi2 : i ∉ ea := by decide) (how : ∀ p ∈ ow, p.1 ∉ ea := by decide) (hdb : (x == ("__debug__" : Str)) = false := by decide) (hst : starEach (e :: es) X.env = (false, eval e X.env) :: starEach es X.env := by rfl) (hpl : (backTo pos (starEach es X.env)).any (·.1) = false := by rfl) :
    PDM X W ow (.Call (.Name x p) (e :: es) [] pos) (fCallO i C FM fl) := by
  obtain ⟨f, fd, ps, G1, hm, kp, hb⟩ := G
  refine PE.imp (pe_callSD G1 (hr.mono hkj) hg hm kp hb .nil (fun σ => passAt tk σ) (pa_cons ho ha hst) hdb hst hpl) fun σ H Q ⟨B, O, L, ρ, S, w, P⟩ => ?_
  have P : PostM X.K B O W ow L ρ (match ρ[i]? with
    | some (some (.ins C' fs vs)) => if C' = C then (fl ρ).bind fun l => (match FM (.ins C' fs vs :: l) with | .ok d s => R.ok (d, ρ.set i (some s)) | _ => .stuck) else .stuck
    | _ => .stuck) σ H Q := P
  split at P
  case h_2 => exact P.elim
  rename_i C' fs cv hd
  split at P
  case isFalse => exact P.elim
  obtain ⟨as, hL⟩ := w (i, kc) hi
  obtain ⟨v, c', hs, hd', hw0⟩ := S.owns i kc as hL
  rw [hd] at hd'
  cases hd'
  refine ⟨v, hs, B, O, L, ρ, S, ?_⟩
  cases q : fl ρ with
  | stuck => rw [q] at P; exact P.elim
  | exc y => rw [q] at P; exact P
  | ok l =>
    rw [q] at P
    intro vs H1 e1 r1
    have P : PostM X.K B O W ow L ρ (match FM (.ins C' fs cv :: l) with | .ok d s => R.ok (d, ρ.set i (some s)) | _ => .stuck) σ H Q := P
    show spM X.K 2 n FM ((v :: vs) ++ []) H1 Q (WE W σ)
    rw [List.append_nil]
    have S1 := (S.ext e1).drop ea
    have hL1 : dropL ea L i = some (kc, as) := by rw [dropL_no hi2]; exact hL
    obtain ⟨v', c', hs', hd', hw⟩ := S1.owns i kc as hL1
    rw [hs] at hs'
    cases hs'
    rw [hd] at hd'
    cases hd'
    rw [hk] at hw
    obtain ⟨p0, rfl, hh⟩ := own_ref hw rfl
    have sub : ∀ a, OA (fun a => HS O (dropL ea L) a ∧ a ∉ as) as a → HS O (dropL ea L) a := fun a z => z.elim (fun y => y.1) fun y => .inr ⟨i, kc, as, hL1, y⟩
    have le := hide_same sub (Same.refl H1)
    have r1 : RepL X.K (hide (HS O (dropL ea L)) H1) vs l := r1
    refine ⟨fun a => HS O (dropL ea L) a ∧ a ∉ as, p0, as, .ins C' fs cv, vs, l, fun p hp => ⟨S1.hdom p hp.1, hp.2⟩, (S1.nodup i kc as hL1).1, rfl, hh, rfl, hw.mono le fun _ _ => rfl, r1.mono le, hn ρ l q, ?_⟩
    have sub2 : ∀ (as' : List Addr) (a : Addr), HS O (putL i (some (kc, as')) (dropL ea L)) a → OA (fun a => HS O (dropL ea L) a ∧ a ∉ as) as' a := fun as' a z => by
      rcases z with z | ⟨j, k2, bs, z, m⟩
      · refine .inl ⟨.inl z, fun y => ?_⟩
        exact S1.dom a z ((S1.nodup i kc as hL1).2 a y)
      · by_cases q : j = i
        · subst q
          rw [putL_same] at z
          cases z
          exact .inr m
        · rw [putL_ne q] at z
          exact .inl ⟨.inr ⟨j, k2, bs, z, m⟩, S1.sep j i k2 bs kc as q z hL1 a m⟩
    cases q2 : FM (.ins C' fs cv :: l) with
    | stuck => rw [q2] at P; exact P.elim
    | exc y s => rw [q2] at P; exact P.elim
    | ok d s =>
      rw [q2] at P
      intro v as' H' kt hi' w' rv
      refine P v H' _ (S1.replace hL1 hs kt hi' ?_) (ow_put w hL fun p hp => ⟨hp, how p hp⟩) (rv.mono (hide_same (sub2 as') (Same.refl H')))
      rw [hk]
      exact w'.mono (hide_same (sub2 as') (Same.refl H')) fun _ _ => rfl
/-- g(e, ..), e changes an owned object -/
def fOwnM (F : List D → R D) (fm : DL.Env → R (D × DL.Env)) (fl : DL.Env → R (List D)) : DL.Env → R (D × DL.Env) := fun ρ =>
  match fm ρ with
  | .ok (d, ρ') => (match (fl ρ').bind fun l => F (d :: l) with | .ok r => .ok (r, ρ') | _ => .stuck)
  | .exc x => .exc x
  | .stuck => .stuck
theorem pdm_ownM (G : Has X.prog X.w X.K X.mg X.base x k n F) (tk : Takes X W) (hr : Room j X.A) (hkj : k ≤ j) (hg : Gl X x) (hM : PDM X W ow eM fm) (ha : PDA X W es ea fl) (hn : ∀ ρ l, fl ρ = .ok l → l.length + 1 = n) (how : ∀ p ∈ ow, p.1 ∉ ea := by decide)
    (hdb : (x == ("__debug__" : Str)) = false := by decide) (hst : starEach (eM :: es) X.env = (false, eval eM X.env) :: starEach es X.env := by rfl) (hpl : (backTo pos (starEach es X.env)).any (·.1) = false := by rfl) :
    PDM X W ow (.Call (.Name x p) (eM :: es) [] pos) (fOwnM F fm fl) := by
  obtain ⟨f, fd, ps, G1, hm, kp, hb⟩ := G
  refine PE.imp (pe_callSD G1 (hr.mono hkj) hg hm kp hb .nil (fun σ => passAt tk σ) (pa_cons hM ha hst) hdb hst hpl) fun σ H Q ⟨B, O, L, ρ, S, w, P⟩ => ⟨B, O, L, ρ, S, w, ?_⟩
  have P : PostM X.K B O W ow L ρ (match fm ρ with
    | .ok (d, ρ') => (match (fl ρ').bind fun l => F (d :: l) with | .ok r => R.ok (r, ρ') | _ => .stuck)
    | .exc x => .exc x
    | .stuck => .stuck) σ H Q := P
  cases q : fm ρ with
  | stuck => rw [q] at P; exact P
  | exc y => rw [q] at P; exact P
  | ok a =>
    obtain ⟨d, ρ'⟩ := a
    rw [q] at P
    intro v H' L' S' w' r'
    have P : PostM X.K B O W ow L ρ (match (fl ρ').bind fun l => F (d :: l) with | .ok r => R.ok (r, ρ') | _ => .stuck) σ H Q := P
    refine ⟨B, O, L', ρ', S', ?_⟩
    cases q2 : fl ρ' with
    | stuck => rw [q2] at P; exact P.elim
    | exc y => rw [q2] at P; exact P.elim
    | ok l =>
      rw [q2] at P
      intro vs H1 e1 r1
      have P : PostM X.K B O W ow L ρ (match F (d :: l) with | .ok r => R.ok (r, ρ') | _ => .stuck) σ H Q := P
      show spD X.K n F ((v :: vs) ++ []) H1 Q (WE W σ)
      rw [List.append_nil]
      have S1 := (S'.ext e1).drop ea
      have r1 : RepL X.K (hide (HS O (dropL ea L')) H1) vs l := r1
      refine ⟨HS O (dropL ea L'), d :: l, S1.hdom, .cons (r'.mono (hide_same hs_drop e1)) r1, by rw [List.length_cons]; exact hn ρ' l q2, ?_⟩
      cases q3 : F (d :: l) with
      | stuck => rw [q3] at P; exact P.elim
      | exc y => rw [q3] at P; exact P.elim
      | ok r =>
        rw [q3] at P
        exact fun v2 H2 e2 r2 => P v2 H2 _ (S1.ext e2) (w'.drop fun p hp => ⟨hp, how p hp⟩) r2
/-! tests -/
def PostMT (K : PySem.W.Frag) (B : Hp) (O : Ob) (W : WX) (ow : Ow) (r : R (Bool × DL.Env)) (σ : L2.St) (H : Hp) (Q : Bool → Hp → Prop) : Prop :=
  match r with
  | .ok (d, ρ') => ∀ H' L', SR K B O L' σ H' ρ' → OwOk ow L' → Q d H'
  | .exc x => ∀ c dd H', Same H H' → RepX K (hide O H') H' c dd x → W c dd σ H'
  | .stuck => False
def tDMT (K : PySem.W.Frag) (W : WX) (ow : Ow) (fm : DL.Env → R (Bool × DL.Env)) : TT := fun σ H Q => ∃ B O L ρ, SR K B O L σ H ρ ∧ OwOk ow L ∧ PostMT K B O W ow (fm ρ) σ H Q
def PDMT (X : Cx) (W : WX) (ow : Ow) (e : Expr) (fm : DL.Env → R (Bool × DL.Env)) : Prop := PT X e (tDMT X.K W ow fm)
def fBM (fm : DL.Env → R (D × DL.Env)) : DL.Env → R (Bool × DL.Env) := fun ρ => match fm ρ with
  | .ok (.bl b, ρ') => .ok (b, ρ')
  | .exc x => .exc x
  | _ => .stuck
theorem pdmt_val (h : PDM X W ow e fm) (he : ∀ whole, isTrue e X.env whole = (do let v ← whole; standAt e.pos; holding [v] (truthy v)) := by intro _; rfl) : PDMT X W ow e (fBM fm) := PT.imp (pt_val h he) fun σ H Q ⟨B, O, L, ρ, S, w, P⟩ => ⟨B, O, L, ρ, S, w, by
  have P : PostMT X.K B O W ow (match fm ρ with
    | .ok (.bl b, ρ') => R.ok (b, ρ')
    | .exc x => .exc x
    | _ => .stuck) σ H Q := P
  cases q : fm ρ with
  | stuck => rw [q] at P; exact P
  | exc y => rw [q] at P; exact P
  | ok a =>
    obtain ⟨d, ρ'⟩ := a
    rw [q] at P
    cases d <;> first
      | exact P.elim
      | exact fun v H' L' S' w' r' => ⟨_, r', P H' L' S' w'⟩⟩
def fNotM (fm : DL.Env → R (Bool × DL.Env)) : DL.Env → R (Bool × DL.Env) := fun ρ => match fm ρ with
  | .ok (b, ρ') => .ok (!b, ρ')
  | .exc x => .exc x
  | .stuck => .stuck
theorem pdmt_not {fm : DL.Env → R (Bool × DL.Env)} (h : PDMT X W ow e fm) : PDMT X W ow (.UnaryOp .Not e pos) (fNotM fm) := PT.imp (pt_not h) fun σ H Q ⟨B, O, L, ρ, S, w, P⟩ => ⟨B, O, L, ρ, S, w, by
  have P : PostMT X.K B O W ow (match fm ρ with
    | .ok (b, ρ') => R.ok (!b, ρ')
    | .exc x => .exc x
    | .stuck => .stuck) σ H Q := P
  cases q : fm ρ with
  | stuck => rw [q] at P; exact P
  | exc y => rw [q] at P; exact P
  | ok a =>
    rw [q] at P
    exact P⟩
def fIfM (fc : DL.Env → R (Bool × DL.Env)) (f g : DL.Env → Out) : DL.Env → Out := fun ρ =>
  match fc ρ with
  | .ok (b, ρ') => if b = true then f ρ' else g ρ'
  | .exc x => .exc x ρ
  | .stuck => .stuck
theorem pds_ifM {c : Expr} {a b : List Stmt} {fc : DL.Env → R (Bool × DL.Env)} {f g : DL.Env → Out} (hc : PDMT X W ow c fc) (ha : PDB X W ow ow' owl a f) (hb : PDB X W ow ow' owl b g) (hx : ∀ p ∈ owl.rx, p ∈ ow := by decide) : PDS X W ow ow' owl (.If c a b pos) (fIfM fc f g) := PS.imp (ps_if hc ha hb) fun D σ H ⟨B, O, L, ρ, S, w, P⟩ => ⟨B, O, L, ρ, S, w, by
  have P : PostS X.K B O W ow' owl (match fc ρ with
    | .ok (b, ρ') => if b = true then f ρ' else g ρ'
    | .exc x => .exc x ρ
    | .stuck => .stuck) D := P
  cases q : fc ρ with
  | stuck => rw [q] at P; exact P
  | exc y => rw [q] at P; exact fun cc dd H1 e1 hr => P cc dd σ H1 L (S.ext e1) (w.sub hx) hr
  | ok a =>
    obtain ⟨k', ρ'⟩ := a
    rw [q] at P
    intro H' L' S' w'
    cases k' with
    | true => exact ⟨B, O, L', ρ', S', w', P⟩
    | false => exact ⟨B, O, L', ρ', S', w', P⟩⟩
end
/-! ### sep.join(list of texts) -/
def textsOf : List D → Option (List (List Nat))
  | [] => some []
  | .str x :: ds => (textsOf ds).map (x :: ·)
  | _ :: _ => none
def joinN (a : List Nat) : List (List Nat) → List Nat
  | [] => []
  | [x] => x
  | x :: y :: r => x ++ a ++ joinN a (y :: r)
def gJoin : D → D → Option D
  | .str a, .lst ds => (textsOf ds).bind fun ys => if (ys.map (·.length)).sum + ys.length * a.length ≤ 16777216 then some (.str (joinN a ys)) else none
  | _, _ => none
theorem textsOf_rep {K : PySem.W.Frag} {G : Hp} : ∀ {vs : List V} {ds : List D} {ys : List (List Nat)}, RepL K G vs ds → textsOf ds = some ys → vs = (ys.map mkS).map V.str ∧ ∀ y ∈ ys, okT y
  | _, [], _, h, e => by
    cases e
    exact ⟨h, fun y h => by cases h⟩
  | _, d :: ds, ys, ⟨x, xs, h1, h2, h3⟩, e => by
    cases d <;> first | (cases e; done) | skip
    rename_i t
    have e : (textsOf ds).map (fun l => t :: l) = some ys := e
    cases q : textsOf ds with
    | none => rw [q] at e; cases e
    | some l =>
      rw [q] at e
      cases e
      obtain ⟨i1, i2⟩ := textsOf_rep h3 q
      obtain ⟨rfl, o⟩ := (show x = .str (mkS t) ∧ okT t from h2)
      refine ⟨by rw [h1, i1]; rfl, fun y hy => ?_⟩
      rcases List.mem_cons.mp hy with rfl | hy
      · exact o
      · exact i2 y hy
theorem joinN_eq (a : List Nat) : ∀ ys : List (List Nat), Str.join (mkS a) (ys.map mkS) = mkS (joinN a ys)
  | [] => rfl
  | [x] => rfl
  | x :: y :: r => by
    show mkS x ++ mkS a ++ Str.join (mkS a) ((y :: r).map mkS) = mkS (x ++ a ++ joinN a (y :: r))
    rw [joinN_eq a (y :: r), mkS_app, mkS_app]
theorem joinN_ok {a : List Nat} (ha : okT a) : ∀ {ys : List (List Nat)}, (∀ y ∈ ys, okT y) → okT (joinN a ys)
  | [], _ => fun c h => by cases h
  | [x], h => h x List.mem_cons_self
  | x :: y :: r, h => ((h x List.mem_cons_self).app ha).app (joinN_ok ha fun z hz => h z (List.mem_cons_of_mem _ hz))
section
variable {X : Cx} {W : WX} {o e : Expr} {ea eb : List Nat} {fa fb : DL.Env → R D} {apos pos : Pos}
def fJoin (fa fb : DL.Env → R D) : DL.Env → R D := fun ρ => (fa ρ).bind fun a => match a with
  | .str x => (fb ρ).bind fun b => R.ofO (gJoin (.str x) b)
  | _ => .stuck
theorem pd_join (ho : PD X W o ea fa) (he : PD X W e eb fb) (hs : starEach [e] X.env = [(false, eval e X.env)] := by rfl) (hbase : attributeBase o "join" X.env (eval o X.env) = eval o X.env := by rfl) (hline : (apos.endLine == pos.line) = true := by rfl) : PD X W (.Call (.Attribute o "join" apos) [e] [] pos) (ea ++ eb) (fJoin fa fb) :=
  PE.imp (pe_join ho he hs hbase hline) fun σ H Q ⟨B, O, L, ρ, S, P⟩ => ⟨B, O, L, ρ, S, PostG.bind P fun a x H1 e1 r1 P1 => by
    cases a <;> first | exact P1.elim | skip
    rename_i t
    obtain ⟨rfl, ot⟩ := (show x = .str (mkS t) ∧ okT t from r1)
    refine ⟨⟨_, rfl⟩, B, O, L, ρ, S.ext e1, PostG.bind P1 fun b y H2 e2 r2 P2 => ?_⟩
    obtain ⟨d, hd, P3⟩ := P2.ofO
    cases b <;> first | (cases hd; done) | skip
    rename_i ds
    have hd : (textsOf ds).bind (fun ys => if (ys.map (·.length)).sum + ys.length * t.length ≤ 16777216 then some (D.str (joinN t ys)) else none) = some d := hd
    cases q : textsOf ds with
    | none => rw [q] at hd; cases hd
    | some ys =>
      rw [q] at hd
      have hd : (if (ys.map (·.length)).sum + ys.length * t.length ≤ 16777216 then some (D.str (joinN t ys)) else none) = some d := hd
      split at hd
      case isFalse => cases hd
      rename_i hz
      cases hd
      obtain ⟨p, vs, rfl, h1, h2⟩ := (show ∃ a vs, y = .ref a ∧ Rd (hide (HS O (dropL eb L)) H2) a (.lst vs) ∧ RepL X.K (hide (HS O (dropL eb L)) H2) vs ds from r2)
      obtain ⟨t1, t2⟩ := textsOf_rep h2 q
      subst t1
      refine ⟨mkS t, p, ys.map mkS, rfl, rfl, .inl (.inl (hide_rd h1)), ?_, ?_⟩
      · rw [List.length_map, List.map_map]
        have e1 : (ys.map ((·.length) ∘ mkS)).sum = (ys.map (·.length)).sum := by
          refine congrArg List.sum (List.map_congr_left fun z _ => ?_)
          exact mkS_len z
        rw [e1, mkS_len]
        exact hz
      · refine P3 _ H2 (Same.refl H2) ⟨?_, joinN_ok ot t2⟩
        rw [TL.join_eq, joinN_eq]⟩
end
end DL
set_option Elab.async false
set_option linter.all false
set_option maxRecDepth 100000
namespace DL
open PySem PySem.Spec PyProof.Rows L2

/-! ### sorted, ints -/
def insI (x : Int) : List Int → List Int
  | [] => [x]
  | y :: l => if x ≤ y then x :: y :: l else y :: insI x l
def sortI : List Int → List Int
  | [] => []
  | x :: l => insI x (sortI l)
theorem insI_perm (x : Int) : ∀ l, (insI x l).Perm (x :: l)
  | [] => List.Perm.refl _
  | y :: l => by
    unfold insI
    split
    · exact List.Perm.refl _
    · exact ((insI_perm x l).cons y).trans (List.Perm.swap x y l)
theorem sortI_perm : ∀ l, (sortI l).Perm l
  | [] => List.Perm.refl _
  | x :: l => (insI_perm x _).trans ((sortI_perm l).cons x)
theorem insI_sorted (x : Int) : ∀ {l : List Int}, l.Pairwise (· ≤ ·) → (insI x l).Pairwise (· ≤ ·)
  | [], _ => by simp [insI]
  | y :: l, h => by
    obtain ⟨h1, h2⟩ := List.pairwise_cons.mp h
    unfold insI
    split
    · rename_i hx
      refine List.pairwise_cons.mpr ⟨fun z hz => ?_, h⟩
      rcases List.mem_cons.mp hz with rfl | hz
      · exact hx
      · exact Int.le_trans hx (h1 z hz)
    · rename_i hx
      refine List.pairwise_cons.mpr ⟨fun z hz => ?_, insI_sorted x h2⟩
      rcases List.mem_cons.mp ((insI_perm x l).mem_iff.mp hz) with rfl | hz
      · omega
      · exact h1 z hz
theorem sortI_sorted : ∀ l, (sortI l).Pairwise (· ≤ ·)
  | [] => .nil
  | x :: l => insI_sorted x (sortI_sorted l)
theorem sorted_one : ∀ {l m : List Int}, l.Perm m → l.Pairwise (· ≤ ·) → m.Pairwise (· ≤ ·) → l = m
  | [], m, p, _, _ => by rw [List.nil_perm.mp p]
  | x :: l, [], p, _, _ => absurd (List.perm_nil.mp p) (by simp)
  | x :: l, y :: m, p, h1, h2 => by
    obtain ⟨a1, a2⟩ := List.pairwise_cons.mp h1
    obtain ⟨b1, b2⟩ := List.pairwise_cons.mp h2
    have e : x = y := by
      have hx := p.mem_iff.mp (List.mem_cons_self (a := x) (l := l))
      have hy := p.mem_iff.mpr (List.mem_cons_self (a := y) (l := m))
      rcases List.mem_cons.mp hx with e | hx
      · exact e
      rcases List.mem_cons.mp hy with e | hy
      · exact e.symm
      exact Int.le_antisymm (a1 y hy) (b1 x hx)
    subst e
    rw [sorted_one (List.Perm.cons_inv p) a2 b2]
def gSorted : List D → Option D
  | [.lst ds] => (intsOf ds).map fun bs => .lst ((sortI bs).map .int)
  | _ => none
theorem rep_ints {K : PySem.W.Frag} {G : Hp} : ∀ l : List Int, RepL K G (l.map V.int) (l.map D.int)
  | [] => rfl
  | x :: l => ⟨_, _, rfl, rfl, rep_ints l⟩
theorem cd_sorted {K : PySem.W.Frag} : CallD K (rSortedI K) gSorted := by
  intro O H xs as d Q hO r hg k
  unfold gSorted at hg
  split at hg
  · obtain ⟨bs, hb, hg⟩ := Option.map_eq_some_iff.mp hg
    subst hg
    obtain ⟨x, rfl, p, vs, rfl, h1, h2⟩ := one_rep r
    have e := ints_rep hb h2
    subst e
    refine ⟨p, bs, rfl, .inl (hide_rd h1), fun ns q hp hs hq => ?_⟩
    obtain rfl : ns = sortI bs := sorted_one (hp.trans (sortI_perm bs).symm) hs (sortI_sorted bs)
    have n : ¬ O q := fun z => hO q z hq
    exact k (.ref q) _ (same_new hq) ⟨q, _, rfl, .inl (by rw [hide_no n, upd_same]), rep_ints _⟩
  · cases hg
theorem boot_sorted : bootBuiltins "sorted" = some (.builtin "sorted") := by decide +kernel

/-! ### == of dicts, their keys ints or texts -/
def hitsD (ks' : List Key) (vs' : List D) : List Key → List D → Bool
  | k :: ks, v :: vs => (match lookD ks' vs' k with
    | some v' => deq v v'
    | none => false) && hitsD ks' vs' ks vs
  | _, _ => true
def eqDk (ks : List Key) (vs : List D) (ks' : List Key) (vs' : List D) : Bool := ks.length == ks'.length && hitsD ks' vs' ks vs
def gEqK : D → D → Option D
  | .dk ks vs, .dk ks' vs' => if isDataL 59 vs = true ∧ isDataL 59 vs' = true then some (.bl (eqDk ks vs ks' vs')) else none
  | _, _ => none
def gNeK : D → D → Option D
  | .dk ks vs, .dk ks' vs' => if isDataL 59 vs = true ∧ isDataL 59 vs' = true then some (.bl (!eqDk ks vs ks' vs')) else none
  | _, _ => none
def rDk (K : PySem.W.Frag) (f : Bool → Bool) : R2 := fun x y H Q => ∃ a b ua ub ds es, x = .ref a ∧ y = .ref b ∧ Rd H a (.dK ua) ∧ Rd H b (.dK ub) ∧ RepL K H (ua.map (·.2)) ds ∧ RepL K H (ub.map (·.2)) es ∧ isDataL 59 ds = true ∧ isDataL 59 es = true ∧
  Q (.bl (f (eqDk (ua.map (·.1)) ds (ub.map (·.1)) es))) H
theorem gd_dk {K : PySem.W.Frag} {f : Bool → Bool} {g : D → D → Option D} (hg : ∀ ks vs ks' vs', g (.dk ks vs) (.dk ks' vs') = if isDataL 59 vs = true ∧ isDataL 59 vs' = true then some (.bl (f (eqDk ks vs ks' vs'))) else none)
    (hn : ∀ a b d, g a b = some d → ∃ ks vs ks' vs', a = .dk ks vs ∧ b = .dk ks' vs') : OpD K (rDk K f) g := by
  intro O H x y a b d Q hO ra rb h k
  obtain ⟨ks, vs, ks', vs', rfl, rfl⟩ := hn a b d h
  rw [hg] at h
  split at h
  case isFalse => cases h
  rename_i hz
  cases h
  obtain ⟨p, us, rfl, h1, rfl, h3⟩ := ra
  obtain ⟨q, ws, rfl, g1, rfl, g3⟩ := rb
  exact ⟨p, q, us, ws, vs, vs', rfl, rfl, hide_rd h1, hide_rd g1, h3.mono hide_le, g3.mono hide_le, hz.1, hz.2, k _ H (Same.refl H) rfl⟩
theorem gd_eqK {K : PySem.W.Frag} : OpD K (rDk K id) gEqK := gd_dk (fun _ _ _ _ => rfl) fun a b d h => by
  unfold gEqK at h
  split at h
  · exact ⟨_, _, _, _, rfl, rfl⟩
  · cases h
theorem gd_neK {K : PySem.W.Frag} : OpD K (rDk K not) gNeK := gd_dk (fun _ _ _ _ => rfl) fun a b d h => by
  unfold gNeK at h
  split at h
  · exact ⟨_, _, _, _, rfl, rfl⟩
  · cases h
theorem look_data {n : Nat} {k : Key} {d : D} : ∀ {ks : List Key} {ds : List D}, isDataL n ds = true → lookD ks ds k = some d → isData n d = true
  | [], _, _, e => by cases e
  | _ :: _, [], _, e => by cases e
  | k' :: ks, d' :: ds, h, e => by
    have h : isData n d' = true ∧ isDataL n ds = true := by simpa [isDataL] using h
    have e : (if k' = k then some d' else lookD ks ds k) = some d := e
    split at e
    · cases e
      exact h.1
    · exact look_data h.2 e
section
variable {X : Cx} {pins : List (Addr × Obj)} {σ : L2.St} {H : Hp} {s : Shared}
theorem eqP_data (I : Inv X pins σ H s) {A : Around} (hu : A.units + 60 < cLine) {x y : V} {v u : Value} {a b : D} (ra : Rep X.K H x a) (rb : Rep X.K H y b) (ha : isData 59 a = true) (hb : isData 59 b = true) (rx : RelV x v) (ry : RelV y u) : SeqAt.EqP X.prog X.w A s v u (deq a b) := by
  obtain ⟨a1, a2, a3⟩ := dp_of ha ra
  obtain ⟨b1, b2, b3⟩ := dp_of hb rb
  obtain ⟨as, r1⟩ := Dp.reads I a.pd x v a1 rx
  obtain ⟨bs, r2⟩ := Dp.reads I b.pd y u b1 ry
  exact (SeqAt.eqAt_reads a.pd b.pd A s v u as bs r1 r2 a2 b2 (by
    have := Nat.min_le_left a.pd.depth b.pd.depth
    omega)).eqP
theorem hits_data (I : Inv X pins σ H s) {A : Around} (hu : A.units + 60 < cLine) {ub : List (Key × V)} {vb : List (Key × Value)} {es : List D} (rb : KV ub vb) (rB : RepL X.K H (ub.map (·.2)) es) (hb : isDataL 59 es = true) :
    ∀ {ua : List (Key × V)} {va : List (Key × Value)} {ds : List D}, KV ua va → RepL X.K H (ua.map (·.2)) ds → isDataL 59 ds = true → PySem.W.KeqHitsP X.prog X.w A s vb va (hitsD (ub.map (·.1)) es (ua.map (·.1)) ds) := by
  intro ua va ds ra
  unfold KV at ra
  induction ra generalizing ds with
  | nil => intro _ _; exact .nil
  | @cons p q ps qs h t ih =>
    intro rA ha
    obtain ⟨h1, h2⟩ := h
    obtain ⟨k, v⟩ := q
    obtain ⟨k', x⟩ := p
    have h1 : k' = k := h1
    subst h1
    cases ds with
    | nil =>
      have rA : _ = [] := rA
      cases rA
    | cons d ds =>
      obtain ⟨y, ys, e1, e2, e3⟩ := rA
      cases e1
      have ha : isData 59 d = true ∧ isDataL 59 ds = true := by simpa [isDataL] using ha
      have k1 := ih e3 ha.2
      have rr := rb.val k'
      have rl := look_rel k' rB
      show PySem.W.KeqHitsP X.prog X.w A s vb ((k', v) :: qs) ((match lookD (ub.map (·.1)) es k' with | some v' => deq d v' | none => false) && hitsD (ub.map (·.1)) es (ps.map (·.1)) ds)
      cases z : valV ub k' with
      | none =>
        rw [z] at rr rl
        cases z2 : lookD (ub.map (·.1)) es k' with
        | some w => rw [z2] at rl; exact rl.elim
        | none =>
          have z3 : valueAt vb k' = none := by
            cases q : valueAt vb k' with
            | none => rfl
            | some w => rw [q] at rr; exact rr.elim
          exact .miss z3
      | some w =>
        rw [z] at rr rl
        cases z2 : lookD (ub.map (·.1)) es k' with
        | none => rw [z2] at rl; exact rl.elim
        | some d' =>
          rw [z2] at rl
          obtain ⟨y, hy, ry⟩ := rr.some_of
          exact .hit hy (eqP_data I hu e2 rl ha.1 (look_data hb z2) h2 ry) k1
theorem rcP_ndicts {prog : Program} {w : World} {K : Type} [DecidableEq K] {knd : KeyKind prog w K} {A : Around} {a b : Addr} {ka kb : List (K × Value)} {r : Bool} (ha : (a == sysModules) = false) (hb : (b == sysModules) = false) (da : s.heap.DictOf knd a ka) (db : s.heap.DictOf knd b kb)
    (hu : A.units < cLine) (hits : ka.length = kb.length → PySem.W.KeqHitsP prog w A.in1 s kb ka r) (E Q : Value → Shared → Prop) (h : Q (.bool (!(ka.length == kb.length && r))) s) : wpAny (model prog w) A (richCompare .NotEq (.ref a) (.ref b)) Q E s := by
  refine wpAny_richCompare_same_room (op := .NotEq) da.typeIs db.typeIs PySem.F.slot_dict_ne (wpAny_call_entry PySem.F.slot_dict_ne da.typeIs PySem.F.entry_dict_ne ?_ (PySem.F.args_dict_ne_2 _ _)) hu
  show wpAny _ _ (Builtin.Dict.dictSlotArgs "__ne__" ⟨[.ref a, .ref b], []⟩ >>= _) _ _ s
  refine wpAny_bind ?_
  unfold Builtin.Dict.dictSlotArgs
  refine wpAny_bind (wpAny_notOrdered_dict da.typeIs ?_)
  show wpAny _ _ (pure (Value.ref a, Value.ref b)) _ _ s
  refine wpAny_pure ?_
  refine wpAny_bind (wpAny_isInstance (T := "dict") db.typeIs PySem.F.sub_dict_dict ?_)
  simp only [Bool.not_true, Bool.false_eq_true, if_false]
  refine wpAny_bind (wpAny_pure (wpAny_bind (wpAny_pure ?_)))
  refine wpAny_bind (PySem.W.samePairsP ha hb da db hits ?_)
  have e : ∀ z : Bool, (z == false) = !z := by decide
  rw [← e] at h
  exact wpAny_pure ⟨_, rfl, (by intro x; cases x), h⟩
theorem op_eqK (hu : X.A.units + 64 < cLine) : OpR X (compareOp .Eq) (rDk X.K id) := by
  intro pins s σ H x y v u Q I rx ry h
  obtain ⟨a, b, ua, ub, ds, es, rfl, rfl, h1, h2, h3, h4, h5, h6, q⟩ := h
  cases (show v = Value.ref a from rx)
  cases (show u = Value.ref b from ry)
  obtain ⟨_, ya, va, ra, da⟩ := dk_rd I.hok h1
  obtain ⟨_, yb, vb, rb, db⟩ := dk_rd I.hok h2
  refine PySem.W.rcP_dicts (knd := mixKind X.prog X.w) ya yb da db (by omega) (fun _ => hits_data I (A := X.A.in1) (by show X.A.units + 1 + 60 < cLine; omega) rb h4 h6 ra h3 h5) _ _ ?_
  rw [← ra.length, ← rb.length]
  refine ⟨.bl _, H, I, rfl, ?_⟩
  have e : eqDk (ua.map (·.1)) ds (ub.map (·.1)) es = (ua.length == ub.length && hitsD (ub.map (·.1)) es (ua.map (·.1)) ds) := by
    unfold eqDk
    rw [List.length_map, List.length_map]
  rw [← e]
  exact q
theorem op_neK (hu : X.A.units + 64 < cLine) : OpR X (compareOp .NotEq) (rDk X.K not) := by
  intro pins s σ H x y v u Q I rx ry h
  obtain ⟨a, b, ua, ub, ds, es, rfl, rfl, h1, h2, h3, h4, h5, h6, q⟩ := h
  cases (show v = Value.ref a from rx)
  cases (show u = Value.ref b from ry)
  obtain ⟨_, ya, va, ra, da⟩ := dk_rd I.hok h1
  obtain ⟨_, yb, vb, rb, db⟩ := dk_rd I.hok h2
  refine rcP_ndicts (knd := mixKind X.prog X.w) ya yb da db (by omega) (fun _ => hits_data I (A := X.A.in1) (by show X.A.units + 1 + 60 < cLine; omega) rb h4 h6 ra h3 h5) _ _ ?_
  rw [← ra.length, ← rb.length]
  refine ⟨.bl _, H, I, rfl, ?_⟩
  have e : eqDk (ua.map (·.1)) ds (ub.map (·.1)) es = (ua.length == ub.length && hitsD (ub.map (·.1)) es (ua.map (·.1)) ds) := by
    unfold eqDk
    rw [List.length_map, List.length_map]
  rw [← e]
  exact q
end
end DL
set_option Elab.async false
set_option linter.all false
set_option maxRecDepth 100000
namespace DL
open PySem L2

def b_comes_first : Env → Out :=
  (fSeq (fLkS 0 [] (fFor (fKeys (fun ρ => getE ρ 0)) (gtName 3)
  (fSeq (fAsg 4 (fLc (fIter (fOp gIx (fun ρ => getE ρ 0) (fun ρ => getE ρ 3))) (gtName 5) (fB (fOp (gIn5 false) (fun ρ => getE ρ 5) (fun ρ => getE ρ 2))) (fun ρ => getE ρ 5) [5]))
  (fIf (fAnd (fB (fOp (gIn5 false) (fun ρ => getE ρ 1) (fun ρ => getE ρ 4))) (fB (fOp gNe (fOp gIx (fun ρ => getE ρ 4) (fun _ => .ok (.int 0))) (fun ρ => getE ρ 1))))
  (fRet (fun _ => .ok (.bl false)))
  fNext))))
  (fRet (fun _ => .ok (.bl true))))
def F_comes_first : List D → R D := runF 6 3 (b_comes_first)
def b_ordered (F_rec : List D → R (List D)) : Env → GO :=
  (gSeq (gIf (fNot (fTru (fun ρ => getE ρ 1)))
  (gSeq (gYield (fun ρ => getE ρ 2))
  gNext)
  gNext)
  (gSeq (gFor (fIter (fun ρ => getE ρ 1)) (gtName 3)
  (gSeq (gIf (fB (fCallN F_comes_first (fCons (fun ρ => getE ρ 0) (fCons (fun ρ => getE ρ 3) (fCons (fun ρ => getE ρ 1) fNil)))))
  (gSeq (gPl (fAsg 4 (fLc (fIter (fun ρ => getE ρ 1)) (gtName 6) (fB (fOp gNe (fun ρ => getE ρ 6) (fun ρ => getE ρ 3))) (fun ρ => getE ρ 6) [6])))
  (gSeq (gPl (fAsg 5 (fOp gAdd (fun ρ => getE ρ 2) (fTup (fCons (fun ρ => getE ρ 3) fNil)))))
  (gSeq (gFrom F_rec (fCons (fun ρ => getE ρ 0) (fCons (fun ρ => getE ρ 4) (fCons (fun ρ => getE ρ 5) fNil))))
  gNext)))
  gNext)
  gNext))
  gNext))
def F_ordered : Nat → List D → R (List D)
  | 0 => fun _ => .stuck
  | n + 1 => runG 7 3 (b_ordered (F_ordered n))
def b_serial_orders : Env → GO :=
  (gSeq (gPl (fAsg 2 (fLRng (fun ρ => getE ρ 1))))
  (gSeq (gIf (fB (fCB gAll (fCons (fLkE 0 (fLc2 (fKeys (fun ρ => getE ρ 0)) (gtName 3) fYes (fIter (fOp gIx (fun ρ => getE ρ 0) (fun ρ => getE ρ 3))) [4] (gtName 4) fYes (fOp (gIn5 false) (fun ρ => getE ρ 4) (fun ρ => getE ρ 2)) [3, 4])) fNil)))
  (gSeq (gFrom (F_ordered 10) (fCons (fun ρ => getE ρ 0) (fCons (fun ρ => getE ρ 2) (fCons (fTup fNil) fNil))))
  gNext)
  gNext)
  gNext))
def F_serial_orders : List D → R (List D) := runG 5 2 (b_serial_orders)
def b__law_same (F_rec : List D → R D) : Env → Out :=
  (fSeq (fIf (fB (fOp (gIsN false) (fun ρ => getE ρ 1) (fun _ => .ok .non)))
  (fRet (fOp (gIsN false) (fun ρ => getE ρ 0) (fun _ => .ok .non)))
  fNext)
  (fSeq (fIf (fB (fIsi "bool" (fun ρ => getE ρ 1)))
  (fRet (fAndV (fIsi "bool" (fun ρ => getE ρ 0)) (fOp gEq (fun ρ => getE ρ 0) (fun ρ => getE ρ 1))))
  fNext)
  (fSeq (fIf (fB (fIsi "int" (fun ρ => getE ρ 1)))
  (fRet (fAndV (fIsi "int" (fun ρ => getE ρ 0)) (fAndV (fNotV (fIsi "bool" (fun ρ => getE ρ 0))) (fOp gEq (fun ρ => getE ρ 0) (fun ρ => getE ρ 1)))))
  fNext)
  (fSeq (fIf (fB (fIsi "str" (fun ρ => getE ρ 1)))
  (fRet (fAndV (fIsi "str" (fun ρ => getE ρ 0)) (fOp gEq (fun ρ => getE ρ 0) (fun ρ => getE ρ 1))))
  fNext)
  (fSeq (fIf (fAnd (fB (fIsi "list" (fun ρ => getE ρ 1))) (fNot (fB (fIsi "list" (fun ρ => getE ρ 0)))))
  (fRet (fun _ => .ok (.bl false)))
  fNext)
  (fSeq (fIf (fAnd (fB (fIsi "tuple" (fun ρ => getE ρ 1))) (fNot (fB (fIsi "tuple" (fun ρ => getE ρ 0)))))
  (fRet (fun _ => .ok (.bl false)))
  fNext)
  (fSeq (fIf (fB (fOp gNe (fCB gLen (fCons (fun ρ => getE ρ 0) fNil)) (fCB gLen (fCons (fun ρ => getE ρ 1) fNil))))
  (fRet (fun _ => .ok (.bl false)))
  fNext)
  (fSeq (fFor (fRng (fCons (fCB gLen (fCons (fun ρ => getE ρ 1) fNil)) fNil)) (gtName 2)
  (fIf (fNot (fB (fCallN F_rec (fCons (fOp gIx (fun ρ => getE ρ 0) (fun ρ => getE ρ 2)) (fCons (fOp gIx (fun ρ => getE ρ 1) (fun ρ => getE ρ 2)) fNil)))))
  (fRet (fun _ => .ok (.bl false)))
  fNext))
  (fRet (fun _ => .ok (.bl true)))))))))))
def F__law_same : Nat → List D → R D
  | 0 => fun _ => .stuck
  | n + 1 => runF 3 2 (b__law_same (F__law_same n))
def b__law_ready : Env → Out :=
  (fSeq (fLkS 0 [] (fFor (fKeys (fun ρ => getE ρ 0)) (gtName 3)
  (fSeq (fAsg 4 (fLc (fIter (fOp gIx (fun ρ => getE ρ 0) (fun ρ => getE ρ 3))) (gtName 5) (fB (fOp (gIn5 false) (fun ρ => getE ρ 5) (fun ρ => getE ρ 2))) (fun ρ => getE ρ 5) [5]))
  (fIf (fAnd (fB (fOp (gIn5 false) (fun ρ => getE ρ 1) (fun ρ => getE ρ 4))) (fB (fOp gNe (fOp gIx (fun ρ => getE ρ 4) (fun _ => .ok (.int 0))) (fun ρ => getE ρ 1))))
  (fRet (fun _ => .ok (.bl false)))
  fNext))))
  (fRet (fun _ => .ok (.bl true))))
def F__law_ready : List D → R D := runF 6 3 (b__law_ready)
def b__law_orders (F_rec : List D → R D) : Env → Out :=
  (fSeq (fIf (fB (fOp gEq (fun ρ => getE ρ 1) (fLst fNil)))
  (fRet (fLst (fCons (fun ρ => getE ρ 2) fNil)))
  fNext)
  (fSeq (fAsg 3 (fLst fNil))
  (fSeq (fFor (fIter (fun ρ => getE ρ 1)) (gtName 4)
  (fIf (fB (fCallN F__law_ready (fCons (fun ρ => getE ρ 0) (fCons (fun ρ => getE ρ 4) (fCons (fun ρ => getE ρ 1) fNil)))))
  (fAsg 3 (fOp gAdd (fun ρ => getE ρ 3) (fCallN F_rec (fCons (fun ρ => getE ρ 0) (fCons (fLc (fIter (fun ρ => getE ρ 1)) (gtName 5) (fB (fOp gNe (fun ρ => getE ρ 5) (fun ρ => getE ρ 4))) (fun ρ => getE ρ 5) [5]) (fCons (fOp gAdd (fun ρ => getE ρ 2) (fTup (fCons (fun ρ => getE ρ 4) fNil))) fNil))))))
  fNext))
  (fRet (fun ρ => getE ρ 3)))))
def F__law_orders : Nat → List D → R D
  | 0 => fun _ => .stuck
  | n + 1 => runF 6 3 (b__law_orders (F__law_orders n))
def b__law_strange : Env → Out :=
  (fSeq (fAsg 3 (fCB gSorted (fCons (fLkE 0 (fLc (fKeys (fun ρ => getE ρ 0)) (gtName 4) fYes (fCB gInt (fCons (fun ρ => getE ρ 4) fNil)) [4])) fNil)))
  (fSeq (fAsg 4 (fOp gIx (fun ρ => getE ρ 3) (fOp gMod (fOp gIx (fun ρ => getE ρ 2) (fun _ => .ok (.int 0))) (fCB gLen (fCons (fun ρ => getE ρ 3) fNil)))))
  (fSeq (fAsgF 5 (fCB gList (fCons (fOp gIx (fun ρ => getE ρ 0) (fun ρ => getE ρ 4)) fNil)))
  (fSeq (fPut 5 (fOp gAdd (fun ρ => getE ρ 1) (fOp gMod (fOp gIx (fun ρ => getE ρ 2) (fun _ => .ok (.int 2))) (fun _ => .ok (.int 4)))) (fOp gMod (fOp gIx (fun ρ => getE ρ 2) (fun _ => .ok (.int 1))) (fun ρ => scalR ((fCB gLen (fCons (fun ρ => getE ρ 5) fNil)) ρ))))
  (fSeq (fAsgF 6 (fun _ => .ok (.dk [] [])))
  (fSeq (fLkS 0 [(6, 1)] (fFor (fKeys (fun ρ => getE ρ 0)) (gtName 7)
  (fPut 6 (fOp gIx (fun ρ => getE ρ 0) (fun ρ => getE ρ 7)) (fun ρ => getE ρ 7))))
  (fSeq (fPut 6 (fCB gTuple (fCons (fun ρ => getE ρ 5) fNil)) (fun ρ => getE ρ 4))
  (fRet (fun ρ => getE ρ 6)))))))))
def F__law_strange : List D → R D := runF 8 3 (b__law_strange)
def b__law_cell : Env → Out :=
  (fSeq (fIf (fB (fOp gLt (fun ρ => getE ρ 1) (fCB gLen (fCons (fun ρ => getE ρ 0) fNil))))
  (fRet (fOp gIx (fun ρ => getE ρ 0) (fun ρ => getE ρ 1)))
  fNext)
  (fRet (fun _ => .ok (.int 0))))
def F__law_cell : List D → R D := runF 2 2 (b__law_cell)
def b__law_numbers : Env → Out :=
  (fSeq (fAsg 3 (fun _ => .ok (.int 0)))
  (fSeq (fIf (fB (fOp gGe (fun ρ => getE ρ 0) (fOp gPow (fun _ => .ok (.int 10)) (fun _ => .ok (.int 18)))))
  (fAsg 3 (fOp gMinus (fun ρ => getE ρ 0) (fOp gPow (fun _ => .ok (.int 10)) (fun _ => .ok (.int 18)))))
  fNext)
  (fSeq (fAsg 4 (fOp gMod (fCB gInt (fCons (fun ρ => getE ρ 0) fNil)) (fun _ => .ok (.int 2147483647))))
  (fSeq (fAsgF 5 (fLst fNil))
  (fSeq (fFor (fRng (fCons (fun ρ => getE ρ 1) fNil)) (gtName 6)
  (fSeq (fAsg 4 (fOp gMod (fCB gInt (fCons (fOp gAdd (fOp gAdd (fOp gMul (fun ρ => getE ρ 4) (fun _ => .ok (.int 48271))) (fOp gMul (fun _ => .ok (.int 10007)) (fun ρ => getE ρ 6))) (fun _ => .ok (.int 12345))) fNil)) (fun _ => .ok (.int 2147483647))))
  (fIf (fB (fOp gGt (fun ρ => getE ρ 3) (fun _ => .ok (.int 0))))
  (fSeq (fApp 5 (fOp gMod (fCB gInt (fCons (fun ρ => getE ρ 3) fNil)) (fun ρ => getE ρ 2)))
  (fAsg 3 (fOp gDiv (fun ρ => getE ρ 3) (fun ρ => getE ρ 2))))
  (fApp 5 (fOp gMod (fOp gDiv (fun ρ => getE ρ 4) (fun _ => .ok (.int 1021))) (fun ρ => getE ρ 2))))))
  (fRet (fun ρ => getE ρ 5)))))))
def F__law_numbers : List D → R D := runF 7 3 (b__law_numbers)
def b__law_shuffled : Env → Out :=
  (fSeq (fAsgF 2 (fCB gList (fCons (fun ρ => getE ρ 0) fNil)))
  (fSeq (fAsgF 3 (fLst fNil))
  (fSeq (fFor (fIter (fun ρ => getE ρ 1)) (gtName 4)
  (fIf (fB (fOp gNe (fun ρ => getE ρ 2) (fLst fNil)))
  (fAppM 3 (fPopAt 2 (fOp gMod (fCB gInt (fCons (fun ρ => getE ρ 4) fNil)) (fun ρ => scalR ((fCB gLen (fCons (fun ρ => getE ρ 2) fNil)) ρ)))))
  fNext))
  (fRet (fOp gAdd (fun ρ => getE ρ 3) (fun ρ => getE ρ 2))))))
def F__law_shuffled : List D → R D := runF 5 2 (b__law_shuffled)
def b__law_drawn : Env → Out :=
  (fSeq (fAsg 4 (fCallN F__law_shuffled (fCons (fLRng (fun ρ => getE ρ 1)) (fCons (fCallN F__law_numbers (fCons (fCallN F__law_cell (fCons (fun ρ => getE ρ 0) (fCons (fun _ => .ok (.int 1)) fNil))) (fCons (fun _ => .ok (.int 8)) (fCons (fun _ => .ok (.int 60)) fNil)))) fNil))))
  (fSeq (fAsgF 5 (fun _ => .ok (.dk [] [])))
  (fSeq (fFor (fRng (fCons (fun _ => .ok (.int 6)) fNil)) (gtName 6)
  (fSeq (fAsg 7 (fCallN F__law_numbers (fCons (fCallN F__law_cell (fCons (fun ρ => getE ρ 0) (fCons (fOp gAdd (fun _ => .ok (.int 2)) (fun ρ => getE ρ 6)) fNil))) (fCons (fun _ => .ok (.int 19)) (fCons (fun _ => .ok (.int 60)) fNil)))))
  (fSeq (fAsg 8 (fLc (fIter (fun ρ => getE ρ 4)) (gtName 10) (fB (fOp gLt (fOp gIx (fun ρ => getE ρ 7) (fun ρ => getE ρ 10)) (fun _ => .ok (.int 20)))) (fun ρ => getE ρ 10) [10]))
  (fSeq (fIf (fB (fOp gLt (fOp gIx (fun ρ => getE ρ 7) (fun _ => .ok (.int 8))) (fun _ => .ok (.int 20))))
  (fAsg 8 (fCallN F__law_shuffled (fCons (fun ρ => getE ρ 8) (fCons (fSl (fun ρ => getE ρ 7) (foSome (fun _ => .ok (.int 9))) (foSome (fun _ => .ok (.int 17)))) fNil))))
  fNext)
  (fSeq (fIf (fB (fOp gEq (fun ρ => getE ρ 6) (fun ρ => getE ρ 2)))
  (fSeq (fAsg 9 (fLc (fIter (fSl (fun ρ => getE ρ 7) (foSome (fun _ => .ok (.int 17))) (foSome (fOp gAdd (fun _ => .ok (.int 17)) (fun ρ => getE ρ 3))))) (gtName 11) fYes (fOp gMod (fun ρ => getE ρ 11) (fun _ => .ok (.int 8))) [11]))
  (fAsg 8 (fLc (fIter (fun ρ => getE ρ 4)) (gtName 10) (fB (fOp (gIn5 true) (fun ρ => getE ρ 10) (fun ρ => getE ρ 9))) (fun ρ => getE ρ 10) [10])))
  fNext)
  (fIf (fAnd (fB (fOp gNe (fun ρ => getE ρ 8) (fLst fNil))) (fOr (fB (fOp gEq (fun ρ => getE ρ 6) (fun ρ => getE ρ 2))) (fB (fOp gLt (fOp gIx (fun ρ => getE ρ 7) (fun _ => .ok (.int 17))) (fun _ => .ok (.int 25))))))
  (fPut 5 (fCB gTuple (fCons (fun ρ => getE ρ 8) fNil)) (fun ρ => getE ρ 6))
  fNext))))))
  (fRet (fun ρ => getE ρ 5)))))
def F__law_drawn : List D → R D := runF 12 4 (b__law_drawn)
def b_law : Env → Out :=
  (fSeq (fAsg 1 (fCallN F__law_numbers (fCons (fCallN F__law_cell (fCons (fun ρ => getE ρ 0) (fCons (fun _ => .ok (.int 0)) fNil))) (fCons (fun _ => .ok (.int 6)) (fCons (fun _ => .ok (.int 12)) fNil)))))
  (fSeq (fAsg 2 (fOp gIx (fLst (fCons (fun _ => .ok (.int 2)) (fCons (fun _ => .ok (.int 3)) (fCons (fun _ => .ok (.int 4)) (fCons (fun _ => .ok (.int 5)) (fCons (fun _ => .ok (.int 6)) (fCons (fun _ => .ok (.int 7)) (fCons (fun _ => .ok (.int 8)) (fCons (fun _ => .ok (.int 1)) (fCons (fun _ => .ok (.int 0)) (fCons (fun _ => .ok (.int 6)) (fCons (fun _ => .ok (.int 7)) (fCons (fun _ => .ok (.int 8)) fNil))))))))))))) (fOp gIx (fun ρ => getE ρ 1) (fun _ => .ok (.int 0)))))
  (fSeq (fAsg 3 (fCallN F__law_drawn (fCons (fun ρ => getE ρ 0) (fCons (fun ρ => getE ρ 2) (fCons (fOp gMod (fOp gIx (fun ρ => getE ρ 1) (fun _ => .ok (.int 1))) (fun _ => .ok (.int 6))) (fCons (fOp gMod (fOp gIx (fun ρ => getE ρ 1) (fun _ => .ok (.int 5))) (fun _ => .ok (.int 3))) fNil))))))
  (fSeq (fAsg 4 (fAndV (fOp gLt (fOp gIx (fun ρ => getE ρ 1) (fun _ => .ok (.int 2))) (fun _ => .ok (.int 3))) (fOp gNeK (fun ρ => getE ρ 3) (fun _ => .ok (.dk [] [])))))
  (fSeq (fIf (fTru (fun ρ => getE ρ 4))
  (fAsg 3 (fCallN F__law_strange (fCons (fun ρ => getE ρ 3) (fCons (fun ρ => getE ρ 2) (fCons (fSl (fun ρ => getE ρ 1) (foSome (fun _ => .ok (.int 3))) foNone) fNil)))))
  fNext)
  (fSeq (fAsgF 5 (fun _ => .ok (.dk [] [])))
  (fSeq (fLkS 3 [] (fFor (fKeys (fun ρ => getE ρ 3)) (gtName 6)
  (fPut 5 (fOp gIx (fun ρ => getE ρ 3) (fun ρ => getE ρ 6)) (fun ρ => getE ρ 6))))
  (fSeq (fAsg 7 (fLst fNil))
  (fSeq (fIf (fNot (fTru (fun ρ => getE ρ 4)))
  (fAsg 7 (fCallN (F__law_orders 10) (fCons (fun ρ => getE ρ 3) (fCons (fLRng (fun ρ => getE ρ 2)) (fCons (fTup fNil) fNil)))))
  fNext)
  (fSeq (fRet (fAndV (fCallN (F__law_same 4) (fCons (fListN F_serial_orders (fCons (fun ρ => getE ρ 5) (fCons (fun ρ => getE ρ 2) fNil))) (fCons (fun ρ => getE ρ 7) fNil))) (fOp gEqK (fun ρ => getE ρ 5) (fun ρ => getE ρ 3))))
  fNext))))))))))
def F_law : List D → R D := runF 8 1 (b_law)
end DL
set_option Elab.async false
set_option linter.all false
set_option maxRecDepth 100000
namespace DL
open PySem PySem.Spec PyProof.Rows L2
abbrev top (i : Nat) : Stmt := PySem.Challenge.pw_lockrules_k60_serial_orders_of_more.main.body.getD i (.Pass ⟨0, 0, 0, 0⟩)
structure Txt (mg : Str → Option Value) : Prop where
  all : mg "all" = none
  bool : mg "bool" = none
  int : mg "int" = none
  isinstance : mg "isinstance" = none
  len : mg "len" = none
  list : mg "list" = none
  range : mg "range" = none
  sorted : mg "sorted" = none
  str : mg "str" = none
  tuple : mg "tuple" = none

abbrev s_comes_first : Stmt := top 1
theorem sc_comes_first : FnScope ["result", "index", "left", "item", "row", "one"] ["result", "index", "left"] (defScope s_comes_first) := ⟨rfl, rfl, rfl, by decide +kernel, rfl, by decide +kernel, by decide +kernel⟩
theorem h_comes_first {P : Program} {w : World} {K : PySem.W.Frag} {mg : Str → Option Value} {base : Heap} (T : Txt mg)   {f : Addr} {fd : FuncData} (Fn : Fun K "comes_first" "comes_first" s_comes_first f fd) (m : mg "comes_first" = some (.ref f)) (bd : L2.Binds K fd ["result", "index", "left"] []) : Has P w K mg base "comes_first" 1 3 F_comes_first := by
  have sc := sc_comes_first
  refine ⟨f, fd, _, okD F_comes_first Fn sc (fun cdv Ar outer s H E hr => ⟨b_comes_first, ?_, (fun _ _ => .inr rfl)⟩), m, Fn.kp, bd⟩
  have tk := takesD (X := cxOf (L2.CX P w) P w K mg base ["result", "index", "left", "item", "row", "one"] "comes_first" (defScope s_comes_first) f cdv Ar outer s H E) rfl rfl rfl rfl
  exact (pdb_cons (pds_lk (ow0 := []) (ow := []) (ow' := []) 0 (pds_for (ow := []) (ow' := []) (lo := []) (passes_of rfl) rfl (pdi_keys (pd_var (pv 0))) (pg_name (i := 3) sc.nd rfl (Or.inl rfl)) tg_name
  (PDB.sub (pdb_cons (pds_asgFS (ow := []) (ow' := []) (ps_setLcD (i := 4) (own := [("one", 5)]) rfl sc.nd rfl rfl (sw_true rfl rfl rfl (by decide +kernel)) (pdi_seq (pd_ixO 0 (hu1 hr) (pv 0) (pd_var (pv 3)) (fun _ _ => rfl))) (blkOk_by (own := [("one", 5)]) (N := ["result", "index", "left", "item", "row", "one"]) (sc := (defScope s_comes_first)) (by first | decide +kernel | rfl)) tg_name (fun _ _ _ _ _ => (pg_name (i := 5) sc.nd rfl (by first | exact Or.inl rfl | exact Or.inr rfl))) (fun _ _ _ _ _ => (pdts_one (pdt_cmp (op_in5 (hu65 hr)) gd_in5 (pd_var (pv 5)) (pd_var (pv 2)) (by rfl)))) (fun _ _ _ _ _ => (pd_var (pv 5)))))
  (pdb_one (pds_if (ow := []) (ow' := []) (pdt_w (pdw_and (pdt_cmp (op_in5 (hu65 hr)) gd_in5 (pd_var (pv 1)) (pd_var (pv 4)) (by rfl)) (pdw_and1 (pdt_cmp (op_neD hr.units) gd_ne (pd_ixO 4 (hu1 hr) (pv 4) pd_int (fun _ _ => rfl)) (pd_var (pv 1)) (nomark _)))))
  (PDB.sub (pdb_one (pds_ret (ow := []) (ow' := []) pd_bl)))
  (PDB.sub (pdb_nil (ow := []) (ow' := [])))))))))
  (pdb_one (pds_ret (ow := []) (ow' := []) pd_bl)))
abbrev s_ordered : Stmt := top 3
theorem sc_ordered : GScope ["result", "left", "done", "index", "rest", "longer", "one"] ["result", "left", "done"] (defScope s_ordered) := ⟨rfl, rfl, rfl, by decide +kernel, rfl, by decide +kernel, by decide +kernel⟩
theorem h_ordered {P : Program} {w : World} {K : PySem.W.Frag} {mg : Str → Option Value} {base : Heap} {k n : Nat} (T : Txt mg) (C_comes_first : Has P w K mg base "comes_first" 1 3 F_comes_first) (C_ordered : HasLG P w K mg base "ordered" k 3 (F_ordered n))  {f : Addr} {fd : FuncData} (Fn : Fun K "ordered" "ordered" s_ordered f fd) (m : mg "ordered" = some (.ref f)) (bd : L2.Binds K fd ["result", "left", "done"] []) : HasLG P w K mg base "ordered" (k + 3) 3 (F_ordered (n + 1)) := by
  have sc := sc_ordered
  refine ⟨f, fd, _, okLG (F_ordered (n + 1)) Fn sc (fun cdv Ar outer s H ex hr => ⟨(b_ordered (F_ordered n)), ?_, (fun _ _ => .inr rfl)⟩), m, Fn.kp, bd⟩
  have tk := takes_gnx (P := P) (w := w) (K := K) (mg := mg) (base := base) (N := ["result", "left", "done", "index", "rest", "longer", "one"]) (qual := "ordered") (scope := defScope s_ordered) (f := f) (cd := cdv) (A := Ar) (outer := outer) (s := s) (H := H) (ex := ex)
  have po := owns_gnx (P := P) (w := w) (K := K) (mg := mg) (base := base) (N := ["result", "left", "done", "index", "rest", "longer", "one"]) (qual := "ordered") (scope := defScope s_ordered) (f := f) (cd := cdv) (A := Ar) (outer := outer) (s := s) (H := H) (ex := ex)
  exact (ldb_cons (lds_if (ow := []) (ow' := []) (pdt_not (pdt_truth (pd_var (pv 1)) (by intro _; rfl)))
  (LDB.sub (ldb_cons (lds_yield (ow := []) (ow' := []) (pd_var (pv 2)))
  (ldb_nil (ow := []) (ow' := []))))
  (LDB.sub (ldb_nil (ow := []) (ow' := []))))
  (ldb_cons (lds_for (ow := []) (ow' := []) (lo := []) po rfl (pdi_seq (pd_var (pv 1))) (pg_name (i := 3) sc.nd rfl (Or.inr rfl)) tg_name
  (LDB.sub (ldb_cons (lds_if (ow := []) (ow' := []) (pdt_val (pd_own C_comes_first tk hr (show 1 ≤ k + 2 by omega) rfl (pda_cons (pd_var (pv 0)) (pda_cons (pd_var (pv 3)) (pda_cons (pd_var (pv 1)) pda_nil))) (fCons_len (fCons_len (fCons_len (fNil_len rfl))))))
  (LDB.sub (ldb_cons (lds_ps (pds_asgFS (ow := []) (ow' := []) (ps_setLcD (i := 4) (own := [("one", 6)]) rfl sc.nd rfl rfl (sw_true rfl rfl rfl (by decide +kernel)) (pdi_seq (pd_var (pv 1))) (blkOk_by (own := [("one", 6)]) (N := ["result", "left", "done", "index", "rest", "longer", "one"]) (sc := (defScope s_ordered)) (by first | decide +kernel | rfl)) tg_name (fun _ _ _ _ _ => (pg_name (i := 6) sc.nd rfl (by first | exact Or.inl rfl | exact Or.inr rfl))) (fun _ _ _ _ _ => (pdts_one (pdt_cmp (op_neD hr.units) gd_ne (pd_var (pv 6)) (pd_var (pv 3)) (nomark _)))) (fun _ _ _ _ _ => (pd_var (pv 6))))))
  (ldb_cons (lds_ps (pds_asg (ow := []) (ow' := []) (ps_set (i := 5) sc.nd rfl (Or.inl rfl) (pd_op op_addD gd_add (pd_var (pv 2)) (pd_tup (pda_cons (pd_var (pv 3)) pda_nil))))))
  (ldb_cons (lds_from (ow := []) (ow' := []) C_ordered hr (Nat.le_refl _) rfl (pda_cons (pd_var (pv 0)) (pda_cons (pd_var (pv 4)) (pda_cons (pd_var (pv 5)) pda_nil))) (fCons_len (fCons_len (fCons_len (fNil_len rfl)))))
  (ldb_nil (ow := []) (ow' := []))))))
  (LDB.sub (ldb_nil (ow := []) (ow' := []))))
  (ldb_nil (ow := []) (ow' := [])))))
  (ldb_nil (ow := []) (ow' := []))))
abbrev s_serial_orders : Stmt := top 2
theorem sc_serial_orders : GScope ["result", "count", "left", "item", "index"] ["result", "count"] (defScope s_serial_orders) := ⟨rfl, rfl, rfl, by decide +kernel, rfl, by decide +kernel, by decide +kernel⟩
theorem h_serial_orders {P : Program} {w : World} {K : PySem.W.Frag} {mg : Str → Option Value} {base : Heap} (T : Txt mg) (C_ordered : HasLG P w K mg base "ordered" 32 3 (F_ordered 10))  {f : Addr} {fd : FuncData} (Fn : Fun K "serial_orders" "serial_orders" s_serial_orders f fd) (m : mg "serial_orders" = some (.ref f)) (bd : L2.Binds K fd ["result", "count"] []) : HasLG P w K mg base "serial_orders" 36 2 F_serial_orders := by
  have sc := sc_serial_orders
  refine ⟨f, fd, _, okLG F_serial_orders Fn sc (fun cdv Ar outer s H ex hr => ⟨b_serial_orders, ?_, (fun _ _ => .inr rfl)⟩), m, Fn.kp, bd⟩
  have tk := takes_gnx (P := P) (w := w) (K := K) (mg := mg) (base := base) (N := ["result", "count", "left", "item", "index"]) (qual := "serial_orders") (scope := defScope s_serial_orders) (f := f) (cd := cdv) (A := Ar) (outer := outer) (s := s) (H := H) (ex := ex)
  have po := owns_gnx (P := P) (w := w) (K := K) (mg := mg) (base := base) (N := ["result", "count", "left", "item", "index"]) (qual := "serial_orders") (scope := defScope s_serial_orders) (f := f) (cd := cdv) (A := Ar) (outer := outer) (s := s) (H := H) (ex := ex)
  exact (ldb_cons (lds_ps (pds_asg (ow := []) (ow' := []) (ps_set (i := 2) sc.nd rfl (Or.inr rfl) (PDF.pd (pdf_listRg rfl rfl T.list rfl T.range (pd_var (pv 1)))))))
  (ldb_cons (lds_if (ow := []) (ow' := []) (pdt_val (pd_callB cd_all (cr_all rfl) (by rfl) T.all boot_all (pda_cons (PDF.pd (pdf_lk 0 (pdf_lc2 (own := [("item", 3), ("index", 4)]) (vs1 := [4]) rfl sc.nd (pdi_keys (pd_var (pv 0))) (blkOk_by (own := [("item", 3), ("index", 4)]) (N := ["result", "count", "left", "item", "index"]) (sc := (defScope s_serial_orders)) (by first | decide +kernel | rfl)) tg_name tg_name (fun _ _ _ _ _ => (pg_name (i := 3) sc.nd rfl (by first | exact Or.inl rfl | exact Or.inr rfl))) (fun _ _ _ _ _ => pdts_nil) (fun _ _ _ _ _ => (pdi_seq (pd_ixO 0 (hu1 hr) (pv 0) (pd_var (pv 3)) (fun _ _ => rfl)))) (fun _ _ _ _ _ => (pg_name (i := 4) sc.nd rfl (by first | exact Or.inl rfl | exact Or.inr rfl))) (fun _ _ _ _ _ => pdts_nil) (fun _ _ _ _ _ => (pd_cmp (op_in5 (hu65 hr)) gd_in5 (pd_var (pv 4)) (pd_var (pv 2)) (by rfl)))))) pda_nil)))
  (LDB.sub (ldb_cons (lds_from (ow := []) (ow' := []) C_ordered hr (show 32 + 2 ≤ 35 by decide) rfl (pda_cons (pd_var (pv 0)) (pda_cons (pd_var (pv 2)) (pda_cons (pd_tup pda_nil) pda_nil))) (fCons_len (fCons_len (fCons_len (fNil_len rfl)))))
  (ldb_nil (ow := []) (ow' := []))))
  (LDB.sub (ldb_nil (ow := []) (ow' := []))))
  (ldb_nil (ow := []) (ow' := []))))
abbrev s__law_same : Stmt := top 7
theorem sc__law_same : FnScope ["actual", "due", "k"] ["actual", "due"] (defScope s__law_same) := ⟨rfl, rfl, rfl, by decide +kernel, rfl, by decide +kernel, by decide +kernel⟩
theorem h__law_same {P : Program} {w : World} {K : PySem.W.Frag} {mg : Str → Option Value} {base : Heap} {k n : Nat} (T : Txt mg) (C__law_same : Has P w K mg base "_law_same" k 2 (F__law_same n))  {f : Addr} {fd : FuncData} (Fn : Fun K "_law_same" "_law_same" s__law_same f fd) (m : mg "_law_same" = some (.ref f)) (bd : L2.Binds K fd ["actual", "due"] []) : Has P w K mg base "_law_same" (k + 1) 2 (F__law_same (n + 1)) := by
  have sc := sc__law_same
  refine ⟨f, fd, _, okD (F__law_same (n + 1)) Fn sc (fun cdv Ar outer s H E hr => ⟨(b__law_same (F__law_same n)), ?_, (fun _ _ => .inr rfl)⟩), m, Fn.kp, bd⟩
  have tk := takesD (X := cxOf (L2.CX P w) P w K mg base ["actual", "due", "k"] "_law_same" (defScope s__law_same) f cdv Ar outer s H E) rfl rfl rfl rfl
  exact (pdb_cons (pds_if (ow := []) (ow' := []) (pdt_cmp op_isN gd_isN (pd_var (pv 1)) pd_non (nomark _))
  (PDB.sub (pdb_one (pds_ret (ow := []) (ow' := []) (pd_cmp op_isN gd_isN (pd_var (pv 0)) pd_non (nomark _)))))
  (PDB.sub (pdb_nil (ow := []) (ow' := []))))
  (pdb_cons (pds_if (ow := []) (ow' := []) (pdt_val (pd_isi rfl T.isinstance boot_isinstance rfl T.bool boot_bool (pd_var (pv 1))))
  (PDB.sub (pdb_one (pds_ret (ow := []) (ow' := []) (pd_and (pd_isi rfl T.isinstance boot_isinstance rfl T.bool boot_bool (pd_var (pv 0))) (pd_one (pd_cmp (op_eqD hr.units) gd_eq (pd_var (pv 0)) (pd_var (pv 1)) (nomark _)))))))
  (PDB.sub (pdb_nil (ow := []) (ow' := []))))
  (pdb_cons (pds_if (ow := []) (ow' := []) (pdt_val (pd_isi rfl T.isinstance boot_isinstance rfl T.int boot_int (pd_var (pv 1))))
  (PDB.sub (pdb_one (pds_ret (ow := []) (ow' := []) (pd_and (pd_isi rfl T.isinstance boot_isinstance rfl T.int boot_int (pd_var (pv 0))) (pd_and (pd_not (pd_isi rfl T.isinstance boot_isinstance rfl T.bool boot_bool (pd_var (pv 0)))) (pd_one (pd_cmp (op_eqD hr.units) gd_eq (pd_var (pv 0)) (pd_var (pv 1)) (nomark _))))))))
  (PDB.sub (pdb_nil (ow := []) (ow' := []))))
  (pdb_cons (pds_if (ow := []) (ow' := []) (pdt_val (pd_isi rfl T.isinstance boot_isinstance rfl T.str boot_str (pd_var (pv 1))))
  (PDB.sub (pdb_one (pds_ret (ow := []) (ow' := []) (pd_and (pd_isi rfl T.isinstance boot_isinstance rfl T.str boot_str (pd_var (pv 0))) (pd_one (pd_cmp (op_eqD hr.units) gd_eq (pd_var (pv 0)) (pd_var (pv 1)) (nomark _)))))))
  (PDB.sub (pdb_nil (ow := []) (ow' := []))))
  (pdb_cons (pds_if (ow := []) (ow' := []) (pdt_w (pdw_and (pdt_val (pd_isi rfl T.isinstance boot_isinstance rfl T.list boot_list (pd_var (pv 1)))) (pdw_and1 (pdt_not (pdt_val (pd_isi rfl T.isinstance boot_isinstance rfl T.list boot_list (pd_var (pv 0))))))))
  (PDB.sub (pdb_one (pds_ret (ow := []) (ow' := []) pd_bl)))
  (PDB.sub (pdb_nil (ow := []) (ow' := []))))
  (pdb_cons (pds_if (ow := []) (ow' := []) (pdt_w (pdw_and (pdt_val (pd_isi rfl T.isinstance boot_isinstance rfl T.tuple boot_tuple (pd_var (pv 1)))) (pdw_and1 (pdt_not (pdt_val (pd_isi rfl T.isinstance boot_isinstance rfl T.tuple boot_tuple (pd_var (pv 0))))))))
  (PDB.sub (pdb_one (pds_ret (ow := []) (ow' := []) pd_bl)))
  (PDB.sub (pdb_nil (ow := []) (ow' := []))))
  (pdb_cons (pds_if (ow := []) (ow' := []) (pdt_cmp (op_neD hr.units) gd_ne (pd_callB cd_len call_lenA (by rfl) T.len boot_len (pda_cons (pd_var (pv 0)) pda_nil)) (pd_callB cd_len call_lenA (by rfl) T.len boot_len (pda_cons (pd_var (pv 1)) pda_nil)) (nomark _))
  (PDB.sub (pdb_one (pds_ret (ow := []) (ow' := []) pd_bl)))
  (PDB.sub (pdb_nil (ow := []) (ow' := []))))
  (pdb_cons (pds_for (ow := []) (ow' := []) (lo := []) (passes_of rfl) rfl (pdi_range1 rfl T.range (pda_cons (pd_callB cd_len call_lenA (by rfl) T.len boot_len (pda_cons (pd_var (pv 1)) pda_nil)) pda_nil) (fCons_len (fNil_len rfl))) (pg_name (i := 2) sc.nd rfl (Or.inl rfl)) tg_name
  (PDB.sub (pdb_one (pds_if (ow := []) (ow' := []) (pdt_not (pdt_val (pd_own C__law_same tk hr (Nat.le_refl _) rfl (pda_cons (pd_ixO 0 (hu1 hr) (pv 0) (pd_var (pv 2)) (fun _ _ => rfl)) (pda_cons (pd_ixO 1 (hu1 hr) (pv 1) (pd_var (pv 2)) (fun _ _ => rfl)) pda_nil)) (fCons_len (fCons_len (fNil_len rfl))))))
  (PDB.sub (pdb_one (pds_ret (ow := []) (ow' := []) pd_bl)))
  (PDB.sub (pdb_nil (ow := []) (ow' := [])))))))
  (pdb_one (pds_ret (ow := []) (ow' := []) pd_bl))))))))))
abbrev s__law_ready : Stmt := top 9
theorem sc__law_ready : FnScope ["found", "index", "left", "item", "row", "one"] ["found", "index", "left"] (defScope s__law_ready) := ⟨rfl, rfl, rfl, by decide +kernel, rfl, by decide +kernel, by decide +kernel⟩
theorem h__law_ready {P : Program} {w : World} {K : PySem.W.Frag} {mg : Str → Option Value} {base : Heap} (T : Txt mg)   {f : Addr} {fd : FuncData} (Fn : Fun K "_law_ready" "_law_ready" s__law_ready f fd) (m : mg "_law_ready" = some (.ref f)) (bd : L2.Binds K fd ["found", "index", "left"] []) : Has P w K mg base "_law_ready" 1 3 F__law_ready := by
  have sc := sc__law_ready
  refine ⟨f, fd, _, okD F__law_ready Fn sc (fun cdv Ar outer s H E hr => ⟨b__law_ready, ?_, (fun _ _ => .inr rfl)⟩), m, Fn.kp, bd⟩
  have tk := takesD (X := cxOf (L2.CX P w) P w K mg base ["found", "index", "left", "item", "row", "one"] "_law_ready" (defScope s__law_ready) f cdv Ar outer s H E) rfl rfl rfl rfl
  exact (pdb_cons (pds_lk (ow0 := []) (ow := []) (ow' := []) 0 (pds_for (ow := []) (ow' := []) (lo := []) (passes_of rfl) rfl (pdi_keys (pd_var (pv 0))) (pg_name (i := 3) sc.nd rfl (Or.inl rfl)) tg_name
  (PDB.sub (pdb_cons (pds_asgFS (ow := []) (ow' := []) (ps_setLcD (i := 4) (own := [("one", 5)]) rfl sc.nd rfl rfl (sw_true rfl rfl rfl (by decide +kernel)) (pdi_seq (pd_ixO 0 (hu1 hr) (pv 0) (pd_var (pv 3)) (fun _ _ => rfl))) (blkOk_by (own := [("one", 5)]) (N := ["found", "index", "left", "item", "row", "one"]) (sc := (defScope s__law_ready)) (by first | decide +kernel | rfl)) tg_name (fun _ _ _ _ _ => (pg_name (i := 5) sc.nd rfl (by first | exact Or.inl rfl | exact Or.inr rfl))) (fun _ _ _ _ _ => (pdts_one (pdt_cmp (op_in5 (hu65 hr)) gd_in5 (pd_var (pv 5)) (pd_var (pv 2)) (by rfl)))) (fun _ _ _ _ _ => (pd_var (pv 5)))))
  (pdb_one (pds_if (ow := []) (ow' := []) (pdt_w (pdw_and (pdt_cmp (op_in5 (hu65 hr)) gd_in5 (pd_var (pv 1)) (pd_var (pv 4)) (by rfl)) (pdw_and1 (pdt_cmp (op_neD hr.units) gd_ne (pd_ixO 4 (hu1 hr) (pv 4) pd_int (fun _ _ => rfl)) (pd_var (pv 1)) (nomark _)))))
  (PDB.sub (pdb_one (pds_ret (ow := []) (ow' := []) pd_bl)))
  (PDB.sub (pdb_nil (ow := []) (ow' := [])))))))))
  (pdb_one (pds_ret (ow := []) (ow' := []) pd_bl)))
abbrev s__law_orders : Stmt := top 10
theorem sc__law_orders : FnScope ["found", "left", "done", "rows", "index", "one"] ["found", "left", "done"] (defScope s__law_orders) := ⟨rfl, rfl, rfl, by decide +kernel, rfl, by decide +kernel, by decide +kernel⟩
theorem h__law_orders {P : Program} {w : World} {K : PySem.W.Frag} {mg : Str → Option Value} {base : Heap} {k n : Nat} (T : Txt mg) (C__law_ready : Has P w K mg base "_law_ready" 1 3 F__law_ready) (C__law_orders : Has P w K mg base "_law_orders" (k + 1) 3 (F__law_orders n))  {f : Addr} {fd : FuncData} (Fn : Fun K "_law_orders" "_law_orders" s__law_orders f fd) (m : mg "_law_orders" = some (.ref f)) (bd : L2.Binds K fd ["found", "left", "done"] []) : Has P w K mg base "_law_orders" ((k + 1) + 1) 3 (F__law_orders (n + 1)) := by
  have sc := sc__law_orders
  refine ⟨f, fd, _, okD (F__law_orders (n + 1)) Fn sc (fun cdv Ar outer s H E hr => ⟨(b__law_orders (F__law_orders n)), ?_, (fun _ _ => .inr rfl)⟩), m, Fn.kp, bd⟩
  have tk := takesD (X := cxOf (L2.CX P w) P w K mg base ["found", "left", "done", "rows", "index", "one"] "_law_orders" (defScope s__law_orders) f cdv Ar outer s H E) rfl rfl rfl rfl
  exact (pdb_cons (pds_if (ow := []) (ow' := []) (pdt_cmp (op_eqD hr.units) gd_eq (pd_var (pv 1)) (PDF.pd (pdf_lst pda_nil)) (nomark _))
  (PDB.sub (pdb_one (pds_ret (ow := []) (ow' := []) (PDF.pd (pdf_lst (pda_cons (pd_var (pv 2)) pda_nil))))))
  (PDB.sub (pdb_nil (ow := []) (ow' := []))))
  (pdb_cons (pds_asg (ow := []) (ow' := []) (ps_set (i := 3) sc.nd rfl (Or.inl rfl) (PDF.pd (pdf_lst pda_nil))))
  (pdb_cons (pds_for (ow := []) (ow' := []) (lo := []) (passes_of rfl) rfl (pdi_seq (pd_var (pv 1))) (pg_name (i := 4) sc.nd rfl (Or.inr rfl)) tg_name
  (PDB.sub (pdb_one (pds_if (ow := []) (ow' := []) (pdt_val (pd_own C__law_ready tk hr (show 1 ≤ k + 1 by omega) rfl (pda_cons (pd_var (pv 0)) (pda_cons (pd_var (pv 4)) (pda_cons (pd_var (pv 1)) pda_nil))) (fCons_len (fCons_len (fCons_len (fNil_len rfl))))))
  (PDB.sub (pdb_one (pds_asg (ow := []) (ow' := []) (ps_set (i := 3) sc.nd rfl (Or.inl rfl) (pd_op op_addD gd_add (pd_var (pv 3)) (pd_own C__law_orders tk hr (Nat.le_refl _) rfl (pda_cons (pd_var (pv 0)) (pda_cons (PDF.pd (pdf_lc (own := [("one", 5)]) rfl sc.nd (pdi_seq (pd_var (pv 1))) (blkOk_by (own := [("one", 5)]) (N := ["found", "left", "done", "rows", "index", "one"]) (sc := (defScope s__law_orders)) (by first | decide +kernel | rfl)) tg_name (fun _ _ _ _ _ => (pg_name (i := 5) sc.nd rfl (by first | exact Or.inl rfl | exact Or.inr rfl))) (fun _ _ _ _ _ => (pdts_one (pdt_cmp (op_neD hr.units) gd_ne (pd_var (pv 5)) (pd_var (pv 4)) (nomark _)))) (fun _ _ _ _ _ => (pd_var (pv 5))))) (pda_cons (pd_op op_addD gd_add (pd_var (pv 2)) (pd_tup (pda_cons (pd_var (pv 4)) pda_nil))) pda_nil))) (fCons_len (fCons_len (fCons_len (fNil_len rfl))))))))))
  (PDB.sub (pdb_nil (ow := []) (ow' := [])))))))
  (pdb_one (pds_ret (ow := []) (ow' := []) (pd_var (pv 3)))))))
abbrev s__law_strange : Stmt := top 12
theorem sc__law_strange : FnScope ["found", "count", "numbers", "items", "item", "row", "rows", "one"] ["found", "count", "numbers"] (defScope s__law_strange) := ⟨rfl, rfl, rfl, by decide +kernel, rfl, by decide +kernel, by decide +kernel⟩
theorem h__law_strange {P : Program} {w : World} {K : PySem.W.Frag} {mg : Str → Option Value} {base : Heap} (T : Txt mg)   {f : Addr} {fd : FuncData} (Fn : Fun K "_law_strange" "_law_strange" s__law_strange f fd) (m : mg "_law_strange" = some (.ref f)) (bd : L2.Binds K fd ["found", "count", "numbers"] []) : Has P w K mg base "_law_strange" 1 3 F__law_strange := by
  have sc := sc__law_strange
  refine ⟨f, fd, _, okD F__law_strange Fn sc (fun cdv Ar outer s H E hr => ⟨b__law_strange, ?_, (fun _ _ => .inr rfl)⟩), m, Fn.kp, bd⟩
  have tk := takesD (X := cxOf (L2.CX P w) P w K mg base ["found", "count", "numbers", "items", "item", "row", "rows", "one"] "_law_strange" (defScope s__law_strange) f cdv Ar outer s H E) rfl rfl rfl rfl
  exact (pdb_cons (pds_asg (ow := []) (ow' := []) (ps_set (i := 3) sc.nd rfl (Or.inl rfl) (pd_callB cd_sorted cr_sortedI (by rfl) T.sorted boot_sorted (pda_cons (PDF.pd (pdf_lk 0 (pdf_lc (own := [("item", 4)]) rfl sc.nd (pdi_keys (pd_var (pv 0))) (blkOk_by (own := [("item", 4)]) (N := ["found", "count", "numbers", "items", "item", "row", "rows", "one"]) (sc := (defScope s__law_strange)) (by first | decide +kernel | rfl)) tg_name (fun _ _ _ _ _ => (pg_name (i := 4) sc.nd rfl (by first | exact Or.inl rfl | exact Or.inr rfl))) (fun _ _ _ _ _ => pdts_nil) (fun _ _ _ _ _ => (pd_callTy cd_int call_intA (by rfl) T.int boot_int (pda_cons (pd_var (pv 4)) pda_nil)))))) pda_nil))))
  (pdb_cons (pds_asg (ow := []) (ow' := []) (ps_set (i := 4) sc.nd rfl (Or.inl rfl) (pd_ixO 3 (hu1 hr) (pv 3) (pd_op op_mod gd_mod (pd_ixO 2 (hu1 hr) (pv 2) pd_int (fun _ _ => rfl)) (pd_callB cd_len call_lenA (by rfl) T.len boot_len (pda_cons (pd_var (pv 3)) pda_nil))) (fun _ _ => rfl))))
  (pdb_cons (pds_asgF (ow := []) (ow' := [(5, 1)]) (ps_set (i := 5) sc.nd rfl (Or.inl rfl) (pdf_list (by rfl) T.list boot_list (pda_cons (pd_ixO 0 (hu1 hr) (pv 0) (pd_var (pv 4)) (fun _ _ => rfl)) pda_nil))))
  (pdb_cons (pds_put (ow := [(5, 1)]) (ow' := []) (ps_asg (pd_op op_addD gd_add (pd_var (pv 1)) (pd_op op_mod gd_mod (pd_ixO 2 (hu1 hr) (pv 2) pd_int (fun _ _ => rfl)) pd_int)) (pg_sub (pv 5) (pd_op op_mod gd_mod (pd_ixO 2 (hu1 hr) (pv 2) pd_int (fun _ _ => rfl)) (pd_scal (pd_callB cd_len call_lenA (by rfl) T.len boot_len (pda_cons (pd_var (pv 5)) pda_nil)))) (set_all (hu1 hr)))))
  (pdb_cons (pds_asgF (ow := []) (ow' := [(6, 1)]) (ps_set (i := 6) sc.nd rfl (Or.inl rfl) pdf_dk))
  (pdb_cons (pds_lk (ow0 := [(6, 1)]) (ow := [(6, 1)]) (ow' := [(6, 1)]) 0 (pds_for (ow := [(6, 1)]) (ow' := [(6, 1)]) (lo := [(6, 1)]) (passes_of rfl) rfl (pdi_keys (pd_var (pv 0))) (pg_name (i := 7) sc.nd rfl (Or.inl rfl)) tg_name
  (PDB.sub (pdb_one (pds_put (ow := [(6, 1)]) (ow' := [(6, 1)]) (ps_asg (pd_ixO 0 (hu1 hr) (pv 0) (pd_var (pv 7)) (fun _ _ => rfl)) (pg_sub (pv 6) (pd_var (pv 7)) (set_all (hu1 hr)))))))))
  (pdb_cons (pds_put (ow := [(6, 1)]) (ow' := []) (ps_asg (pd_callTy cd_tuple call_tuple_of (by rfl) T.tuple boot_tuple (pda_cons (pd_var (pv 5)) pda_nil)) (pg_sub (pv 6) (pd_var (pv 4)) (set_all (hu1 hr)))))
  (pdb_one (pds_ret (ow := []) (ow' := []) (pd_var (pv 6)))))))))))
abbrev s__law_cell : Stmt := top 5
theorem sc__law_cell : FnScope ["script", "k"] ["script", "k"] (defScope s__law_cell) := ⟨rfl, rfl, rfl, by decide +kernel, rfl, by decide +kernel, by decide +kernel⟩
theorem h__law_cell {P : Program} {w : World} {K : PySem.W.Frag} {mg : Str → Option Value} {base : Heap} (T : Txt mg)   {f : Addr} {fd : FuncData} (Fn : Fun K "_law_cell" "_law_cell" s__law_cell f fd) (m : mg "_law_cell" = some (.ref f)) (bd : L2.Binds K fd ["script", "k"] []) : Has P w K mg base "_law_cell" 1 2 F__law_cell := by
  have sc := sc__law_cell
  refine ⟨f, fd, _, okD F__law_cell Fn sc (fun cdv Ar outer s H E hr => ⟨b__law_cell, ?_, (fun _ _ => .inr rfl)⟩), m, Fn.kp, bd⟩
  have tk := takesD (X := cxOf (L2.CX P w) P w K mg base ["script", "k"] "_law_cell" (defScope s__law_cell) f cdv Ar outer s H E) rfl rfl rfl rfl
  exact (pdb_cons (pds_if (ow := []) (ow' := []) (pdt_cmp op_lt gd_cmpI (pd_var (pv 1)) (pd_callB cd_len call_lenA (by rfl) T.len boot_len (pda_cons (pd_var (pv 0)) pda_nil)) (nomark _))
  (PDB.sub (pdb_one (pds_ret (ow := []) (ow' := []) (pd_ixO 0 (hu1 hr) (pv 0) (pd_var (pv 1)) (fun _ _ => rfl)))))
  (PDB.sub (pdb_nil (ow := []) (ow' := []))))
  (pdb_one (pds_ret (ow := []) (ow' := []) pd_int)))
abbrev s__law_numbers : Stmt := top 6
theorem sc__law_numbers : FnScope ["cell", "many", "limit", "left", "mixed", "row", "k"] ["cell", "many", "limit"] (defScope s__law_numbers) := ⟨rfl, rfl, rfl, by decide +kernel, rfl, by decide +kernel, by decide +kernel⟩
theorem h__law_numbers {P : Program} {w : World} {K : PySem.W.Frag} {mg : Str → Option Value} {base : Heap} (T : Txt mg)   {f : Addr} {fd : FuncData} (Fn : Fun K "_law_numbers" "_law_numbers" s__law_numbers f fd) (m : mg "_law_numbers" = some (.ref f)) (bd : L2.Binds K fd ["cell", "many", "limit"] []) : Has P w K mg base "_law_numbers" 1 3 F__law_numbers := by
  have sc := sc__law_numbers
  refine ⟨f, fd, _, okD F__law_numbers Fn sc (fun cdv Ar outer s H E hr => ⟨b__law_numbers, ?_, (fun _ _ => .inr rfl)⟩), m, Fn.kp, bd⟩
  have tk := takesD (X := cxOf (L2.CX P w) P w K mg base ["cell", "many", "limit", "left", "mixed", "row", "k"] "_law_numbers" (defScope s__law_numbers) f cdv Ar outer s H E) rfl rfl rfl rfl
  exact (pdb_cons (pds_asg (ow := []) (ow' := []) (ps_set (i := 3) sc.nd rfl (Or.inl rfl) pd_int))
  (pdb_cons (pds_if (ow := []) (ow' := []) (pdt_cmp op_ge gd_cmpI (pd_var (pv 0)) (pd_op op_pow gd_pow pd_int pd_int) (nomark _))
  (PDB.sub (pdb_one (pds_asg (ow := []) (ow' := []) (ps_set (i := 3) sc.nd rfl (Or.inl rfl) (pd_op op_sub gd_sub (pd_var (pv 0)) (pd_op op_pow gd_pow pd_int pd_int))))))
  (PDB.sub (pdb_nil (ow := []) (ow' := []))))
  (pdb_cons (pds_asg (ow := []) (ow' := []) (ps_set (i := 4) sc.nd rfl (Or.inl rfl) (pd_op op_mod gd_mod (pd_callTy cd_int call_intA (by rfl) T.int boot_int (pda_cons (pd_var (pv 0)) pda_nil)) pd_int)))
  (pdb_cons (pds_asgF (ow := []) (ow' := [(5, 1)]) (ps_set (i := 5) sc.nd rfl (Or.inl rfl) (pdf_lst pda_nil)))
  (pdb_cons (pds_for (ow := [(5, 1)]) (ow' := []) (lo := [(5, 1)]) (passes_of rfl) rfl (pdi_range1 rfl T.range (pda_cons (pd_var (pv 1)) pda_nil) (fCons_len (fNil_len rfl))) (pg_name (i := 6) sc.nd rfl (Or.inl rfl)) tg_name
  (PDB.sub (pdb_cons (pds_asg (ow := [(5, 1)]) (ow' := [(5, 1)]) (ps_set (i := 4) sc.nd rfl (Or.inl rfl) (pd_op op_mod gd_mod (pd_callTy cd_int call_intA (by rfl) T.int boot_int (pda_cons (pd_op op_addD gd_add (pd_op op_addD gd_add (pd_op op_mulD gd_mul (pd_var (pv 4)) pd_int) (pd_op op_mulD gd_mul pd_int (pd_var (pv 6)))) pd_int) pda_nil)) pd_int)))
  (pdb_one (pds_if (ow := [(5, 1)]) (ow' := [(5, 1)]) (pdt_cmp op_gt gd_cmpI (pd_var (pv 3)) pd_int (nomark _))
  (PDB.sub (pdb_cons (pds_app (ow := [(5, 1)]) (ow' := [(5, 1)]) (ps_expr (pe_bm PySem.F.plainAttrs_list PySem.F.slot_list_append PySem.F.type_list_append mt_append (pv 5) (pa_cons (pd_op op_mod gd_mod (pd_callTy cd_int call_intA (by rfl) T.int boot_int (pda_cons (pd_var (pv 3)) pda_nil)) (pd_var (pv 2))) pa_nil))))
  (pdb_one (pds_asg (ow := [(5, 1)]) (ow' := [(5, 1)]) (ps_set (i := 3) sc.nd rfl (Or.inl rfl) (pd_op op_fdiv gd_div (pd_var (pv 3)) (pd_var (pv 2))))))))
  (PDB.sub (pdb_one (pds_app (ow := [(5, 1)]) (ow' := [(5, 1)]) (ps_expr (pe_bm PySem.F.plainAttrs_list PySem.F.slot_list_append PySem.F.type_list_append mt_append (pv 5) (pa_cons (pd_op op_mod gd_mod (pd_op op_fdiv gd_div (pd_var (pv 4)) pd_int) (pd_var (pv 2))) pa_nil)))))))))))
  (pdb_one (pds_ret (ow := []) (ow' := []) (pd_var (pv 5)))))))))
abbrev s__law_shuffled : Stmt := top 8
theorem sc__law_shuffled : FnScope ["row", "numbers", "left", "rows", "number"] ["row", "numbers"] (defScope s__law_shuffled) := ⟨rfl, rfl, rfl, by decide +kernel, rfl, by decide +kernel, by decide +kernel⟩
theorem h__law_shuffled {P : Program} {w : World} {K : PySem.W.Frag} {mg : Str → Option Value} {base : Heap} (T : Txt mg)   {f : Addr} {fd : FuncData} (Fn : Fun K "_law_shuffled" "_law_shuffled" s__law_shuffled f fd) (m : mg "_law_shuffled" = some (.ref f)) (bd : L2.Binds K fd ["row", "numbers"] []) : Has P w K mg base "_law_shuffled" 1 2 F__law_shuffled := by
  have sc := sc__law_shuffled
  refine ⟨f, fd, _, okD F__law_shuffled Fn sc (fun cdv Ar outer s H E hr => ⟨b__law_shuffled, ?_, (fun _ _ => .inr rfl)⟩), m, Fn.kp, bd⟩
  have tk := takesD (X := cxOf (L2.CX P w) P w K mg base ["row", "numbers", "left", "rows", "number"] "_law_shuffled" (defScope s__law_shuffled) f cdv Ar outer s H E) rfl rfl rfl rfl
  exact (pdb_cons (pds_asgF (ow := []) (ow' := [(2, 1)]) (ps_set (i := 2) sc.nd rfl (Or.inl rfl) (pdf_list (by rfl) T.list boot_list (pda_cons (pd_var (pv 0)) pda_nil))))
  (pdb_cons (pds_asgF (ow := [(2, 1)]) (ow' := [(2, 1), (3, 1)]) (ps_set (i := 3) sc.nd rfl (Or.inl rfl) (pdf_lst pda_nil)))
  (pdb_cons (pds_for (ow := [(2, 1), (3, 1)]) (ow' := []) (lo := [(2, 1), (3, 1)]) (passes_of rfl) rfl (pdi_seq (pd_var (pv 1))) (pg_name (i := 4) sc.nd rfl (Or.inl rfl)) tg_name
  (PDB.sub (pdb_one (pds_if (ow := [(2, 1), (3, 1)]) (ow' := [(2, 1), (3, 1)]) (pdt_cmp (op_neD hr.units) gd_ne (pd_var (pv 2)) (PDF.pd (pdf_lst pda_nil)) (nomark _))
  (PDB.sub (pdb_one (pds_appM (ow := [(2, 1), (3, 1)]) (ow' := [(2, 1), (3, 1)]) (ps_expr (pe_bm PySem.F.plainAttrs_list PySem.F.slot_list_append PySem.F.type_list_append mt_append (pv 3) (pa_cons (pdm_popAt 2 (pv 2) (pd_op op_mod gd_mod (pd_callTy cd_int call_intA (by rfl) T.int boot_int (pda_cons (pd_var (pv 4)) pda_nil)) (pd_scal (pd_callB cd_len call_lenA (by rfl) T.len boot_len (pda_cons (pd_var (pv 2)) pda_nil))))) pa_nil))))))
  (PDB.sub (pdb_nil (ow := [(2, 1), (3, 1)]) (ow' := [(2, 1), (3, 1)])))))))
  (pdb_one (pds_ret (ow := []) (ow' := []) (pd_op op_addD gd_add (pd_var (pv 3)) (pd_var (pv 2))))))))
abbrev s__law_drawn : Stmt := top 11
theorem sc__law_drawn : FnScope ["script", "count", "spot", "many", "whole", "found", "item", "numbers", "row", "gone", "index", "number"] ["script", "count", "spot", "many"] (defScope s__law_drawn) := ⟨rfl, rfl, rfl, by decide +kernel, rfl, by decide +kernel, by decide +kernel⟩
theorem h__law_drawn {P : Program} {w : World} {K : PySem.W.Frag} {mg : Str → Option Value} {base : Heap} (T : Txt mg) (C__law_cell : Has P w K mg base "_law_cell" 1 2 F__law_cell) (C__law_numbers : Has P w K mg base "_law_numbers" 1 3 F__law_numbers) (C__law_shuffled : Has P w K mg base "_law_shuffled" 1 2 F__law_shuffled)  {f : Addr} {fd : FuncData} (Fn : Fun K "_law_drawn" "_law_drawn" s__law_drawn f fd) (m : mg "_law_drawn" = some (.ref f)) (bd : L2.Binds K fd ["script", "count", "spot", "many"] []) : Has P w K mg base "_law_drawn" 2 4 F__law_drawn := by
  have sc := sc__law_drawn
  refine ⟨f, fd, _, okD F__law_drawn Fn sc (fun cdv Ar outer s H E hr => ⟨b__law_drawn, ?_, (fun _ _ => .inr rfl)⟩), m, Fn.kp, bd⟩
  have tk := takesD (X := cxOf (L2.CX P w) P w K mg base ["script", "count", "spot", "many", "whole", "found", "item", "numbers", "row", "gone", "index", "number"] "_law_drawn" (defScope s__law_drawn) f cdv Ar outer s H E) rfl rfl rfl rfl
  exact (pdb_cons (pds_asg (ow := []) (ow' := []) (ps_set (i := 4) sc.nd rfl (Or.inl rfl) (pd_own C__law_shuffled tk hr (show 1 ≤ 1 by decide) rfl (pda_cons (PDF.pd (pdf_listRg rfl rfl T.list rfl T.range (pd_var (pv 1)))) (pda_cons (pd_own C__law_numbers tk hr (show 1 ≤ 1 by decide) rfl (pda_cons (pd_own C__law_cell tk hr (show 1 ≤ 1 by decide) rfl (pda_cons (pd_var (pv 0)) (pda_cons pd_int pda_nil)) (fCons_len (fCons_len (fNil_len rfl)))) (pda_cons pd_int (pda_cons pd_int pda_nil))) (fCons_len (fCons_len (fCons_len (fNil_len rfl))))) pda_nil)) (fCons_len (fCons_len (fNil_len rfl))))))
  (pdb_cons (pds_asgF (ow := []) (ow' := [(5, 1)]) (ps_set (i := 5) sc.nd rfl (Or.inl rfl) pdf_dk))
  (pdb_cons (pds_for (ow := [(5, 1)]) (ow' := []) (lo := [(5, 1)]) (passes_of rfl) rfl (pdi_range1 rfl T.range (pda_cons pd_int pda_nil) (fCons_len (fNil_len rfl))) (pg_name (i := 6) sc.nd rfl (Or.inl rfl)) tg_name
  (PDB.sub (pdb_cons (pds_asg (ow := [(5, 1)]) (ow' := [(5, 1)]) (ps_set (i := 7) sc.nd rfl (Or.inr rfl) (pd_own C__law_numbers tk hr (show 1 ≤ 1 by decide) rfl (pda_cons (pd_own C__law_cell tk hr (show 1 ≤ 1 by decide) rfl (pda_cons (pd_var (pv 0)) (pda_cons (pd_op op_addD gd_add pd_int (pd_var (pv 6))) pda_nil)) (fCons_len (fCons_len (fNil_len rfl)))) (pda_cons pd_int (pda_cons pd_int pda_nil))) (fCons_len (fCons_len (fCons_len (fNil_len rfl)))))))
  (pdb_cons (pds_asgFS (ow := [(5, 1)]) (ow' := [(5, 1)]) (ps_setLcD (i := 8) (own := [("index", 10)]) rfl sc.nd rfl rfl (sw_true rfl rfl rfl (by decide +kernel)) (pdi_seq (pd_var (pv 4))) (blkOk_by (own := [("index", 10)]) (N := ["script", "count", "spot", "many", "whole", "found", "item", "numbers", "row", "gone", "index", "number"]) (sc := (defScope s__law_drawn)) (by first | decide +kernel | rfl)) tg_name (fun _ _ _ _ _ => (pg_name (i := 10) sc.nd rfl (by first | exact Or.inl rfl | exact Or.inr rfl))) (fun _ _ _ _ _ => (pdts_one (pdt_cmp op_lt gd_cmpI (pd_ixO 7 (hu1 hr) (pv 7) (pd_var (pv 10)) (fun _ _ => rfl)) pd_int (nomark _)))) (fun _ _ _ _ _ => (pd_var (pv 10)))))
  (pdb_cons (pds_if (ow := [(5, 1)]) (ow' := [(5, 1)]) (pdt_cmp op_lt gd_cmpI (pd_ixO 7 (hu1 hr) (pv 7) pd_int (fun _ _ => rfl)) pd_int (nomark _))
  (PDB.sub (pdb_one (pds_asg (ow := [(5, 1)]) (ow' := [(5, 1)]) (ps_set (i := 8) sc.nd rfl (Or.inl rfl) (pd_own C__law_shuffled tk hr (show 1 ≤ 1 by decide) rfl (pda_cons (pd_var (pv 8)) (pda_cons (pd_slO 7 (pv 7) (pdo_some pd_int) (pdo_some pd_int)) pda_nil)) (fCons_len (fCons_len (fNil_len rfl))))))))
  (PDB.sub (pdb_nil (ow := [(5, 1)]) (ow' := [(5, 1)]))))
  (pdb_cons (pds_if (ow := [(5, 1)]) (ow' := [(5, 1)]) (pdt_cmp (op_eqD hr.units) gd_eq (pd_var (pv 6)) (pd_var (pv 2)) (nomark _))
  (PDB.sub (pdb_cons (pds_asg (ow := [(5, 1)]) (ow' := [(5, 1)]) (ps_set (i := 9) sc.nd rfl (Or.inr rfl) (PDF.pd (pdf_lc (own := [("number", 11)]) rfl sc.nd (pdi_seq (pd_slO 7 (pv 7) (pdo_some pd_int) (pdo_some (pd_op op_addD gd_add pd_int (pd_var (pv 3)))))) (blkOk_by (own := [("number", 11)]) (N := ["script", "count", "spot", "many", "whole", "found", "item", "numbers", "row", "gone", "index", "number"]) (sc := (defScope s__law_drawn)) (by first | decide +kernel | rfl)) tg_name (fun _ _ _ _ _ => (pg_name (i := 11) sc.nd rfl (by first | exact Or.inl rfl | exact Or.inr rfl))) (fun _ _ _ _ _ => pdts_nil) (fun _ _ _ _ _ => (pd_op op_mod gd_mod (pd_var (pv 11)) pd_int))))))
  (pdb_one (pds_asgFS (ow := [(5, 1)]) (ow' := [(5, 1)]) (ps_setLcD (i := 8) (own := [("index", 10)]) rfl sc.nd rfl rfl (sw_true rfl rfl rfl (by decide +kernel)) (pdi_seq (pd_var (pv 4))) (blkOk_by (own := [("index", 10)]) (N := ["script", "count", "spot", "many", "whole", "found", "item", "numbers", "row", "gone", "index", "number"]) (sc := (defScope s__law_drawn)) (by first | decide +kernel | rfl)) tg_name (fun _ _ _ _ _ => (pg_name (i := 10) sc.nd rfl (by first | exact Or.inl rfl | exact Or.inr rfl))) (fun _ _ _ _ _ => (pdts_one (pdt_cmp (op_nin5 (hu65 hr)) gd_in5 (pd_var (pv 10)) (pd_var (pv 9)) (by rfl)))) (fun _ _ _ _ _ => (pd_var (pv 10))))))))
  (PDB.sub (pdb_nil (ow := [(5, 1)]) (ow' := [(5, 1)]))))
  (pdb_one (pds_if (ow := [(5, 1)]) (ow' := [(5, 1)]) (pdt_w (pdw_and (pdt_cmp (op_neD hr.units) gd_ne (pd_var (pv 8)) (PDF.pd (pdf_lst pda_nil)) (nomark _)) (pdw_and1 (pdt_w (pdw_or (pdt_cmp (op_eqD hr.units) gd_eq (pd_var (pv 6)) (pd_var (pv 2)) (nomark _)) (pdw_or1 (pdt_cmp op_lt gd_cmpI (pd_ixO 7 (hu1 hr) (pv 7) pd_int (fun _ _ => rfl)) pd_int (nomark _))))))))
  (PDB.sub (pdb_one (pds_put (ow := [(5, 1)]) (ow' := [(5, 1)]) (ps_asg (pd_callTy cd_tuple call_tuple_of (by rfl) T.tuple boot_tuple (pda_cons (pd_var (pv 8)) pda_nil)) (pg_sub (pv 5) (pd_var (pv 6)) (set_all (hu1 hr)))))))
  (PDB.sub (pdb_nil (ow := [(5, 1)]) (ow' := [(5, 1)])))))))))))
  (pdb_one (pds_ret (ow := []) (ow' := []) (pd_var (pv 5)))))))
abbrev s_law : Stmt := top 13
theorem sc_law : FnScope ["script", "plan", "count", "found", "strange", "given", "item", "due"] ["script"] (defScope s_law) := ⟨rfl, rfl, rfl, by decide +kernel, rfl, by decide +kernel, by decide +kernel⟩
theorem h_law {P : Program} {w : World} {K : PySem.W.Frag} {mg : Str → Option Value} {base : Heap} (T : Txt mg) (C_serial_orders : HasLG P w K mg base "serial_orders" 36 2 F_serial_orders) (C__law_same : Has P w K mg base "_law_same" 4 2 (F__law_same 4)) (C__law_orders : Has P w K mg base "_law_orders" 11 3 (F__law_orders 10)) (C__law_strange : Has P w K mg base "_law_strange" 1 3 F__law_strange) (C__law_drawn : Has P w K mg base "_law_drawn" 2 4 F__law_drawn) (C__law_cell : Has P w K mg base "_law_cell" 1 2 F__law_cell) (C__law_numbers : Has P w K mg base "_law_numbers" 1 3 F__law_numbers)  {f : Addr} {fd : FuncData} (Fn : Fun K "law" "law" s_law f fd) : GX.FnL P w K mg base (L2.CX P w) 40 f fd ["script"] (spD K 1 F_law) := by
  have sc := sc_law
  refine okLD F_law Fn sc (fun cdv Ar outer s H E hr => ⟨b_law, ?_, (fun _ _ => .inr rfl)⟩)
  have tk := takesD (X := cxOf (L2.CX P w) P w K mg base ["script", "plan", "count", "found", "strange", "given", "item", "due"] "law" (defScope s_law) f cdv Ar outer s H E) rfl rfl rfl rfl
  exact (lbl_cons (lst_of (pds_asg (ow := []) (ow' := []) (ps_set (i := 1) sc.nd rfl (Or.inl rfl) (pd_own C__law_numbers tk hr (show 1 ≤ 39 by decide) rfl (pda_cons (pd_own C__law_cell tk hr (show 1 ≤ 39 by decide) rfl (pda_cons (pd_var (pv 0)) (pda_cons pd_int pda_nil)) (fCons_len (fCons_len (fNil_len rfl)))) (pda_cons pd_int (pda_cons pd_int pda_nil))) (fCons_len (fCons_len (fCons_len (fNil_len rfl))))))))
  (lbl_cons (lst_of (pds_asg (ow := []) (ow' := []) (ps_set (i := 2) sc.nd rfl (Or.inl rfl) (pd_ix (hu1 hr) (PDF.pd (pdf_lst (pda_cons pd_int (pda_cons pd_int (pda_cons pd_int (pda_cons pd_int (pda_cons pd_int (pda_cons pd_int (pda_cons pd_int (pda_cons pd_int (pda_cons pd_int (pda_cons pd_int (pda_cons pd_int (pda_cons pd_int pda_nil)))))))))))))) (pd_ixO 1 (hu1 hr) (pv 1) pd_int (fun _ _ => rfl)) (fun _ _ => rfl)))))
  (lbl_cons (lst_of (pds_asg (ow := []) (ow' := []) (ps_set (i := 3) sc.nd rfl (Or.inl rfl) (pd_own C__law_drawn tk hr (show 2 ≤ 39 by decide) rfl (pda_cons (pd_var (pv 0)) (pda_cons (pd_var (pv 2)) (pda_cons (pd_op op_mod gd_mod (pd_ixO 1 (hu1 hr) (pv 1) pd_int (fun _ _ => rfl)) pd_int) (pda_cons (pd_op op_mod gd_mod (pd_ixO 1 (hu1 hr) (pv 1) pd_int (fun _ _ => rfl)) pd_int) pda_nil)))) (fCons_len (fCons_len (fCons_len (fCons_len (fNil_len rfl)))))))))
  (lbl_cons (lst_of (pds_asg (ow := []) (ow' := []) (ps_set (i := 4) sc.nd rfl (Or.inl rfl) (pd_and (pd_cmp op_lt gd_cmpI (pd_ixO 1 (hu1 hr) (pv 1) pd_int (fun _ _ => rfl)) pd_int (nomark _)) (pd_one (pd_cmp (op_neK hr.units) gd_neK (pd_var (pv 3)) (PDF.pd pdf_dk) (nomark _)))))))
  (lbl_cons (lst_of (pds_if (ow := []) (ow' := []) (pdt_truth (pd_var (pv 4)) (by intro _; rfl))
  (PDB.sub (pdb_one (pds_asg (ow := []) (ow' := []) (ps_set (i := 3) sc.nd rfl (Or.inl rfl) (pd_own C__law_strange tk hr (show 1 ≤ 39 by decide) rfl (pda_cons (pd_var (pv 3)) (pda_cons (pd_var (pv 2)) (pda_cons (pd_slO 1 (pv 1) (pdo_some pd_int) pdo_none) pda_nil))) (fCons_len (fCons_len (fCons_len (fNil_len rfl)))))))))
  (PDB.sub (pdb_nil (ow := []) (ow' := [])))))
  (lbl_cons (lst_of (pds_asgF (ow := []) (ow' := [(5, 1)]) (ps_set (i := 5) sc.nd rfl (Or.inl rfl) pdf_dk)))
  (lbl_cons (lst_of (pds_lk (ow0 := [(5, 1)]) (ow := [(5, 1)]) (ow' := []) 3 (pds_for (ow := [(5, 1)]) (ow' := []) (lo := [(5, 1)]) (passes_of rfl) rfl (pdi_keys (pd_var (pv 3))) (pg_name (i := 6) sc.nd rfl (Or.inl rfl)) tg_name
  (PDB.sub (pdb_one (pds_put (ow := [(5, 1)]) (ow' := [(5, 1)]) (ps_asg (pd_ixO 3 (hu1 hr) (pv 3) (pd_var (pv 6)) (fun _ _ => rfl)) (pg_sub (pv 5) (pd_var (pv 6)) (set_all (hu1 hr))))))))))
  (lbl_cons (lst_of (pds_asg (ow := []) (ow' := []) (ps_set (i := 7) sc.nd rfl (Or.inl rfl) (PDF.pd (pdf_lst pda_nil)))))
  (lbl_cons (lst_of (pds_if (ow := []) (ow' := []) (pdt_not (pdt_truth (pd_var (pv 4)) (by intro _; rfl)))
  (PDB.sub (pdb_one (pds_asg (ow := []) (ow' := []) (ps_set (i := 7) sc.nd rfl (Or.inl rfl) (pd_own C__law_orders tk hr (show 11 ≤ 39 by decide) rfl (pda_cons (pd_var (pv 3)) (pda_cons (PDF.pd (pdf_listRg rfl rfl T.list rfl T.range (pd_var (pv 2)))) (pda_cons (pd_tup pda_nil) pda_nil))) (fCons_len (fCons_len (fCons_len (fNil_len rfl)))))))))
  (PDB.sub (pdb_nil (ow := []) (ow' := [])))))
  (lbl_cons (lst_ret (ow := []) (ow' := []) (lde_and (lde_own C__law_same tk hr (show 4 ≤ 39 by decide) rfl (lda_cons (LDF.val (ldf_list C_serial_orders hr (show 36 + 3 ≤ 39 by decide) rfl (pda_cons (pd_var (pv 5)) (pda_cons (pd_var (pv 2)) pda_nil)) (fCons_len (fCons_len (fNil_len rfl))) rfl T.list boot_list)) (lda_cons (lde_of (pd_var (pv 7))) (lda_of pda_nil))) (fCons_len (fCons_len (fNil_len rfl)))) (lde_of (pd_one (pd_cmp (op_eqK hr.units) gd_eqK (pd_var (pv 5)) (pd_var (pv 3)) (nomark _))))))
  (lbl_of (pdb_nil (ow := []) (ow' := [])))))))))))))
end DL
set_option Elab.async false
set_option linter.all false
set_option maxRecDepth 100000
namespace DL
open PySem L2
/-! ### loops and comprehensions, by what they keep -/
theorem forL_pre {α : Type} {ft : D → Env → Option Env} {fb : Env → Out} (enc : α → D) (I : List α → Env → Prop) (xs : List α) (rest : List D)
    (h : ∀ pre x post ρ, xs = pre ++ x :: post → I pre ρ → ∃ ρ1, ft (enc x) ρ = some ρ1 ∧ ∃ ρ2, (fb ρ1 = .nx ρ2 ∨ fb ρ1 = .ct ρ2) ∧ I (pre ++ [x]) ρ2) :
    ∀ ρ, I [] ρ → ∃ ρ', I xs ρ' ∧ forL ft fb (xs.map enc ++ rest) ρ = forL ft fb rest ρ' := by
  have key : ∀ (post pre : List α), xs = pre ++ post → ∀ ρ, I pre ρ → ∃ ρ', I xs ρ' ∧ forL ft fb (post.map enc ++ rest) ρ = forL ft fb rest ρ' := by
    intro post
    induction post with
    | nil =>
      intro pre e ρ i
      rw [List.append_nil] at e
      exact ⟨ρ, by rw [e]; exact i, rfl⟩
    | cons x post ih =>
      intro pre e ρ i
      obtain ⟨ρ1, h1, ρ2, h2, i2⟩ := h pre x post ρ e i
      obtain ⟨ρ', i', q⟩ := ih (pre ++ [x]) (by rw [e, List.append_assoc]; rfl) ρ2 i2
      refine ⟨ρ', i', ?_⟩
      rw [List.map_cons, List.cons_append, forL_cons, h1]
      rcases h2 with h2 | h2
      · show (match fb ρ1 with | .nx ρ2 => _ | .ct ρ2 => _ | .bk ρ2 => _ | o => o) = _
        rw [h2]
        exact q
      · show (match fb ρ1 with | .nx ρ2 => _ | .ct ρ2 => _ | .bk ρ2 => _ | o => o) = _
        rw [h2]
        exact q
  exact fun ρ i => key xs [] rfl ρ i
theorem forL_all {α : Type} {ft : D → Env → Option Env} {fb : Env → Out} (enc : α → D) (I : List α → Env → Prop) (xs : List α)
    (h : ∀ pre x post ρ, xs = pre ++ x :: post → I pre ρ → ∃ ρ1, ft (enc x) ρ = some ρ1 ∧ ∃ ρ2, (fb ρ1 = .nx ρ2 ∨ fb ρ1 = .ct ρ2) ∧ I (pre ++ [x]) ρ2) (ρ : Env) (i : I [] ρ) : ∃ ρ', I xs ρ' ∧ forL ft fb (xs.map enc) ρ = .nx ρ' := by
  obtain ⟨ρ', i', e⟩ := forL_pre enc I xs [] h ρ i
  rw [List.append_nil] at e
  exact ⟨ρ', i', e⟩
theorem compL_map {α : Type} {ft : D → Env → Option Env} {tt : Env → R Bool} {fe : Env → R D} {ρ : Env} (enc : α → D) (p : α → Bool) (f : α → D) : ∀ (xs : List α), (∀ x ∈ xs, ∃ ρ1, ft (enc x) ρ = some ρ1 ∧ tt ρ1 = .ok (p x) ∧ (p x = true → fe ρ1 = .ok (f x))) →
    compL ft tt fe ρ (xs.map enc) = some ((xs.filter p).map f)
  | [], _ => rfl
  | x :: xs, h => by
    obtain ⟨ρ1, h1, h2, h3⟩ := h x List.mem_cons_self
    have ih := compL_map enc p f xs fun y hy => h y (List.mem_cons_of_mem _ hy)
    rw [List.map_cons]
    unfold compL
    rw [h1, Option.bind_some, h2]
    cases q : p x with
    | true =>
      rw [List.filter_cons_of_pos q, s_toO_ok, Option.bind_some, if_pos rfl, h3 q, s_toO_ok, Option.bind_some, ih]
      rfl
    | false =>
      rw [List.filter_cons_of_neg (by rw [q]; exact Bool.false_ne_true), s_toO_ok, Option.bind_some, if_neg Bool.false_ne_true, ih]
def natD (n : Nat) : D := .int n
theorem dig {n : Nat} (h : n < 10) : gInt [.str [48 + n]] = some (.int n) := by
  rw [int_dig ⟨by omega, by omega⟩]
  congr 2
  omega
theorem sdig {n : Nat} (h : n < 10) : gStr [.int n] = some (.str [48 + n]) := by
  rw [str_dig ⟨by omega, by omega⟩]
  congr 3
  omega
theorem ixS {x : List Nat} {n c : Nat} (h : x.length ≤ 1000) (e : x[n]? = some c) : gIx (.str x) (.int n) = some (.str [c]) := by
  rw [ix_str (by rw [size_eq]; omega), atI_get? (by omega)]
  simp [e]
theorem ixL {x : List D} {n : Nat} : gIx (.lst x) (.int n) = x[n]? := by
  show atI x n = _
  rw [atI_get? (by omega)]
  simp
theorem addS {a b : List Nat} (h : a.length + b.length ≤ 1000) : gAdd (.str a) (.str b) = some (.str (a ++ b)) := add_str (by rw [size_eq]; omega)
theorem mkS_inj2 {a b : List Nat} (h : mkS a = mkS b) : a = b := mkS_inj h
theorem deq_str {a b : List Nat} : deq (.str a) (.str b) = decide (a = b) := by
  show (mkS a == mkS b) = _
  by_cases h : a = b
  · subst h
    simp
  · rw [decide_eq_false h]
    have : mkS a ≠ mkS b := fun z => h (mkS_inj2 z)
    simpa using this
theorem deq_int {a b : Int} : deq (.int a) (.int b) = decide (a = b) := by
  show (a == b) = _
  by_cases h : a = b
  · subst h; simp
  · rw [decide_eq_false h]; simpa using h
@[simp] theorem eqS {a b : List Nat} : gEq (.str a) (.str b) = some (.bl (decide (a = b))) := by
  unfold gEq
  rw [if_pos ⟨rfl, rfl⟩, deq_str]
@[simp] theorem neS {a b : List Nat} : gNe (.str a) (.str b) = some (.bl (!decide (a = b))) := by
  unfold gNe
  rw [if_pos ⟨rfl, rfl⟩, deq_str]
@[simp] theorem eqI {a b : Int} : gEq (.int a) (.int b) = some (.bl (decide (a = b))) := by
  unfold gEq
  rw [if_pos ⟨rfl, rfl⟩, deq_int]
@[simp] theorem neI {a b : Int} : gNe (.int a) (.int b) = some (.bl (!decide (a = b))) := by
  unfold gNe
  rw [if_pos ⟨rfl, rfl⟩, deq_int]
theorem cut_take {α : Type} {xs : List α} {n : Nat} (h : n ≤ xs.length) : cutG xs none (some (n : Int)) = xs.take n := by
  unfold cutG
  rw [HT.sIx_nat, HT.sIx_none, Nat.min_eq_left h]
  rfl
theorem cut_drop {α : Type} {xs : List α} {n : Nat} (h : n ≤ xs.length) : cutG xs (some (n : Int)) none = xs.drop n := by
  unfold cutG
  rw [HT.sIx_nat, HT.sIx_none, Nat.min_eq_left h]
  exact List.take_of_length_le (by rw [List.length_drop]; omega)
/-! ### how a body runs -/
def wpX (N : Env → Prop) (T : Out → Prop) : Out → Prop
  | .nx ρ => N ρ
  | o => T o
structure wpO (N : Env → Prop) (T : Out → Prop) (o : Out) : Prop where
  go : wpX N T o
section
variable {N : Env → Prop} {T : Out → Prop} {ρ : Env} {f g : Env → Out} {fe : Env → R D} {d : D} {i : Nat} {c : Env → R Bool}
theorem wp_seq (h : wpO (fun ρ' => wpO N T (g ρ')) T (f ρ)) : wpO N T (fSeq f g ρ) := by
  obtain ⟨h⟩ := h
  rw [s_fSeq]
  cases q : f ρ <;> rw [q] at h <;> first | exact h | exact ⟨h⟩
theorem wp_asg (e : fe ρ = .ok d) (h : N (ρ.set i (some d))) : wpO N T (fAsg i fe ρ) := by
  rw [s_fAsg, e]
  exact ⟨h⟩
theorem wp_asgF (e : fe ρ = .ok d) (hi : i < ρ.length) (h : N (ρ.set i (some d))) : wpO N T (fAsgF i fe ρ) := by
  rw [s_fAsgF, e, if_pos hi]
  exact ⟨h⟩
theorem wp_ret (e : fe ρ = .ok d) (h : T (.rt d ρ)) : wpO N T (fRet fe ρ) := by
  rw [s_fRet, e]
  exact ⟨h⟩
theorem wp_next (h : N ρ) : wpO N T (fNext ρ) := ⟨h⟩
theorem wp_if {b : Bool} (e : c ρ = .ok b) (h1 : b = true → wpO N T (f ρ)) (h2 : b = false → wpO N T (g ρ)) : wpO N T (fIf c f g ρ) := by
  rw [s_fIf, e, s_stE_ok]
  cases b with
  | true => rw [if_pos rfl]; exact h1 rfl
  | false => rw [if_neg Bool.false_ne_true]; exact h2 rfl
theorem wp_drop (e : fe ρ = .ok d) (h : N ρ) : wpO N T (fDrop fe ρ) := by
  rw [s_fDrop, e]
  exact ⟨h⟩
theorem wp_app {ds : List D} (hi : ρ[i]? = some (some (.lst ds))) (e : fe ρ = .ok d) (hz : ds.length < 1000000) (h : N (ρ.set i (some (.lst (ds ++ [d]))))) : wpO N T (fApp i fe ρ) := by
  unfold fApp
  rw [hi]
  show wpO N T (stE (fe ρ) ρ fun d => if ds.length < sizeLine then .nx (ρ.set i (some (.lst (ds ++ [d])))) else .stuck)
  rw [e, s_stE_ok, if_pos (by rw [size_eq]; omega)]
  exact ⟨h⟩
theorem wp_for {α : Type} (enc : α → D) (I : List α → Env → Prop) {xs : List α} {fi : Env → R (List D)} {ft : D → Env → Option Env} {fb : Env → Out} (e : fi ρ = .ok (xs.map enc)) (h0 : I [] ρ)
    (h : ∀ pre x post ρ1, xs = pre ++ x :: post → I pre ρ1 → ∃ ρ2, ft (enc x) ρ1 = some ρ2 ∧ wpO (I (pre ++ [x])) (fun o => match o with | .ct ρ3 => I (pre ++ [x]) ρ3 | .bk ρ3 => N ρ3 | o => T o) (fb ρ2))
    (hN : ∀ ρ', I xs ρ' → N ρ') : wpO N T (fFor fi ft fb ρ) := by
  rw [s_fFor, e, s_stE_ok]
  have key : ∀ (post pre : List α), xs = pre ++ post → ∀ ρ, I pre ρ → wpO N T (forL ft fb (post.map enc) ρ) := by
    intro post
    induction post with
    | nil =>
      intro pre q ρ i
      rw [List.append_nil] at q
      exact ⟨hN ρ (by rw [q]; exact i)⟩
    | cons x post ih =>
      intro pre q ρ i
      obtain ⟨ρ2, h1, h2⟩ := h pre x post ρ q i
      obtain ⟨h2⟩ := h2
      rw [List.map_cons, forL_cons, h1]
      show wpO N T (match fb ρ2 with | .nx ρ2 => _ | .ct ρ2 => _ | .bk ρ2 => _ | o => o)
      have ih' := ih (pre ++ [x]) (by rw [q, List.append_assoc]; rfl)
      cases z : fb ρ2 <;> rw [z] at h2
      · exact ih' _ h2
      · exact ⟨h2⟩
      · exact ⟨h2⟩
      · exact ih' _ h2
      · exact ⟨h2⟩
      · exact ⟨h2⟩
  exact key xs [] rfl ρ h0
theorem run_wp {P : R D → Prop} {N n : Nat} {b : Env → Out} {ds : List D} (h : wpO (fun _ => P (.ok .non)) (fun o => match o with | .rt d _ => P (.ok d) | .exc x _ => P (.exc x) | _ => False) (b (ds.map some ++ List.replicate (N - n) none))) : P (runF N n b ds) := by
  obtain ⟨h⟩ := h
  unfold runF
  cases z : b (ds.map some ++ List.replicate (N - n) none) <;> rw [z] at h <;> first | exact h | exact h.elim
end

theorem rngN {n : Nat} (h : n < 1000000) : gRng [.int (n : Int)] = some ((List.range n).map natD) := by
  rw [rng1 (by omega)]
  simp [natD]
theorem lenS {x : List Nat} (h : x.length ≤ 1000) : gLen [.str x] = some (.int x.length) := len_str (by rw [size_eq]; omega)
theorem addL {a b : List D} (h : a.length + b.length ≤ 1000000) : gAdd (.lst a) (.lst b) = some (.lst (a ++ b)) := add_lst (by rw [size_eq]; omega)
theorem lenOkM {α : Type} {l : List α} {r : R D} (h : l.length ≤ 1000000) : lenOk l r = r := lenOk_le (by rw [size_eq]; omega)
theorem lc_fin {ys : List D} (h : ys.length ≤ 1000000) : ((R.ofO (some ys)).bind fun ys => lenOk ys (.ok (.lst ys))) = .ok (.lst ys) := by
  rw [s_ofO_some, s_bind_ok, lenOkM h]
theorem ixMod {xs : List D} {m : Int} (h : xs ≠ []) : ∃ k : Nat, k < xs.length ∧ gMod (.int m) (.int xs.length) = some (.int (k : Int)) := by
  have hp : (0 : Int) < xs.length := by
    have := List.length_pos_iff.mpr h
    omega
  have h1 := Int.emod_nonneg m (show (xs.length : Int) ≠ 0 by omega)
  have h2 := Int.emod_lt_of_pos m hp
  refine ⟨(m % xs.length).toNat, by omega, ?_⟩
  rw [mod_int hp]
  congr 2
  omega
theorem atLast {xs : List D} {d : D} : atI (xs ++ [d]) (-1) = some d := by
  unfold atI ixN
  rw [if_neg (by decide), List.length_append, List.length_singleton, if_pos (by omega)]
  show (xs ++ [d])[((-1 : Int) + ((xs.length + 1 : Nat) : Int)).toNat]? = _
  rw [show ((-1 : Int) + ((xs.length + 1 : Nat) : Int)).toNat = xs.length by omega]
  simp
theorem ixLast {xs : List D} {d : D} : gIx (.lst (xs ++ [d])) (.int (-1)) = some d := by
  show atI (xs ++ [d]) (-1) = _
  unfold atI ixN
  rw [if_neg (by decide), List.length_append, List.length_singleton, if_pos (by omega)]
  show (xs ++ [d])[((-1 : Int) + ((xs.length + 1 : Nat) : Int)).toNat]? = _
  rw [show ((-1 : Int) + ((xs.length + 1 : Nat) : Int)).toNat = xs.length by omega]
  simp
theorem wp_mono {N N' : Env → Prop} {T : Out → Prop} {o : Out} (h : wpO N' T o) (k : ∀ ρ, N' ρ → N ρ) : wpO N T o := by
  obtain ⟨h⟩ := h
  cases o <;> first | exact ⟨k _ h⟩ | exact ⟨h⟩
end DL
set_option Elab.async false
set_option linter.all false
set_option maxRecDepth 100000
namespace DL
open PySem L2
@[simp] theorem s_fldX_cons {f g : Str} {gs : List Str} {d : D} {ds : List D} : fldX.look f (g :: gs) (d :: ds) = if g = f then some d else fldX.look f gs ds := Eq.trans rfl rfl
@[simp] theorem s_gFld {C C' : Addr} {f : Str} {fs : List Str} {vs : List D} : gFld C f (.ins C' fs vs) = if C' = C then fldX.look f fs vs else none := Eq.trans rfl rfl
@[simp] theorem s_fProp {C : Addr} {F : List D → R D} {fe : Env → R D} {ρ : Env} : fProp C F fe ρ = (fe ρ).bind fun o => match o with
  | .ins C' fs vs => if C' = C then (match F [o] with | .ok d => .ok d | _ => .stuck) else .stuck
  | _ => .stuck := Eq.trans rfl rfl
@[simp] theorem s_fGetC {C : Addr} {F : List D → R D} {fa fb : Env → R D} {ρ : Env} : fGetC C F fa fb ρ = (fa ρ).bind fun o => (fb ρ).bind fun i => match o with
  | .ins C' fs vs => if C' = C then F [o, i] else .stuck
  | _ => .stuck := Eq.trans rfl rfl
@[simp] theorem s_fCM {C : Addr} {F : List D → R D} {fe : Env → R D} {fl : Env → R (List D)} {ρ : Env} : fCM C F fe fl ρ = (fe ρ).bind fun o => match o with
  | .cl C' => if C' = C then (fl ρ).bind fun l => F (.cl C :: l) else .stuck
  | _ => .stuck := Eq.trans rfl rfl
@[simp] theorem s_fMake {C : Addr} {F : List D → RM} {dds : List D} {fl : Env → R (List D)} {ρ : Env} : fMake C F dds fl ρ = (fl ρ).bind fun l => match F (.ins C [] [] :: (l ++ dds)) with
  | .ok .non s => .ok s
  | .exc x _ => .exc x
  | _ => .stuck := Eq.trans rfl rfl
theorem s_fMakeL {i : Nat} {C : Addr} {F : List D → RM} {dds : List D} {fl : Env → R (List D)} {ρ : Env} (h : ρ[i]? = some (some (.cl C))) : fMakeL i C F dds fl ρ = fMake C F dds fl ρ := by
  unfold fMakeL
  rw [h]
  exact if_pos rfl
@[simp] theorem s_fCount {fa fb : Env → R D} {ρ : Env} : fCount fa fb ρ = (fa ρ).bind fun a => match a with
  | .lst ds => (fb ρ).bind fun b => R.ofO (gCount (.lst ds) b)
  | _ => .stuck := Eq.trans rfl rfl
theorem numsOf_int : ∀ ns : List Int, numsOf (ns.map D.int) = some ns
  | [] => rfl
  | n :: ns => by
    show (numsOf (ns.map D.int)).map (fun l => n :: l) = _
    rw [numsOf_int ns]
    rfl
theorem count_int {ns : List Int} {k : Int} : gCount (.lst (ns.map D.int)) (.int k) = some (.int (ns.count k : Nat)) := by
  show (numsOf (ns.map D.int)).map _ = _
  rw [numsOf_int]
  rfl
section
variable {N : Env → Prop} {T : Out → Prop} {ρ : Env} {f g : Env → Out} {fe fi : Env → R D} {d a : D} {i : Nat} {x : XN} {C : Addr} {fs : List Str} {l : List D} {nm : Str} {vs : List D}
theorem wp_raise {fa : Env → R (List D)} (e : fa ρ = .ok l) (h : T (.exc ⟨C, fs.reverse, l.reverse⟩ ρ)) : wpO N T (fRaise C fs fa ρ) := by
  unfold fRaise
  rw [e]
  exact ⟨h⟩
theorem wp_asgX (e : fe ρ = .exc x) (h : T (.exc x ρ)) : wpO N T (fAsg i fe ρ) := by
  rw [s_fAsg, e]
  exact ⟨h⟩
theorem wp_asgFX (e : fe ρ = .exc x) (hi : i < ρ.length) (h : T (.exc x ρ)) : wpO N T (fAsgF i fe ρ) := by
  rw [s_fAsgF, e, if_pos hi]
  exact ⟨h⟩
theorem wp_retX (e : fe ρ = .exc x) (h : T (.exc x ρ)) : wpO N T (fRet fe ρ) := by
  rw [s_fRet, e]
  exact ⟨h⟩
theorem wp_fldF (e : fe ρ = .ok d) (hi : ρ[i]? = some (some (.ins C fs vs))) (hz : fs.length < 1000) (h : N (ρ.set i (some (.ins C (putK nm fs) (putV nm fs vs d))))) : wpO N T (fFldF i C nm fe ρ) := by
  unfold fFldF
  rw [e, s_stE_ok, hi]
  show wpO N T (insOf C (.ins C fs vs) _)
  unfold insOf
  dsimp only
  rw [if_pos rfl, if_pos hz]
  exact ⟨h⟩
theorem wp_fput {c c' : D} (e : fe ρ = .ok d) (hi : ρ[i]? = some (some (.ins C fs vs))) (hl : fldX.look nm fs vs = some c) (ht : isTop c = true) (ei : fi ρ = .ok a) (hp : putD c a d = some c') (h : N (ρ.set i (some (.ins C fs (putV nm fs vs c'))))) : wpO N T (fFput i C nm fe fi ρ) := by
  unfold fFput
  rw [e, s_stE_ok, hi]
  show wpO N T (insOf C (.ins C fs vs) _)
  unfold insOf
  dsimp only
  rw [if_pos rfl, hl]
  dsimp only
  rw [if_pos ht, ei, s_stE_ok, hp]
  exact ⟨h⟩
theorem wp_setO {F : List D → RM} {r s : D} (e : fe ρ = .ok d) (hi : ρ[i]? = some (some (.ins C fs vs))) (ei : fi ρ = .ok a) (hF : F [.ins C fs vs, a, d] = .ok r s) (h : N (ρ.set i (some s))) : wpO N T (fSetO i C F fe fi ρ) := by
  unfold fSetO
  rw [e, s_stE_ok, hi]
  show wpO N T (insOf C (.ins C fs vs) _)
  unfold insOf
  dsimp only
  rw [if_pos rfl, ei, s_stE_ok, hF]
  exact ⟨h⟩
theorem wp_tryC {cl : List Cl} (h : wpO N (fun o => match o with | .exc x ρ' => wpX N T (clauses cl x ρ') | o => T o) (f ρ)) : wpO N T (fTryC cl f ρ) := by
  obtain ⟨h⟩ := h
  unfold fTryC
  cases q : f ρ with
  | exc x ρ' => rw [q] at h; exact ⟨h⟩
  | nx ρ' => rw [q] at h; exact ⟨h⟩
  | rt d ρ' => rw [q] at h; exact ⟨h⟩
  | bk ρ' => rw [q] at h; exact ⟨h⟩
  | ct ρ' => rw [q] at h; exact ⟨h⟩
  | stuck => rw [q] at h; exact ⟨h⟩
theorem run_wpM {P : RM → Prop} {N n : Nat} {b : Env → Out} {ds : List D} (h : wpO (fun ρ => P (selfOf ρ (.ok .non))) (fun o => match o with | .rt d ρ => P (selfOf ρ (.ok d)) | .exc x ρ => P (if x.vs.all isS = true then selfOf ρ (.exc x) else .stuck) | _ => False) (b (ds.map some ++ List.replicate (N - n) none))) : P (runM N n b ds) := by
  obtain ⟨h⟩ := h
  unfold runM
  cases z : b (ds.map some ++ List.replicate (N - n) none) <;> rw [z] at h <;> first | exact h | exact h.elim
end
theorem compL2_map {α β : Type} {ft ft2 : D → Env → Option Env} {tt tt2 : Env → R Bool} {fi2 : Env → R (List D)} {vs2 : List Nat} {fe : Env → R D} {ρ : Env} (enc : α → D) (enc2 : β → D) (g : α → List β) (f : α → β → D) : ∀ (xs : List α),
    (∀ x ∈ xs, ∃ ρ1, ft (enc x) ρ = some ρ1 ∧ tt ρ1 = .ok true ∧ fi2 ρ1 = .ok ((g x).map enc2) ∧ ∀ y ∈ g x, ∃ ρ2, ft2 (enc2 y) (wipeE ρ1 vs2) = some ρ2 ∧ tt2 ρ2 = .ok true ∧ fe ρ2 = .ok (f x y)) →
    compL2 ft tt fi2 vs2 ft2 tt2 fe ρ (xs.map enc) = some (xs.flatMap fun x => (g x).map (f x))
  | [], _ => rfl
  | x :: xs, h => by
    obtain ⟨ρ1, h1, h2, h3, h4⟩ := h x List.mem_cons_self
    have ih := compL2_map enc enc2 g f xs fun y hy => h y (List.mem_cons_of_mem _ hy)
    rw [List.map_cons]
    unfold compL2
    have c := compL_map (ft := ft2) (tt := tt2) (fe := fe) (ρ := wipeE ρ1 vs2) enc2 (fun _ => true) (f x) (g x) fun y hy => by
      obtain ⟨ρ2, k1, k2, k3⟩ := h4 y hy
      exact ⟨ρ2, k1, k2, fun _ => k3⟩
    rw [List.filter_eq_self.mpr (fun _ _ => rfl)] at c
    rw [h1, Option.bind_some, h2, s_toO_ok, Option.bind_some, if_pos rfl, h3, s_toO_ok, Option.bind_some, c, Option.bind_some, ih]
    rfl
end DL
set_option Elab.async false
set_option linter.all false
set_option maxRecDepth 100000
namespace DL
open PySem L2
/-! ### small facts for what is drawn -/
theorem erase_map {α β : Type} (f : α → β) : ∀ (l : List α) (k : Nat), (l.map f).eraseIdx k = (l.eraseIdx k).map f
  | [], _ => rfl
  | _ :: _, 0 => rfl
  | a :: l, k + 1 => by
    show f a :: (l.map f).eraseIdx k = f a :: (l.eraseIdx k).map f
    rw [erase_map f l k]
theorem cutN {α : Type} {xs : List α} {a b : Nat} (ha : a ≤ xs.length) (hb : b ≤ xs.length) : cutG xs (some (a : Int)) (some (b : Int)) = (xs.drop a).take (b - a) := by
  unfold cutG
  rw [HT.sIx_nat, HT.sIx_nat, Nat.min_eq_left ha, Nat.min_eq_left hb]
theorem cutG_len {α : Type} {xs : List α} {l h : Option Int} : (cutG xs l h).length ≤ xs.length := by
  unfold cutG
  rw [List.length_take, List.length_drop]
  omega
theorem slS {x : List Nat} {l h : Option Int} (hx : x.length ≤ 1000) : gSl l h (.str x) = some (.str (cutG x l h)) := sl_str (by rw [size_eq]; omega)
theorem atN {xs : List Int} {k : Nat} (h : k < xs.length) : atI (xs.map D.int) (k : Int) = some (.int xs[k]) := by
  rw [atI_get? (by omega), List.getElem?_map, Int.toNat_natCast, List.getElem?_eq_getElem h]
  rfl
theorem atC (xs : List Int) {i : Int} (h0 : 0 ≤ i) (h : i.toNat < xs.length) : ∃ p : Int, atI (xs.map D.int) i = some (.int p) := by
  rw [atI_get? h0, List.getElem?_map, List.getElem?_eq_getElem h]
  exact ⟨_, rfl⟩
/-- a sign of a text -/
theorem chAt {x : List Nat} {i : Int} (hx : x.length ≤ 1000) (h0 : 0 ≤ i) (h : i.toNat < x.length) : ∃ c ∈ x, gIx (.str x) (.int i) = some (.str [c]) := by
  refine ⟨x[i.toNat], List.getElem_mem h, ?_⟩
  rw [ix_str (by rw [size_eq]; omega), atI_get? h0, List.getElem?_eq_getElem h]
  rfl
theorem chMod {x : List Nat} {m : Int} {k : Nat} (hk : x.length = k) (hp : 0 < k) (hx : k ≤ 1000) : ∃ c ∈ x, gMod (.int m) (.int (k : Int)) = some (.int (m % k)) ∧ gIx (.str x) (.int (m % k)) = some (.str [c]) := by
  have h1 := Int.emod_nonneg m (show (k : Int) ≠ 0 by omega)
  have h2 := Int.emod_lt_of_pos m (show (0 : Int) < k by omega)
  obtain ⟨c, hc, e⟩ := chAt (x := x) (i := m % (k : Int)) (by omega) h1 (by omega)
  exact ⟨c, hc, mod_int (by omega), e⟩
theorem ints_data {xs : List Int} {n : Nat} : isDataL n (xs.map D.int) = true := by
  rw [isDataL_all, List.all_eq_true]
  intro d hd
  obtain ⟨s, _, rfl⟩ := List.mem_map.mp hd
  cases n <;> rfl
theorem neNilI {xs : List Int} : gNe (.lst (xs.map D.int)) (.lst []) = some (.bl (!decide (xs = []))) := by
  unfold gNe
  rw [if_pos ⟨ints_data, rfl⟩]
  cases xs with
  | nil => simp [deq, D.pd, D.pdL, PyData.eqv, PyData.eqvAll]
  | cons x xs => simp [deq, D.pd, D.pdL, PyData.eqv, PyData.eqvAll]
theorem lrng {i : Nat} (h : i < 1000000) : gLRng (.int (i : Int)) = some (.lst ((List.range i).map fun k : Nat => D.int (k : Int))) := by
  show (if _ then _ else _) = _
  rw [if_pos (by first | omega | exact ⟨by omega, by omega⟩)]
  simp
theorem textsOf_map : ∀ xs : List (List Nat), textsOf (xs.map D.str) = some xs
  | [] => rfl
  | x :: xs => by
    show (textsOf (xs.map D.str)).map _ = _
    rw [textsOf_map xs]
    rfl
theorem joinN_flat : ∀ xs : List (List Nat), joinN [] xs = xs.flatten
  | [] => rfl
  | [x] => by simp [joinN]
  | x :: y :: r => by
    show x ++ [] ++ joinN [] (y :: r) = _
    rw [joinN_flat (y :: r)]
    simp
theorem join_flat {xs : List (List Nat)} (h : (xs.map (·.length)).sum ≤ 1000) : gJoin (.str []) (.lst (xs.map D.str)) = some (.str xs.flatten) := by
  show (textsOf (xs.map D.str)).bind _ = _
  rw [textsOf_map, Option.bind_some]
  rw [if_pos (by simp; omega), joinN_flat]
end DL
set_option Elab.async false
set_option linter.all false
set_option maxRecDepth 100000
namespace DL
open PySem L2
/-! ### how a generator's body runs to its end -/
structure gok (N : DL.Env → Prop) (zs : List D) (r : GO) : Prop where
  go : ∃ ρ, r = (zs, .nx ρ) ∧ N ρ
section
variable {N : DL.Env → Prop} {ρ : DL.Env} {f g : DL.Env → GO} {zs zs2 out : List D} {fe : DL.Env → R D} {c : DL.Env → R Bool} {d : D}
theorem gok_seq (h : gok (fun ρ' => gok N zs2 (g ρ')) zs (f ρ)) : gok N (zs ++ zs2) (gSeq f g ρ) := by
  obtain ⟨ρ1, h1, ⟨ρ2, h2, h3⟩⟩ := h
  refine ⟨ρ2, ?_, h3⟩
  unfold gSeq
  rw [h1]
  show (zs ++ (g ρ1).1, (g ρ1).2) = _
  rw [h2]
theorem gok_nil (h : N ρ) : gok N [] (gNext ρ) := ⟨ρ, rfl, h⟩
theorem gok_pl {fp : DL.Env → Out} (h : wpO N (fun _ => False) (fp ρ)) : gok N [] (gPl fp ρ) := by
  obtain ⟨h⟩ := h
  unfold gPl
  cases q : fp ρ <;> rw [q] at h <;> first | exact ⟨_, rfl, h⟩ | exact h.elim
theorem gok_yield (e : fe ρ = .ok d) (h : N ρ) : gok N [d] (gYield fe ρ) := by
  unfold gYield
  rw [e]
  exact ⟨ρ, rfl, h⟩
theorem gok_if {b : Bool} (e : c ρ = .ok b) (h1 : b = true → gok N zs (f ρ)) (h2 : b = false → gok N zs (g ρ)) : gok N zs (gIf c f g ρ) := by
  show gok N zs (gE (c ρ) ρ fun b => if b = true then f ρ else g ρ)
  rw [e]
  cases b with
  | true => exact h1 rfl
  | false => exact h2 rfl
theorem gok_from {F : List D → R (List D)} {fa : DL.Env → R (List D)} {l : List D} (e : fa ρ = .ok l) (hF : F l = .ok out) (h : N ρ) : gok N out (gFrom F fa ρ) := by
  show gok N out (gE (fa ρ) ρ fun l => match F l with | .ok out => (out, .nx ρ) | _ => ([], .stuck))
  rw [e]
  show gok N out (match F l with | .ok out => (out, .nx ρ) | _ => ([], .stuck))
  rw [hF]
  exact ⟨ρ, rfl, h⟩
theorem gok_for {α : Type} (enc : α → D) (I : DL.Env → Prop) (gz : α → List D) {xs : List α} {fi : DL.Env → R (List D)} {ft : D → DL.Env → Option DL.Env} {fb : DL.Env → GO} (e : fi ρ = .ok (xs.map enc)) (h0 : I ρ)
    (h : ∀ x ∈ xs, ∀ ρ1, I ρ1 → ∃ ρ2, ft (enc x) ρ1 = some ρ2 ∧ gok I (gz x) (fb ρ2)) (hN : ∀ ρ', I ρ' → N ρ') : gok N (xs.flatMap gz) (gFor fi ft fb ρ) := by
  show gok N _ (gE (fi ρ) ρ fun ds => gForL ft fb ds ρ)
  rw [e]
  show gok N _ (gForL ft fb (xs.map enc) ρ)
  clear e
  induction xs generalizing ρ with
  | nil => exact ⟨ρ, rfl, hN ρ h0⟩
  | cons x xs ih =>
    obtain ⟨ρ2, h1, ⟨ρ3, h2, h3⟩⟩ := h x List.mem_cons_self ρ h0
    obtain ⟨ρ4, h4, h5⟩ := ih h3 fun y hy => h y (List.mem_cons_of_mem _ hy)
    refine ⟨ρ4, ?_, h5⟩
    rw [List.map_cons]
    unfold gForL
    rw [h1]
    show gLoop (fb ρ2) (gForL ft fb (xs.map enc)) = _
    rw [h2]
    show (gz x ++ (gForL ft fb (xs.map enc) ρ3).1, (gForL ft fb (xs.map enc) ρ3).2) = _
    rw [h4]
    rfl
theorem gok_eq {r : GO} (e : zs = zs2) (h : gok N zs2 r) : gok N zs r := e ▸ h
theorem run_gok {n m : Nat} {b : DL.Env → GO} {ds : List D} (h : gok (fun _ => True) zs (b (ds.map some ++ List.replicate (n - m) none))) : runG n m b ds = .ok zs := by
  obtain ⟨ρ, h, _⟩ := h
  unfold runG
  rw [h]
end
/-! ### numbers as data -/
abbrev T (r : List Nat) : D := .tup (r.map natD)
abbrev Ls (r : List Nat) : D := .lst (r.map natD)
theorem nats_data {xs : List Nat} {n : Nat} : isDataL n (xs.map natD) = true := by
  rw [isDataL_all, List.all_eq_true]
  intro d hd
  obtain ⟨s, _, rfl⟩ := List.mem_map.mp hd
  cases n <;> rfl
theorem ix0 {a : Nat} {r : List Nat} : gIx (Ls (a :: r)) (.int 0) = some (natD a) := by
  show atI _ 0 = _
  rw [atI_get? (by decide)]
  rfl
theorem eqNil {xs : List Nat} : gEq (Ls xs) (.lst []) = some (.bl (decide (xs = []))) := by
  unfold gEq
  rw [if_pos ⟨nats_data, rfl⟩]
  cases xs <;> simp [deq, D.pd, D.pdL, PyData.eqv, PyData.eqvAll]
theorem neNil {xs : List Nat} : gNe (Ls xs) (.lst []) = some (.bl (!decide (xs = []))) := by
  unfold gNe
  rw [if_pos ⟨nats_data, rfl⟩]
  cases xs <;> simp [deq, D.pd, D.pdL, PyData.eqv, PyData.eqvAll]
theorem frz_nats : ∀ xs : List Nat, frzL (xs.map natD) = xs.map natD
  | [] => rfl
  | x :: xs => by
    show natD x :: frzL (xs.map natD) = _
    rw [frz_nats xs]
    rfl
theorem thaw_nats : ∀ xs : List Nat, thawL (xs.map natD) = xs.map natD
  | [] => rfl
  | x :: xs => by
    show natD x :: thawL (xs.map natD) = _
    rw [thaw_nats xs]
    rfl
theorem frzT (r : List Nat) : frzD (T r) = T r := by
  show D.tup (frzL _) = _
  rw [frz_nats]
theorem thawT (r : List Nat) : thawD (T r) = T r := by
  show D.tup (thawL _) = _
  rw [thaw_nats]
theorem thawLs (r : List Nat) : thawD (Ls r) = Ls r := by
  show D.lst (thawL _) = _
  rw [thaw_nats]
theorem nat_int {xs : List Nat} : xs.map natD = (xs.map fun n : Nat => (n : Int)).map D.int := by
  rw [List.map_map]
  rfl
theorem inD_ints {x : Int} (l : List Int) : inD (.int x) (.lst (l.map .int)) = some (decide (x ∈ l)) := by
  have h1 : isFlat (.int x) = true ∧ (l.map D.int).all isFlat = true := ⟨rfl, by rw [List.all_map]; exact List.all_eq_true.mpr fun _ _ => rfl⟩
  have h2 : inD (.int x) (.lst (l.map .int)) = some (memD (.int x) (l.map .int)) := if_pos h1
  have h3 : ∀ l : List Int, memD (.int x) (l.map .int) = decide (x ∈ l) := fun l => by
    unfold memD
    rw [List.any_map]
    induction l with
    | nil => rfl
    | cons a l ih =>
      rw [List.any_cons, ih]
      show (deq (.int a) (.int x) || _) = _
      rw [deq_int]
      by_cases q : a = x
      · subst q; simp
      · have : ¬ x = a := fun z => q z.symm
        simp [q, this]
  rw [h2, h3]
theorem in_ints {x : Int} {l : List Int} : gIn5 false (.int x) (.lst (l.map .int)) = some (.bl (decide (x ∈ l))) := by
  show (inD (.int x) (.lst (l.map .int))).map _ = _
  rw [inD_ints]
  rfl
theorem nin_ints {x : Int} {l : List Int} : gIn5 true (.int x) (.lst (l.map .int)) = some (.bl (!decide (x ∈ l))) := by
  show (inD (.int x) (.lst (l.map .int))).map _ = _
  rw [inD_ints]
  rfl
theorem mem_cast {i : Nat} {xs : List Nat} : ((i : Int) ∈ xs.map fun n : Nat => (n : Int)) ↔ i ∈ xs := by
  rw [List.mem_map]
  constructor
  · rintro ⟨a, h, e⟩
    have e : a = i := by omega
    exact e ▸ h
  · exact fun h => ⟨i, h, rfl⟩
theorem inNats {i : Nat} {xs : List Nat} : gIn5 false (natD i) (Ls xs) = some (.bl (decide (i ∈ xs))) := by
  show gIn5 false (.int (i : Int)) (.lst (xs.map natD)) = _
  rw [nat_int, in_ints]
  simp only [mem_cast]
theorem ninNats {i : Nat} {xs : List Nat} : gIn5 true (natD i) (Ls xs) = some (.bl (!decide (i ∈ xs))) := by
  show gIn5 true (.int (i : Int)) (.lst (xs.map natD)) = _
  rw [nat_int, nin_ints]
  simp only [mem_cast]
theorem nat_eq {a b : Nat} : gEq (natD a) (natD b) = some (.bl (decide (a = b))) := by
  show gEq (.int (a : Int)) (.int (b : Int)) = _
  rw [eqI]
  congr 2
  exact decide_eq_decide.mpr (by omega)
theorem nat_ne {a b : Nat} : gNe (natD a) (natD b) = some (.bl (!decide (a = b))) := by
  show gNe (.int (a : Int)) (.int (b : Int)) = _
  rw [neI]
  congr 3
  exact decide_eq_decide.mpr (by omega)
/-- [x for x in xs if ..], numbers -/
theorem lc_nats {fe : DL.Env → R D} {tt : DL.Env → R Bool} {ρ : DL.Env} {j : Nat} {xs : List Nat} {p : Nat → Bool} (h : fIter fe ρ = .ok (xs.map natD)) (hz : xs.length ≤ 1000000) (hj : j < ρ.length) (ht : ∀ x ∈ xs, tt ((ρ.set j none).set j (some (natD x))) = .ok (p x)) :
    fLc (fIter fe) (gtName j) tt (fun ρ => getE ρ j) [j] ρ = .ok (Ls (xs.filter p)) := by
  rw [s_fLc, h, s_bind_ok]
  have c := compL_map (ft := gtName j) (tt := tt) (fe := fun ρ => getE ρ j) (ρ := ρ.set j none) natD p natD xs fun x hx => ⟨_, rfl, ht x hx, fun _ => by
    unfold getE
    rw [List.getElem?_set_self (by rw [List.length_set]; exact hj)]⟩
  show ((R.ofO (compL (gtName j) tt (fun ρ => getE ρ j) (ρ.set j none) (xs.map natD))).bind fun ys => lenOk ys (.ok (.lst ys))) = _
  rw [c, lc_fin (by rw [List.length_map]; exact Nat.le_trans (List.length_filter_le _ _) hz)]
/-! ### books of what each item's programs are -/
abbrev Fd := List (Nat × List Nat)
def kyD (n : Nat) : Key := .inl (n : Int)
def dkD (fs : Fd) : D := .dk (fs.map fun p => kyD p.1) (fs.map fun p => T p.2)
def fkD (fs : Fd) : D := .fk (fs.map fun p => kyD p.1) (fs.map fun p => T p.2)
theorem frzTs : ∀ fs : Fd, frzL (fs.map fun p => T p.2) = fs.map fun p => T p.2
  | [] => rfl
  | p :: fs => by
    show frzD (T p.2) :: frzL (fs.map fun p => T p.2) = _
    rw [frzTs fs, frzT]
    rfl
theorem thawTs : ∀ fs : Fd, thawL (fs.map fun p => T p.2) = fs.map fun p => T p.2
  | [] => rfl
  | p :: fs => by
    show thawD (T p.2) :: thawL (fs.map fun p => T p.2) = _
    rw [thawTs fs, thawT]
    rfl
theorem frzDk (fs : Fd) : frzD (dkD fs) = fkD fs := by
  show D.fk _ (frzL _) = _
  rw [frzTs]
  rfl
theorem thawFk (fs : Fd) : thawD (fkD fs) = dkD fs := by
  show D.dk _ (thawL _) = _
  rw [thawTs]
  rfl
theorem thawDk (fs : Fd) : thawD (dkD fs) = dkD fs := by
  show D.dk _ (thawL _) = _
  rw [thawTs]
  rfl
theorem kyD_inj {a b : Nat} : kyD a = kyD b ↔ a = b := by
  unfold kyD
  constructor
  · intro h
    injection h with h
    omega
  · intro h
    rw [h]
theorem look_fd {k : Nat} {r : List Nat} : ∀ {fs : Fd}, (fs.map (·.1)).Nodup → (k, r) ∈ fs → lookD (fs.map fun p => kyD p.1) (fs.map fun p => T p.2) (kyD k) = some (T r)
  | [], _, h => by cases h
  | (k', r') :: fs, hn, h => by
    obtain ⟨n1, n2⟩ := List.nodup_cons.mp hn
    show (if kyD k' = kyD k then some (T r') else lookD (fs.map fun p => kyD p.1) (fs.map fun p => T p.2) (kyD k)) = _
    rcases List.mem_cons.mp h with h | h
    · cases h
      rw [if_pos rfl]
    · have : k' ≠ k := fun e => n1 (by rw [e]; exact List.mem_map_of_mem (f := (·.1)) h)
      rw [if_neg (fun e => this (kyD_inj.mp e))]
      exact look_fd n2 h
theorem look_out {k : Nat} : ∀ {fs : Fd}, k ∉ fs.map (·.1) → lookD (fs.map fun p => kyD p.1) (fs.map fun p => T p.2) (kyD k) = none
  | [], _ => rfl
  | (k', r') :: fs, hn => by
    rw [List.map_cons, List.mem_cons, not_or] at hn
    show (if kyD k' = kyD k then some (T r') else lookD (fs.map fun p => kyD p.1) (fs.map fun p => T p.2) (kyD k)) = _
    rw [if_neg (fun e => hn.1 (kyD_inj.mp e).symm)]
    exact look_out hn.2
theorem ixDk {fs : Fd} {k : Nat} {r : List Nat} (hn : (fs.map (·.1)).Nodup) (h : (k, r) ∈ fs) : gIx (dkD fs) (natD k) = some (T r) := by
  show ((some (kyD k)).map fun k => lookD _ _ k).join = _
  rw [Option.map_some, look_fd hn h]
  rfl
theorem ixFk {fs : Fd} {k : Nat} {r : List Nat} (hn : (fs.map (·.1)).Nodup) (h : (k, r) ∈ fs) : gIx (fkD fs) (natD k) = some (T r) := by
  show ((some (kyD k)).map fun k => lookD _ _ k).join = _
  rw [Option.map_some, look_fd hn h]
  rfl
theorem keysFk (fs : Fd) : gKeys (fkD fs) = some ((fs.map (·.1)).map natD) := by
  show (if (fs.map fun p => kyD p.1).all okK then some ((fs.map fun p => kyD p.1).map keyD) else none) = _
  rw [if_pos (by simp [kyD, okK]), List.map_map, List.map_map]
  rfl
theorem wp_lk {N : DL.Env → Prop} {T' : Out → Prop} {ρ : DL.Env} {i : Nat} {ow : Ow} {f : DL.Env → Out} {fs : Fd} (hi : ρ[i]? = some (some (dkD fs)))
    (h : wpO (fun ρ' => thawO ow (.nx ρ') = .nx (ρ'.map (Option.map thawD)) ∧ N (ρ'.map (Option.map thawD))) (fun o => match o with | .rt d ρ' => T' (.rt (thawD d) (ρ'.map (Option.map thawD))) | _ => False) (f (ρ.set i (some (fkD fs))))) : wpO N T' (fLkS i ow f ρ) := by
  unfold fLkS
  rw [hi]
  show wpO N T' (thawO ow (f (ρ.set i (some (frzD (dkD fs))))))
  rw [frzDk]
  obtain ⟨h⟩ := h
  cases q : f (ρ.set i (some (fkD fs))) <;> rw [q] at h
  · obtain ⟨h1, h2⟩ := h
    rw [h1]
    exact ⟨h2⟩
  · exact ⟨h⟩
  all_goals exact h.elim
theorem iterKeys {fe : DL.Env → R D} {ρ : DL.Env} {fs : Fd} (h : fe ρ = .ok (fkD fs)) : fKeys fe ρ = .ok (fs.map fun p => natD p.1) := by
  unfold fKeys
  rw [h, s_bind_ok, keysFk, List.map_map]
  rfl
theorem wp_put {N : DL.Env → Prop} {T' : Out → Prop} {ρ : DL.Env} {k : Nat} {fe fi : DL.Env → R D} {c c' d a : D} (e : fe ρ = .ok d) (hi : ρ[k]? = some (some c)) (ht : isTop c = true) (ei : fi ρ = .ok a) (hp : putD c a d = some c') (h : N (ρ.set k (some c'))) : wpO N T' (fPut k fe fi ρ) := by
  unfold fPut
  rw [e, s_stE_ok, hi]
  show wpO N T' (if isTop c = true then stE (fi ρ) ρ fun a => (match putD c a d with | some c' => .nx (ρ.set k (some c')) | none => .stuck) else .stuck)
  rw [if_pos ht, ei, s_stE_ok]
  show wpO N T' (match putD c a d with | some c' => .nx (ρ.set k (some c')) | none => .stuck)
  rw [hp]
  exact ⟨h⟩
theorem ky_nodup {fs : Fd} (h : (fs.map (·.1)).Nodup) : (fs.map fun p => kyD p.1).Nodup := by
  rw [List.nodup_iff_pairwise_ne, List.pairwise_map] at h ⊢
  exact h.imp fun {a b} n e => n (kyD_inj.mp e)
theorem putKD_new {k : Nat} {r : List Nat} : ∀ {fs : Fd}, k ∉ fs.map (·.1) → putKD (fs.map fun p => kyD p.1) (fs.map fun p => T p.2) (kyD k) (T r) = ((fs ++ [(k, r)]).map (fun p => kyD p.1), (fs ++ [(k, r)]).map fun p => T p.2)
  | [], _ => rfl
  | (k', r') :: fs, hn => by
    rw [List.map_cons, List.mem_cons, not_or] at hn
    have ih := putKD_new (r := r) hn.2
    show putKD (kyD k' :: fs.map fun p => kyD p.1) (T r' :: fs.map fun p => T p.2) (kyD k) (T r) = _
    unfold putKD
    rw [if_neg (fun e => hn.1 (kyD_inj.mp e).symm), ih]
    rfl
theorem put_new {fs : Fd} {k : Nat} {r : List Nat} (hn : (fs.map (·.1)).Nodup) (hk : k ∉ fs.map (·.1)) (hl : fs.length ≤ 1000) : putD (dkD fs) (natD k) (T r) = some (dkD (fs ++ [(k, r)])) := by
  show ((some (kyD k)).bind fun k => if _ ∧ _ ∧ _ then _ else none) = _
  rw [Option.bind_some, if_pos ⟨by rw [size_eq, List.length_map]; omega, by rw [List.length_map, List.length_map], ky_nodup hn⟩]
  show some (D.dk (putKD (fs.map fun p => kyD p.1) (fs.map fun p => T p.2) (kyD k) (T r)).1 (putKD (fs.map fun p => kyD p.1) (fs.map fun p => T p.2) (kyD k) (T r)).2) = _
  rw [putKD_new hk]
  rfl
def setR (fs : Fd) (k : Nat) (r : List Nat) : Fd := fs.map fun p => if p.1 = k then (p.1, r) else p
theorem putKD_old {k : Nat} {r : List Nat} : ∀ {fs : Fd}, (fs.map (·.1)).Nodup → k ∈ fs.map (·.1) → putKD (fs.map fun p => kyD p.1) (fs.map fun p => T p.2) (kyD k) (T r) = ((setR fs k r).map (fun p => kyD p.1), (setR fs k r).map fun p => T p.2)
  | [], _, h => by cases h
  | (k', r') :: fs, hn, h => by
    obtain ⟨n1, n2⟩ := List.nodup_cons.mp hn
    show putKD (kyD k' :: fs.map fun p => kyD p.1) (T r' :: fs.map fun p => T p.2) (kyD k) (T r) = _
    unfold putKD
    by_cases e : k' = k
    · subst e
      rw [if_pos rfl]
      have same : setR fs k' r = fs := by
        unfold setR
        refine (List.map_congr_left fun p hp => if_neg fun e => n1 ?_).trans (List.map_id fs)
        rw [← e]
        exact List.mem_map_of_mem (f := (·.1)) hp
      show (kyD k' :: _, T r :: _) = ((setR ((k', r') :: fs) k' r).map _, (setR ((k', r') :: fs) k' r).map _)
      have : setR ((k', r') :: fs) k' r = (k', r) :: fs := by
        show (if k' = k' then (k', r) else (k', r')) :: setR fs k' r = _
        rw [if_pos rfl, same]
      rw [this]
      rfl
    · rw [if_neg (fun z => e (kyD_inj.mp z))]
      have hm : k ∈ fs.map (·.1) := (List.mem_cons.mp h).resolve_left fun z => e z.symm
      have : setR ((k', r') :: fs) k r = (k', r') :: setR fs k r := by
        show (if k' = k then (k', r) else (k', r')) :: setR fs k r = _
        rw [if_neg e]
      rw [this, putKD_old n2 hm]
      rfl
theorem put_old {fs : Fd} {k : Nat} {r : List Nat} (hn : (fs.map (·.1)).Nodup) (hk : k ∈ fs.map (·.1)) (hl : fs.length ≤ 1000) : putD (dkD fs) (natD k) (T r) = some (dkD (setR fs k r)) := by
  show ((some (kyD k)).bind fun k => if _ ∧ _ ∧ _ then _ else none) = _
  rw [Option.bind_some, if_pos ⟨by rw [size_eq, List.length_map]; omega, by rw [List.length_map, List.length_map], ky_nodup hn⟩]
  show some (D.dk (putKD (fs.map fun p => kyD p.1) (fs.map fun p => T p.2) (kyD k) (T r)).1 (putKD (fs.map fun p => kyD p.1) (fs.map fun p => T p.2) (kyD k) (T r)).2) = _
  rw [putKD_old hn hk]
  rfl
theorem cutI {xs : List Int} {a b : Nat} (ha : a ≤ xs.length) (hb : b ≤ xs.length) : cutG (xs.map D.int) (some (a : Int)) (some (b : Int)) = ((xs.drop a).take (b - a)).map D.int := by
  rw [cutN (by rw [List.length_map]; exact ha) (by rw [List.length_map]; exact hb), List.map_take, List.map_drop]
theorem ixI {xs : List Int} {k : Nat} (h : k < xs.length) : gIx (.lst (xs.map D.int)) (natD k) = some (.int xs[k]) := atN h
/-- [f(x) for x in xs], numbers -/
theorem lc_ints {fe fx : DL.Env → R D} {ρ : DL.Env} {j : Nat} {xs : List Int} {g : Int → Int} (h : fIter fe ρ = .ok (xs.map D.int)) (hz : xs.length ≤ 1000000) (ht : ∀ x ∈ xs, fx ((ρ.set j none).set j (some (.int x))) = .ok (.int (g x))) :
    fLc (fIter fe) (gtName j) fYes fx [j] ρ = .ok (.lst ((xs.map g).map D.int)) := by
  rw [s_fLc, h, s_bind_ok]
  have c := compL_map (ft := gtName j) (tt := fYes) (fe := fx) (ρ := ρ.set j none) D.int (fun _ => true) (fun x => D.int (g x)) xs fun x hx => ⟨_, rfl, rfl, fun _ => ht x hx⟩
  show ((R.ofO (compL (gtName j) fYes fx (ρ.set j none) (xs.map D.int))).bind fun ys => lenOk ys (.ok (.lst ys))) = _
  rw [c, List.filter_eq_self.mpr (fun _ _ => rfl), lc_fin (by rw [List.length_map]; exact hz), List.map_map]
  rfl
end DL
set_option Elab.async false
set_option linter.all false
set_option maxRecDepth 100000
namespace DL
open PySem L2
/-! ### which program may come first -/
def cut (left row : List Nat) : List Nat := row.filter fun k => decide (k ∈ left)
def rdy1 (i : Nat) (left row : List Nat) : Bool := !(decide (i ∈ cut left row) && !decide ((cut left row).head? = some i))
def rdy (fs : Fd) (i : Nat) (left : List Nat) : Bool := fs.all fun p => rdy1 i left p.2
theorem F_comes_first_ok {fs : Fd} {i : Nat} {left : List Nat} (hn : (fs.map (·.1)).Nodup) (hz : ∀ p ∈ fs, p.2.length ≤ 1000) : F_comes_first [dkD fs, natD i, Ls left] = .ok (.bl (rdy fs i left)) := by
  unfold F_comes_first
  refine run_wp (P := fun r => r = .ok (.bl (rdy fs i left))) ?_
  refine wp_seq (wp_lk rfl ?_)
  refine wp_for (fun p : Nat × List Nat => natD p.1) (fun pre ρ => (∃ x3 x4 x5 : Option D, ρ = [some (fkD fs), some (natD i), some (Ls left), x3, x4, x5]) ∧ ∀ p ∈ pre, rdy1 i left p.2 = true) (xs := fs) (iterKeys rfl) ⟨⟨none, none, none, rfl⟩, fun p h => by cases h⟩ ?_ ?_
  · rintro pre p post ρ e ⟨⟨x3, x4, x5, rfl⟩, hp⟩
    have hm : p ∈ fs := by rw [e]; simp
    obtain ⟨k, row⟩ := p
    have hrow : row.length ≤ 1000 := hz _ hm
    have g := ixFk hn hm
    refine ⟨_, rfl, wp_seq (wp_asg (d := Ls (cut left row)) (lc_nats (xs := row) (p := fun k => decide (k ∈ left)) ?_ (by omega) (by simp) fun x hx => ?_) ?_)⟩
    · simp [g]
    · simp [inNats]
    · refine wp_if (b := decide (i ∈ cut left row) && !decide ((cut left row).head? = some i)) ?_ (fun hb => ?_) fun hb => ?_
      · by_cases hi : i ∈ cut left row
        · cases hc : cut left row with
          | nil => rw [hc] at hi; cases hi
          | cons a r =>
            rw [hc] at hi
            have h0 : atI (natD a :: r.map natD) 0 = some (natD a) := ix0
            simp [inNats, hi, nat_ne, h0]
        · simp [inNats, hi]
      · refine wp_ret (d := .bl false) rfl ?_
        show R.ok (thawD (.bl false)) = .ok (.bl (rdy fs i left))
        have : rdy fs i left = false := by
          refine Bool.eq_false_iff.mpr fun z => ?_
          have := List.all_eq_true.mp z _ hm
          unfold rdy1 at this
          rw [hb] at this
          cases this
        rw [this]
        rfl
      · refine wp_next ⟨⟨_, _, _, rfl⟩, fun q hq => ?_⟩
        rcases List.mem_append.mp hq with hq | hq
        · exact hp q hq
        · rw [List.mem_singleton.mp hq]
          unfold rdy1
          rw [hb]
          rfl
  · rintro ρ ⟨_, h⟩
    refine ⟨rfl, wp_ret (d := .bl true) rfl ?_⟩
    have : rdy fs i left = true := List.all_eq_true.mpr h
    rw [this]
theorem ready_same : b__law_ready = b_comes_first := rfl
theorem F__law_ready_ok {fs : Fd} {i : Nat} {left : List Nat} (hn : (fs.map (·.1)).Nodup) (hz : ∀ p ∈ fs, p.2.length ≤ 1000) : F__law_ready [dkD fs, natD i, Ls left] = .ok (.bl (rdy fs i left)) := by
  have e : F__law_ready = F_comes_first := by
    unfold F__law_ready F_comes_first
    rw [ready_same]
  rw [e]
  exact F_comes_first_ok hn hz
/-! ### the orders -/
def ords (fs : Fd) : Nat → List Nat → List Nat → List (List Nat)
  | 0, _, _ => []
  | n + 1, left, done => (if left = [] then [done] else []) ++ left.flatMap fun i => if rdy fs i left = true then ords fs n (left.filter fun k => !decide (k = i)) (done ++ [i]) else []
theorem filter_less {left : List Nat} {i : Nat} (h : i ∈ left) : (left.filter fun k => !decide (k = i)).length < left.length := by
  induction left with
  | nil => cases h
  | cons a l ih =>
    by_cases e : a = i
    · subst e
      rw [List.filter_cons_of_neg (by simp)]
      exact Nat.lt_succ_of_le (List.length_filter_le _ _)
    · rw [List.filter_cons_of_pos (by simp [e])]
      have := ih ((List.mem_cons.mp h).resolve_left fun z => e z.symm)
      rw [List.length_cons, List.length_cons]
      omega
def fact : Nat → Nat
  | 0 => 1
  | n + 1 => (n + 1) * fact n
theorem fact_pos : ∀ n, 1 ≤ fact n
  | 0 => Nat.le_refl _
  | n + 1 => Nat.mul_le_mul (Nat.succ_le_succ (Nat.zero_le n)) (fact_pos n)
theorem fact_mono : ∀ {a b : Nat}, a ≤ b → fact a ≤ fact b
  | a, 0, h => by rw [Nat.le_zero.mp h]; exact Nat.le_refl _
  | a, b + 1, h => by
    rcases Nat.lt_or_ge a (b + 1) with q | q
    · refine Nat.le_trans (fact_mono (Nat.le_of_lt_succ q)) ?_
      show fact b ≤ (b + 1) * fact b
      exact Nat.le_mul_of_pos_left _ (Nat.succ_pos b)
    · rw [Nat.le_antisymm h q]; exact Nat.le_refl _
theorem flat_le {α β : Type} {f : α → List β} {m : Nat} : ∀ {l : List α}, (∀ x ∈ l, (f x).length ≤ m) → (l.flatMap f).length ≤ l.length * m
  | [], _ => Nat.zero_le _
  | x :: l, h => by
    have h1 := h x List.mem_cons_self
    have h2 := flat_le (l := l) fun y hy => h y (List.mem_cons_of_mem _ hy)
    rw [List.flatMap_cons, List.length_append, List.length_cons, Nat.add_mul]
    omega
theorem ords_len (fs : Fd) : ∀ (n : Nat) (left done : List Nat), (ords fs n left done).length ≤ fact left.length
  | 0, _, _ => Nat.zero_le _
  | n + 1, left, done => by
    unfold ords
    cases left with
    | nil => simp [fact]
    | cons a l =>
      rw [if_neg (by simp), List.nil_append]
      refine Nat.le_trans (flat_le (m := fact l.length) fun i hi => ?_) (Nat.le_refl _)
      split
      · refine Nat.le_trans (ords_len fs n _ _) (fact_mono ?_)
        have := filter_less hi
        rw [List.length_cons] at this
        omega
      · exact Nat.zero_le _
theorem fact8 {n : Nat} (h : n ≤ 8) : fact n ≤ 40320 := fact_mono (b := 8) h
theorem rest_ok {left : List Nat} {i : Nat} {x0 x2 x4 x5 : D} {y4 y5 : Option D} (hz : left.length ≤ 1000) : True := trivial
theorem tup_add {done : List Nat} {i : Nat} (h : done.length ≤ 1000) : gAdd (T done) (.tup [natD i]) = some (T (done ++ [i])) := by
  show gAdd (.tup (done.map natD)) (.tup [natD i]) = _
  rw [add_tup (by rw [size_eq, List.length_map]; simp; omega)]
  show _ = some (D.tup ((done ++ [i]).map natD))
  rw [List.map_append]
  rfl
theorem flatMap_map {α β γ : Type} (f : β → γ) (g : α → List β) : ∀ l : List α, (l.flatMap g).map f = l.flatMap fun x => (g x).map f
  | [] => rfl
  | x :: l => by rw [List.flatMap_cons, List.flatMap_cons, List.map_append, flatMap_map f g l]
theorem F_ordered_ok {fs : Fd} (hn : (fs.map (·.1)).Nodup) (hz : ∀ p ∈ fs, p.2.length ≤ 1000) : ∀ (n : Nat) (left done : List Nat), left.length ≤ n → done.length + left.length ≤ 1000 → F_ordered (n + 1) [dkD fs, Ls left, T done] = .ok ((ords fs (n + 1) left done).map T) := by
  intro n
  induction n with
  | zero =>
    intro left done hl hd
    obtain rfl : left = [] := List.length_eq_zero_iff.mp (Nat.le_zero.mp hl)
    show runG 7 3 (b_ordered (F_ordered 0)) _ = _
    refine run_gok ?_
    show gok _ ([T done] ++ ([] ++ [])) _
    refine gok_seq (gok_if (b := true) rfl (fun _ => ?_) fun h => by cases h)
    show gok _ ([T done] ++ []) _
    refine gok_seq (gok_yield rfl (gok_nil ?_))
    exact gok_seq (gok_for natD (fun _ => True) (fun _ => []) (xs := []) rfl trivial (fun x hx => by cases hx) fun ρ' _ => gok_nil trivial)
  | succ n ih =>
    intro left done hl hd
    show runG 7 3 (b_ordered (F_ordered (n + 1))) _ = _
    refine run_gok ?_
    have e : (ords fs (n + 1 + 1) left done).map T = (if left = [] then [T done] else []) ++ ((left.flatMap fun i => (if rdy fs i left = true then ords fs (n + 1) (left.filter fun k => !decide (k = i)) (done ++ [i]) else []).map T) ++ []) := by
      show ((if left = [] then [done] else []) ++ _).map T = _
      rw [List.map_append, flatMap_map, List.append_nil]
      congr 1
      split <;> rfl
    rw [e]
    have hb : fNot (fTru (fun ρ => getE ρ 1)) ([dkD fs, Ls left, T done].map some ++ List.replicate (7 - 3) none) = .ok (decide (left = [])) := by
      cases left <;> rfl
    refine gok_seq (gok_if (b := decide (left = [])) hb (fun h => ?_) fun h => ?_)
    · have h := of_decide_eq_true h
      rw [if_pos h]
      show gok _ ([T done] ++ []) _
      refine gok_seq (gok_yield rfl (gok_nil ?_))
      subst h
      exact gok_seq (gok_for natD (fun _ => True) (fun _ => []) (xs := []) rfl trivial (fun x hx => by cases hx) fun ρ' _ => gok_nil trivial)
    · have h := of_decide_eq_false h
      rw [if_neg h]
      refine gok_nil (gok_seq (gok_for natD (fun ρ => ∃ x3 x4 x5 : Option D, ρ = [some (dkD fs), some (Ls left), some (T done), x3, x4, x5, none]) (fun i => (if rdy fs i left = true then ords fs (n + 1) (left.filter fun k => !decide (k = i)) (done ++ [i]) else []).map T) (xs := left) rfl ⟨none, none, none, rfl⟩ ?_ fun ρ' _ => gok_nil trivial))
      rintro i hi ρ ⟨x3, x4, x5, rfl⟩
      refine ⟨_, rfl, ?_⟩
      have hless := filter_less hi
      have hrec := ih (left.filter fun k => !decide (k = i)) (done ++ [i]) (by omega) (by rw [List.length_append, List.length_singleton]; omega)
      have e2 : ∀ zs : List D, zs = zs ++ [] := fun zs => (List.append_nil zs).symm
      rw [e2 (List.map T _)]
      refine gok_seq (gok_if (b := rdy fs i left) ?_ (fun hb => ?_) fun hb => ?_)
      · simp [F_comes_first_ok hn hz]
      · rw [if_pos hb]
        refine gok_eq (zs2 := [] ++ ([] ++ (List.map T (ords fs (n + 1) (left.filter fun k => !decide (k = i)) (done ++ [i])) ++ []))) (by simp) ?_
        refine gok_seq (gok_pl (wp_asg (d := Ls (left.filter fun k => !decide (k = i))) (lc_nats (xs := left) (p := fun k => !decide (k = i)) rfl (by omega) (by simp) fun x hx => ?_) ?_))
        · simp [nat_ne]
        refine gok_seq (gok_pl (wp_asg (d := T (done ++ [i])) (by simp [tup_add (show done.length ≤ 1000 by omega)]) ?_))
        refine gok_seq (gok_from (l := [dkD fs, Ls (left.filter fun k => !decide (k = i)), T (done ++ [i])]) (by simp) hrec ?_)
        exact gok_nil (gok_nil ⟨_, _, _, rfl⟩)
      · rw [if_neg (by rw [hb]; simp)]
        exact gok_nil (gok_nil ⟨_, _, _, rfl⟩)
/-! ### the law's own list of them -/
theorem F__law_orders_ok {fs : Fd} (hn : (fs.map (·.1)).Nodup) (hz : ∀ p ∈ fs, p.2.length ≤ 1000) : ∀ (n : Nat) (left done : List Nat), left.length ≤ n → left.length ≤ 8 → done.length + left.length ≤ 1000 → F__law_orders (n + 1) [dkD fs, Ls left, T done] = .ok (.lst ((ords fs (n + 1) left done).map T)) := by
  intro n
  induction n with
  | zero =>
    intro left done hl h8 hd
    obtain rfl : left = [] := List.length_eq_zero_iff.mp (Nat.le_zero.mp hl)
    show runF 6 3 (b__law_orders (F__law_orders 0)) _ = _
    refine run_wp (P := fun r => r = .ok (.lst ((ords fs 1 [] done).map T))) ?_
    refine wp_seq (wp_if (b := true) ?_ (fun _ => wp_ret (d := .lst [T done]) (by simp) rfl) fun h => by cases h)
    have := eqNil (xs := [])
    simp at this
    simp [this]
  | succ n ih =>
    intro left done hl h8 hd
    show runF 6 3 (b__law_orders (F__law_orders (n + 1))) _ = _
    refine run_wp (P := fun r => r = .ok (.lst ((ords fs (n + 1 + 1) left done).map T))) ?_
    refine wp_seq (wp_if (b := decide (left = [])) (by simp [eqNil]) (fun h => wp_ret (d := .lst [T done]) (by simp) ?_) fun h => wp_next ?_)
    · have h := of_decide_eq_true h
      subst h
      rfl
    have h := of_decide_eq_false h
    let gz : Nat → List (List Nat) := fun i => if rdy fs i left = true then ords fs (n + 1) (left.filter fun k => !decide (k = i)) (done ++ [i]) else []
    refine wp_seq (wp_asg (d := .lst []) (by simp) ?_)
    refine wp_seq (wp_for natD (fun pre ρ => ∃ x4 : Option D, ρ = [some (dkD fs), some (Ls left), some (T done), some (.lst ((pre.flatMap gz).map T)), x4, none]) (xs := left) rfl ⟨none, rfl⟩ ?_ ?_)
    · rintro pre i post ρ e ⟨x4, rfl⟩
      have hi : i ∈ left := by rw [e]; simp
      have hless := filter_less hi
      have hrec := ih (left.filter fun k => !decide (k = i)) (done ++ [i]) (by omega) (by omega) (by rw [List.length_append, List.length_singleton]; omega)
      have hpre : pre.length ≤ 8 := by
        have := congrArg List.length e
        simp at this
        omega
      have hgz : ∀ i, (gz i).length ≤ 40320 := fun i => by
        show (if rdy fs i left = true then _ else _ : List (List Nat)).length ≤ _
        split
        · refine Nat.le_trans (ords_len fs _ _ _) (fact8 ?_)
          exact Nat.le_trans (List.length_filter_le _ _) h8
        · exact Nat.zero_le _
      have hsum := flat_le (l := pre) (f := gz) (m := 40320) fun x _ => hgz x
      have hfl : (pre.flatMap gz).length ≤ 322560 := Nat.le_trans hsum (by omega)
      refine ⟨_, rfl, wp_if (b := rdy fs i left) ?_ (fun hb => ?_) fun hb => wp_next ⟨some (natD i), ?_⟩⟩
      · simp [F__law_ready_ok hn hz]
      · refine wp_asg (d := .lst (((pre ++ [i]).flatMap gz).map T)) ?_ ⟨some (natD i), rfl⟩
        have c : fLc (fIter (fun ρ => getE ρ 1)) (gtName 5) (fB (fOp gNe (fun ρ => getE ρ 5) (fun ρ => getE ρ 4))) (fun ρ => getE ρ 5) [5] [some (dkD fs), some (Ls left), some (T done), some (.lst ((pre.flatMap gz).map T)), some (natD i), none] = .ok (Ls (left.filter fun k => !decide (k = i))) :=
          lc_nats (xs := left) (p := fun k => !decide (k = i)) rfl (by omega) (by simp) fun x hx => by simp [nat_ne]
        have g1 : gz i = ords fs (n + 1) (left.filter fun k => !decide (k = i)) (done ++ [i]) := if_pos hb
        have ta := tup_add (done := done) (i := i) (by omega)
        have add : gAdd (.lst ((pre.flatMap gz).map T)) (.lst ((gz i).map T)) = some (.lst (((pre ++ [i]).flatMap gz).map T)) := by
          rw [addL (by rw [List.length_map, List.length_map]; have := hgz i; omega), List.flatMap_append, List.map_append]
          simp
        rw [g1] at add
        show (_ : DL.Env → R D) [some (dkD fs), some (Ls left), some (T done), some (.lst ((pre.flatMap gz).map T)), some (natD i), none] = _
        rw [s_fOp, s_fCallN, s_fCons, s_fCons, s_fCons, c]
        simp only [s_getES, s_getE0, s_bind_ok, s_fOp, s_fTup, s_fCons, s_fNil, s_lenOk1, ta, s_ofO_some, hrec, add]
      · have g1 : gz i = [] := if_neg (by rw [hb]; simp)
        rw [List.flatMap_append]
        simp [g1]
    · rintro ρ ⟨x4, rfl⟩
      refine wp_ret (d := .lst ((left.flatMap gz).map T)) (by simp) ?_
      show R.ok (D.lst ((left.flatMap gz).map T)) = .ok (.lst (((if left = [] then [done] else []) ++ left.flatMap gz).map T))
      rw [if_neg h, List.nil_append]
end DL
set_option Elab.async false
set_option linter.all false
set_option maxRecDepth 100000
namespace DL
open PySem L2
theorem eqI_refl {i : Int} : gEq (.int i) (.int i) = some (.bl true) := by simp
theorem same_int {n : Nat} {i : Int} : F__law_same (n + 1) [.int i, .int i] = .ok (.bl true) := by
  show runF 3 2 (b__law_same (F__law_same n)) _ = _
  unfold b__law_same
  refine run_wp (P := fun r => r = .ok (.bl true)) ?_
  have h1 : gIsN false (.int i) .non = some (.bl false) := rfl
  have h2 : gIsi "bool" (.int i) = some (.bl false) := rfl
  have h3 : gIsi "int" (.int i) = some (.bl true) := rfl
  refine wp_seq (wp_if (b := false) (by simp [h1]) (fun h => by cases h) fun _ => wp_next ?_)
  refine wp_seq (wp_if (b := false) (by simp [fIsi, h2]) (fun h => by cases h) fun _ => wp_next ?_)
  refine wp_seq (wp_if (b := true) (by simp [fIsi, h3]) (fun _ => ?_) fun h => by cases h)
  exact wp_ret (d := .bl true) (by simp [fIsi, h2, h3]) rfl
theorem same_str {n : Nat} {i : List Nat} : F__law_same (n + 1) [.str i, .str i] = .ok (.bl true) := by
  show runF 3 2 (b__law_same (F__law_same n)) _ = _
  unfold b__law_same
  refine run_wp (P := fun r => r = .ok (.bl true)) ?_
  have h1 : gIsN false (.str i) .non = some (.bl false) := rfl
  have h2 : gIsi "bool" (.str i) = some (.bl false) := rfl
  have h3 : gIsi "int" (.str i) = some (.bl false) := rfl
  have h4 : gIsi "str" (.str i) = some (.bl true) := rfl
  refine wp_seq (wp_if (b := false) (by simp [h1]) (fun h => by cases h) fun _ => wp_next ?_)
  refine wp_seq (wp_if (b := false) (by simp [fIsi, h2]) (fun h => by cases h) fun _ => wp_next ?_)
  refine wp_seq (wp_if (b := false) (by simp [fIsi, h3]) (fun h => by cases h) fun _ => wp_next ?_)
  refine wp_seq (wp_if (b := true) (by simp [fIsi, h4]) (fun _ => ?_) fun h => by cases h)
  exact wp_ret (d := .bl true) (by simp [fIsi, h4]) rfl
theorem same_tup {n : Nat} {l : List D} (hl : l.length < 1000000) (h : ∀ d ∈ l, F__law_same n [d, d] = .ok (.bl true)) : F__law_same (n + 1) [.tup l, .tup l] = .ok (.bl true) := by
  show runF 3 2 (b__law_same (F__law_same n)) _ = _
  unfold b__law_same
  refine run_wp (P := fun r => r = .ok (.bl true)) ?_
  have h1 : gIsN false (.tup l) .non = some (.bl false) := rfl
  have h2 : gIsi "bool" (.tup l) = some (.bl false) := rfl
  have h3 : gIsi "int" (.tup l) = some (.bl false) := rfl
  have h4 : gIsi "str" (.tup l) = some (.bl false) := rfl
  have h5 : gIsi "list" (.tup l) = some (.bl false) := rfl
  have h6 : gIsi "tuple" (.tup l) = some (.bl true) := rfl
  refine wp_seq (wp_if (b := false) (by simp [h1]) (fun h => by cases h) fun _ => wp_next ?_)
  refine wp_seq (wp_if (b := false) (by simp [fIsi, h2]) (fun h => by cases h) fun _ => wp_next ?_)
  refine wp_seq (wp_if (b := false) (by simp [fIsi, h3]) (fun h => by cases h) fun _ => wp_next ?_)
  refine wp_seq (wp_if (b := false) (by simp [fIsi, h4]) (fun h => by cases h) fun _ => wp_next ?_)
  refine wp_seq (wp_if (b := false) (by simp [fIsi, h5]) (fun h => by cases h) fun _ => wp_next ?_)
  refine wp_seq (wp_if (b := false) (by simp [fIsi, h6]) (fun h => by cases h) fun _ => wp_next ?_)
  refine wp_seq (wp_if (b := false) (by simp) (fun h => by cases h) fun _ => wp_next ?_)
  refine wp_seq (wp_for natD (fun pre ρ => ∃ x : Option D, ρ = [some (.tup l), some (.tup l), x]) (xs := List.range l.length) (by simp [rngN hl]) ⟨none, rfl⟩ ?_ ?_)
  · rintro pre k post ρ e ⟨x, rfl⟩
    have hk : k < l.length := by
      have : k ∈ List.range l.length := by rw [e]; simp
      exact List.mem_range.mp this
    have g : atI l (k : Int) = some l[k] := by
      rw [atI_get? (by omega)]
      simp [hk]
    refine ⟨_, rfl, wp_if (b := false) ?_ (fun h => by cases h) fun _ => wp_next ⟨_, rfl⟩⟩
    simp [natD, g, h l[k] (List.getElem_mem hk)]
  · rintro ρ ⟨x, rfl⟩
    exact wp_ret (d := .bl true) rfl rfl
theorem same_lst {n : Nat} {l : List D} (hl : l.length < 1000000) (h : ∀ d ∈ l, F__law_same n [d, d] = .ok (.bl true)) : F__law_same (n + 1) [.lst l, .lst l] = .ok (.bl true) := by
  show runF 3 2 (b__law_same (F__law_same n)) _ = _
  unfold b__law_same
  refine run_wp (P := fun r => r = .ok (.bl true)) ?_
  have h1 : gIsN false (.lst l) .non = some (.bl false) := rfl
  have h2 : gIsi "bool" (.lst l) = some (.bl false) := rfl
  have h3 : gIsi "int" (.lst l) = some (.bl false) := rfl
  have h4 : gIsi "str" (.lst l) = some (.bl false) := rfl
  have h5 : gIsi "list" (.lst l) = some (.bl true) := rfl
  have h6 : gIsi "tuple" (.lst l) = some (.bl false) := rfl
  refine wp_seq (wp_if (b := false) (by simp [h1]) (fun h => by cases h) fun _ => wp_next ?_)
  refine wp_seq (wp_if (b := false) (by simp [fIsi, h2]) (fun h => by cases h) fun _ => wp_next ?_)
  refine wp_seq (wp_if (b := false) (by simp [fIsi, h3]) (fun h => by cases h) fun _ => wp_next ?_)
  refine wp_seq (wp_if (b := false) (by simp [fIsi, h4]) (fun h => by cases h) fun _ => wp_next ?_)
  refine wp_seq (wp_if (b := false) (by simp [fIsi, h5]) (fun h => by cases h) fun _ => wp_next ?_)
  refine wp_seq (wp_if (b := false) (by simp [fIsi, h6]) (fun h => by cases h) fun _ => wp_next ?_)
  refine wp_seq (wp_if (b := false) (by simp) (fun h => by cases h) fun _ => wp_next ?_)
  refine wp_seq (wp_for natD (fun pre ρ => ∃ x : Option D, ρ = [some (.lst l), some (.lst l), x]) (xs := List.range l.length) (by simp [rngN hl]) ⟨none, rfl⟩ ?_ ?_)
  · rintro pre k post ρ e ⟨x, rfl⟩
    have hk : k < l.length := by
      have : k ∈ List.range l.length := by rw [e]; simp
      exact List.mem_range.mp this
    have g : atI l (k : Int) = some l[k] := by
      rw [atI_get? (by omega)]
      simp [hk]
    refine ⟨_, rfl, wp_if (b := false) ?_ (fun h => by cases h) fun _ => wp_next ⟨_, rfl⟩⟩
    simp [natD, g, h l[k] (List.getElem_mem hk)]
  · rintro ρ ⟨x, rfl⟩
    exact wp_ret (d := .bl true) rfl rfl
theorem F_cell6 {ns : List Int} {k : Int} (hk : 0 ≤ k) : ∃ c : Int, F__law_cell [.scr ns, .int k] = .ok (.int c) := by
  refine ⟨ns.getD k.toNat 0, ?_⟩
  unfold F__law_cell runF b__law_cell
  simp [atI_get? hk]
  by_cases h : k < ns.length
  · have h2 : k.toNat < ns.length := by omega
    simp [h, h2]
  · have h2 : ¬ k.toNat < ns.length := by omega
    simp [h, h2]
theorem F_numbers6 (c : Int) {m l : Int} (hm : 0 ≤ m ∧ m ≤ 1000) (hl : 0 < l ∧ l < 1000000) : ∃ xs : List Int, F__law_numbers [.int c, .int m, .int l] = .ok (.lst (xs.map .int)) ∧ xs.length = m.toNat ∧ ∀ x ∈ xs, 0 ≤ x ∧ x < l := by
  unfold F__law_numbers
  refine run_wp (P := fun r => ∃ xs : List Int, r = .ok (.lst (xs.map .int)) ∧ xs.length = m.toNat ∧ ∀ x ∈ xs, 0 ≤ x ∧ x < l) ?_
  refine wp_seq (wp_asg (d := .int 0) (by simp) ?_)
  refine wp_seq (wp_mono (N' := fun ρ => ∃ a : Int, ρ = [some (.int c), some (.int m), some (.int l), some (.int a), none, none, none]) ?_ ?_)
  · refine wp_if (b := decide ((10 : Int) ^ 18 ≤ c)) (by simp [pow_int]) (fun h => ?_) fun h => wp_next ⟨0, rfl⟩
    exact wp_asg (d := .int (c - 10 ^ 18)) (by simp [pow_int]) ⟨_, rfl⟩
  rintro ρ ⟨a, rfl⟩
  refine wp_seq (wp_asg (d := .int (c % 2147483647)) (by simp [mod_int]) ?_)
  refine wp_seq (wp_asgF (d := .lst []) (by simp) (by simp) ?_)
  refine wp_seq (wp_for natD (fun pre ρ => ∃ (a b : Int) (xs : List Int) (x6 : Option D), ρ = [some (.int c), some (.int m), some (.int l), some (.int a), some (.int b), some (.lst (xs.map .int)), x6] ∧ xs.length = pre.length ∧ ∀ x ∈ xs, 0 ≤ x ∧ x < l) (xs := List.range m.toNat) ?_ ⟨a, _, [], none, rfl, rfl, fun _ h => (List.not_mem_nil h).elim⟩ ?_ ?_)
  · have hr : gRng [.int m] = some ((List.range m.toNat).map natD) := by
      rw [rng1 (by omega)]
      simp [natD]
    simp [hr]
  · rintro pre k post ρ e ⟨a, b, xs, x6, rfl, len, hx⟩
    have hk : pre.length < 1000 := by
      have := congrArg List.length e
      simp at this
      omega
    refine ⟨_, rfl, ?_⟩
    refine wp_seq (wp_asg (d := .int ((b * 48271 + 10007 * k + 12345) % 2147483647)) (by simp [mul_int, mod_int, natD]) ?_)
    refine wp_if (b := decide (0 < a)) (by simp) (fun h => ?_) fun h => ?_
    · refine wp_seq (wp_app (ds := xs.map .int) (d := .int (a % l)) rfl (by simp [mod_int, hl]) (by simp; omega) ?_)
      refine wp_asg (d := .int (a / l)) (by simp [div_int, show 0 < l ∧ l < 1073741824 by omega]) ⟨a / l, (b * 48271 + 10007 * k + 12345) % 2147483647, xs ++ [a % l], some (natD k), by simp, by simp [len], fun x h => ?_⟩
      rcases List.mem_append.mp h with q | q
      · exact hx x q
      · rw [List.mem_singleton.mp q]
        exact ⟨Int.emod_nonneg _ (by omega), Int.emod_lt_of_pos _ hl.1⟩
    · refine wp_app (ds := xs.map .int) (d := .int ((b * 48271 + 10007 * k + 12345) % 2147483647 / 1021 % l)) rfl (by simp [mod_int, div_int, hl]) (by simp; omega) ⟨a, (b * 48271 + 10007 * k + 12345) % 2147483647, xs ++ [(b * 48271 + 10007 * k + 12345) % 2147483647 / 1021 % l], some (natD k), by simp, by simp [len], fun x h => ?_⟩
      rcases List.mem_append.mp h with q | q
      · exact hx x q
      · rw [List.mem_singleton.mp q]
        exact ⟨Int.emod_nonneg _ (by omega), Int.emod_lt_of_pos _ hl.1⟩
  · rintro ρ ⟨a, b, xs, x6, rfl, len, hx⟩
    refine wp_ret (d := .lst (xs.map .int)) rfl ⟨xs, rfl, by simpa using len, hx⟩
/-- what a draw gives: numbers of a cell -/
theorem F_draw (ns : List Int) {k m l : Int} (hk : 0 ≤ k) (hm : 0 ≤ m ∧ m ≤ 1000) (hl : 0 < l ∧ l < 1000000) : ∃ (c : Int) (xs : List Int), F__law_cell [.scr ns, .int k] = .ok (.int c) ∧ F__law_numbers [.int c, .int m, .int l] = .ok (.lst (xs.map .int)) ∧ xs.length = m.toNat ∧ ∀ x ∈ xs, 0 ≤ x ∧ x < l := by
  obtain ⟨c, h⟩ := F_cell6 (ns := ns) hk
  obtain ⟨xs, h2⟩ := F_numbers6 c hm hl
  exact ⟨c, xs, h, h2⟩
end DL
set_option Elab.async false
set_option linter.all false
set_option maxRecDepth 100000
namespace DL
open PySem L2
theorem bools_map : ∀ bs : List Bool, boolsOf (bs.map D.bl) = some bs
  | [] => rfl
  | b :: bs => by
    show (boolsOf (bs.map D.bl)).map (b :: ·) = _
    rw [bools_map bs]
    rfl
theorem thaw_bools : ∀ bs : List Bool, thawL (bs.map D.bl) = bs.map D.bl
  | [] => rfl
  | b :: bs => by
    show thawD (.bl b) :: thawL (bs.map D.bl) = _
    rw [thaw_bools bs]
    rfl
theorem lrngN {n : Nat} (h : n < 1000000) : gLRng (natD n) = some (Ls (List.range n)) := lrng h
def allIn (fs : Fd) (count : Nat) : Bool := fs.all fun p => p.2.all fun y => decide (y < count)
theorem F_serial_orders_ok {fs : Fd} (hn : (fs.map (·.1)).Nodup) (hz : ∀ p ∈ fs, p.2.length ≤ 1000) (hf : fs.length ≤ 100) {count : Nat} (hc : count ≤ 8) : F_serial_orders [dkD fs, natD count] = .ok ((if allIn fs count = true then ords fs 10 (List.range count) [] else []).map T) := by
  unfold F_serial_orders
  refine run_gok ?_
  refine gok_eq (zs2 := [] ++ ((if allIn fs count = true then ords fs 10 (List.range count) [] else []).map T ++ [])) (by simp) ?_
  refine gok_seq (gok_pl (wp_asg (d := Ls (List.range count)) ?_ ?_))
  · have := lrngN (n := count) (by omega)
    simp [this]
  have hall : fB (fCB gAll (fCons (fLkE 0 (fLc2 (fKeys (fun ρ => getE ρ 0)) (gtName 3) fYes (fIter (fOp gIx (fun ρ => getE ρ 0) (fun ρ => getE ρ 3))) [4] (gtName 4) fYes (fOp (gIn5 false) (fun ρ => getE ρ 4) (fun ρ => getE ρ 2)) [3, 4])) fNil)) [some (dkD fs), some (natD count), some (Ls (List.range count)), none, none] = .ok (allIn fs count) := by
    have lk : fLkE 0 (fLc2 (fKeys (fun ρ => getE ρ 0)) (gtName 3) fYes (fIter (fOp gIx (fun ρ => getE ρ 0) (fun ρ => getE ρ 3))) [4] (gtName 4) fYes (fOp (gIn5 false) (fun ρ => getE ρ 4) (fun ρ => getE ρ 2)) [3, 4]) [some (dkD fs), some (natD count), some (Ls (List.range count)), none, none]
        = .ok (.lst ((fs.flatMap fun p => p.2.map fun y => decide (y < count)).map D.bl)) := by
      show thawR (fLc2 _ _ _ _ _ _ _ _ _ [some (frzD (dkD fs)), some (natD count), some (Ls (List.range count)), none, none]) = _
      rw [frzDk]
      unfold fLc2
      rw [iterKeys (fs := fs) rfl, s_bind_ok]
      have c := compL2_map (ft := gtName 3) (tt := fYes) (fi2 := fIter (fOp gIx (fun ρ => getE ρ 0) (fun ρ => getE ρ 3))) (vs2 := [4]) (ft2 := gtName 4) (tt2 := fYes) (fe := fOp (gIn5 false) (fun ρ => getE ρ 4) (fun ρ => getE ρ 2)) (ρ := [some (fkD fs), some (natD count), some (Ls (List.range count)), none, none])
        (fun p : Nat × List Nat => natD p.1) natD (fun p => p.2) (fun p y => D.bl (decide (y < count))) fs (fun p hp => by
          obtain ⟨k, row⟩ := p
          have g := ixFk hn hp
          refine ⟨_, rfl, rfl, by simp [g], fun y hy => ⟨_, rfl, rfl, ?_⟩⟩
          simp [inNats])
      show thawR ((R.ofO (compL2 _ _ _ _ _ _ _ [some (fkD fs), some (natD count), some (Ls (List.range count)), none, none] _)).bind _) = _
      rw [c]
      have e : (fs.flatMap fun p => p.2.map fun y => D.bl (decide (y < count))) = (fs.flatMap fun p => p.2.map fun y => decide (y < count)).map D.bl := by
        rw [flatMap_map]
        congr 1
        funext p
        rw [List.map_map]
        rfl
      rw [e]
      have hl : (fs.flatMap fun p => p.2.map fun y => decide (y < count)).length ≤ 100000 := by
        refine Nat.le_trans (flat_le (m := 1000) fun p hp => ?_) (by omega)
        rw [List.length_map]
        exact hz p hp
      rw [lc_fin (by rw [List.length_map]; omega)]
      show R.ok (D.lst (thawL _)) = _
      rw [thaw_bools]
    show (fCB gAll _ _).bind asB = _
    rw [s_fCB, s_fCons, lk, s_bind_ok, s_fNil, s_bind_ok, s_bind_ok]
    show (R.ofO ((boolsOf _).map fun bs => D.bl (bs.all id))).bind asB = _
    rw [bools_map]
    show R.ok ((fs.flatMap fun p => p.2.map fun y => decide (y < count)).all id) = _
    unfold allIn
    rw [List.all_flatMap]
    congr 2
    funext p
    rw [List.all_map]
    rfl
  refine gok_seq (gok_if (b := allIn fs count) hall (fun hb => ?_) fun hb => ?_)
  · rw [if_pos hb]
    refine gok_eq (zs2 := (ords fs 10 (List.range count) []).map T ++ []) (by simp) ?_
    have := F_ordered_ok hn hz 9 (List.range count) [] (by rw [List.length_range]; omega) (by rw [List.length_range]; simp; omega)
    exact gok_seq (gok_from (l := [dkD fs, Ls (List.range count), T []]) (by simp) this (gok_nil (gok_nil trivial)))
  · rw [if_neg (by rw [hb]; simp)]
    exact gok_nil (gok_nil trivial)
theorem eraseIdx_sub {α : Type} : ∀ {l : List α} {k : Nat} {x : α}, x ∈ l.eraseIdx k → x ∈ l
  | [], _, _, h => by cases h
  | a :: l, 0, x, h => List.mem_cons_of_mem _ h
  | a :: l, k + 1, x, h => by
    have h : x ∈ a :: l.eraseIdx k := h
    rcases List.mem_cons.mp h with rfl | h
    · exact List.mem_cons_self
    · exact List.mem_cons_of_mem _ (eraseIdx_sub h)
theorem F__law_shuffled_ok {zs : List Nat} {xs : List Int} (hz : zs.length ≤ 1000) (hxl : xs.length ≤ 1000) : ∃ ys : List Nat, F__law_shuffled [Ls zs, .lst (xs.map .int)] = .ok (Ls ys) ∧ ys.length = zs.length ∧ ∀ y ∈ ys, y ∈ zs := by
  unfold F__law_shuffled
  refine run_wp (P := fun r => ∃ ys : List Nat, r = .ok (Ls ys) ∧ ys.length = zs.length ∧ ∀ y ∈ ys, y ∈ zs) ?_
  refine wp_seq (wp_asgF (d := Ls zs) (by simp) (by simp) ?_)
  refine wp_seq (wp_asgF (d := .lst []) (by simp) (by simp) ?_)
  refine wp_seq (wp_for D.int (fun pre ρ => ∃ (x4 : Option D) (left rows : List Nat), ρ = [some (Ls zs), some (.lst (xs.map .int)), some (Ls left), some (Ls rows), x4] ∧ rows.length + left.length = zs.length ∧ (∀ y ∈ left, y ∈ zs) ∧ ∀ y ∈ rows, y ∈ zs) (xs := xs) (by simp) ⟨none, zs, [], rfl, by simp, fun _ h => h, fun _ h => by cases h⟩ ?_ ?_)
  · rintro pre x post ρ e ⟨x4, left, rows, rfl, hl, ha, hb⟩
    refine ⟨_, rfl, ?_⟩
    refine wp_if (b := !decide (left = [])) (by simp [neNil]) (fun hb2 => ?_) fun hb2 => wp_next ⟨_, left, rows, rfl, hl, ha, hb⟩
    have hn : left ≠ [] := by simpa using hb2
    have hpos : (0 : Int) < left.length := by
      have := List.length_pos_iff.mpr hn
      omega
    have h1 := Int.emod_nonneg x (show (left.length : Int) ≠ 0 by omega)
    have h2 := Int.emod_lt_of_pos x hpos
    obtain ⟨k, hk⟩ : ∃ k : Nat, x % (left.length : Int) = k := ⟨(x % (left.length : Int)).toNat, by omega⟩
    have hkl : k < left.length := by omega
    have hm : gMod (.int x) (.int (left.length : Int)) = some (.int (k : Int)) := by rw [mod_int hpos, hk]
    constructor
    unfold fAppM fPopAt
    have e1 : ([some (Ls zs), some (.lst (xs.map .int)), some (Ls left), some (Ls rows), x4].set 4 (some (D.int x)) : DL.Env) = [some (Ls zs), some (.lst (xs.map .int)), some (Ls left), some (Ls rows), some (.int x)] := rfl
    rw [e1]
    have hrow : rows.length < 1000000 := by omega
    simp [hm, popAtK, stM, hkl, show (k : Int) < 4611686018427387904 by omega]
    rw [if_pos (by rw [size_eq]; omega)]
    refine ⟨some (.int x), left.eraseIdx k, rows ++ [left[k]], ?_, ?_, fun y hy => ha y (eraseIdx_sub hy), fun y hy => ?_⟩
    · simp [erase_map]
    · rw [List.length_append, List.length_eraseIdx, if_pos hkl]
      simp
      omega
    · rcases List.mem_append.mp hy with hy | hy
      · exact hb y hy
      · rw [List.mem_singleton.mp hy]
        exact ha _ (List.getElem_mem hkl)
  · rintro ρ ⟨x4, left, rows, rfl, hl, ha, hb⟩
    refine wp_ret (d := Ls (rows ++ left)) ?_ ⟨rows ++ left, rfl, by rw [List.length_append]; exact hl, fun y hy => (List.mem_append.mp hy).elim (hb y) (ha y)⟩
    have := addL (a := rows.map natD) (b := left.map natD) (by simp; omega)
    simp [this]
end DL
set_option Elab.async false
set_option linter.all false
set_option maxRecDepth 100000
namespace DL
open PySem L2
/-- what is drawn: for some items rows of programs below the count -/
structure Fine (fs : Fd) (count m : Nat) : Prop where
  nd : (fs.map (·.1)).Nodup
  keys : ∀ p ∈ fs, p.1 < m
  len : fs.length ≤ m
  row : ∀ p ∈ fs, p.2 ≠ [] ∧ p.2.length ≤ 8 ∧ ∀ y ∈ p.2, y < count
theorem F__law_drawn_ok {ns : List Int} {count : Nat} {spot : Int} {many : Nat} (hc : count ≤ 8) (hm : many ≤ 2) : ∃ fs : Fd, F__law_drawn [.scr ns, natD count, .int spot, natD many] = .ok (dkD fs) ∧ Fine fs count 6 := by
  unfold F__law_drawn
  refine run_wp (P := fun r => ∃ fs : Fd, r = .ok (dkD fs) ∧ Fine fs count 6) ?_
  obtain ⟨c1, xs1, h1, h2, h3, h4⟩ := F_draw ns (k := 1) (m := 8) (l := 60) (by decide) (by decide) (by decide)
  obtain ⟨w, hw, hwl, hwm⟩ := F__law_shuffled_ok (zs := List.range count) (xs := xs1) (by rw [List.length_range]; omega) (by omega)
  rw [List.length_range] at hwl
  have hwm : ∀ y ∈ w, y < count := fun y hy => List.mem_range.mp (hwm y hy)
  refine wp_seq (wp_asg (d := Ls w) ?_ ?_)
  · have := lrngN (n := count) (by omega)
    simp [this, h1, h2, hw]
  refine wp_seq (wp_asgF (d := dkD []) (by rfl) (by simp) ?_)
  refine wp_seq (wp_for natD (fun pre ρ => ∃ (fs : Fd) (x6 x7 x8 x9 : Option D), ρ = [some (.scr ns), some (natD count), some (.int spot), some (natD many), some (Ls w), some (dkD fs), x6, x7, x8, x9, none, none] ∧ Fine fs count pre.length) (xs := List.range 6) ?_
    ⟨[], none, none, none, none, rfl, ⟨List.nodup_nil, (fun _ h => by cases h), Nat.zero_le _, (fun _ h => by cases h)⟩⟩ ?_ ?_)
  · have := rngN (n := 6) (by decide)
    simp at this
    simp [this]
  · rintro pre k post ρ e ⟨fs, x6, x7, x8, x9, rfl, hF⟩
    have hk6 : pre.length < 6 := by
      have := congrArg List.length e
      simp at this
      omega
    have hk : k = pre.length := by
      have q := congrArg (fun l => l[pre.length]?) e
      simp [hk6] at q
      exact q.symm
    subst hk
    obtain ⟨c2, xs, g1, g2, g3, g4⟩ := F_draw ns (k := 2 + (pre.length : Int)) (m := 19) (l := 60) (by omega) (by decide) (by decide)
    have g3 : xs.length = 19 := g3
    refine ⟨_, rfl, wp_seq (wp_asg (d := .lst (xs.map .int)) ?_ ?_)⟩
    · simp [natD, g1, g2]
    refine wp_seq (wp_asg (d := Ls (w.filter fun y => decide (xs.getD y 0 < 20))) (lc_nats (xs := w) (p := fun y => decide (xs.getD y 0 < 20)) rfl (by omega) (by simp) fun y hy => ?_) ?_)
    · have hy := hwm y hy
      have hyl : y < xs.length := by omega
      have a := atN hyl
      simp [natD, a, List.getD, hyl]
    refine wp_seq (wp_mono (N' := fun ρ => ∃ (r : List Nat), ρ = [some (.scr ns), some (natD count), some (.int spot), some (natD many), some (Ls w), some (dkD fs), some (natD pre.length), some (.lst (xs.map .int)), some (Ls r), x9, none, none] ∧ r.length ≤ 8 ∧ ∀ y ∈ r, y < count) ?_ ?_)
    · have h8 : gIx (.lst (xs.map D.int)) (.int 8) = some (.int (xs[8]'(by omega))) := atN (k := 8) (by omega)
      have hfl : (w.filter fun y => decide (xs.getD y 0 < 20)).length ≤ 8 := by
        have := List.length_filter_le (fun y => decide (xs.getD y 0 < 20)) w
        omega
      have hfm : ∀ y ∈ w.filter fun y => decide (xs.getD y 0 < 20), y < count := fun y hy => hwm y (List.mem_filter.mp hy).1
      refine wp_if (b := decide (xs[8]'(by omega) < 20)) ?_ (fun _ => ?_) fun _ => wp_next ⟨_, rfl, hfl, hfm⟩
      · have h8' : atI (xs.map D.int) 8 = some (.int (xs[8]'(by omega))) := h8
        simp [h8']
      · obtain ⟨r, hr, hrl, hrm⟩ := F__law_shuffled_ok (zs := w.filter fun y => decide (xs.getD y 0 < 20)) (xs := (xs.drop 9).take (17 - 9)) (by omega) (by rw [List.length_take]; omega)
        have cut := cutI (xs := xs) (a := 9) (b := 17) (by omega) (by omega)
        refine wp_asg (d := Ls r) ?_ ⟨r, rfl, by omega, fun y hy => hfm y (hrm y hy)⟩
        have cut : cutG (xs.map D.int) (some 9) (some 17) = ((xs.drop 9).take (17 - 9)).map D.int := cut
        show (fCallN F__law_shuffled _ _) = _
        rw [s_fCallN, s_fCons, s_fCons, s_fNil, s_fSl, s_foSome, s_foSome]
        simp only [s_getES, s_getE0, s_bind_ok, List.set, s_sl_lst, s_ofO_some, cut, hr]
    rintro ρ ⟨r1, rfl, hr1, hr1m⟩
    refine wp_seq (wp_mono (N' := fun ρ => ∃ (r : List Nat) (x9 : Option D), ρ = [some (.scr ns), some (natD count), some (.int spot), some (natD many), some (Ls w), some (dkD fs), some (natD pre.length), some (.lst (xs.map .int)), some (Ls r), x9, none, none] ∧ r.length ≤ 8 ∧ ∀ y ∈ r, y < count) ?_ ?_)
    · refine wp_if (b := decide ((pre.length : Int) = spot)) (by simp [natD]) (fun _ => ?_) fun _ => wp_next ⟨r1, x9, rfl, hr1, hr1m⟩
      have cut := cutI (xs := xs) (a := 17) (b := 17 + many) (by omega) (by omega)
      have hl : ((xs.drop 17).take (17 + many - 17)).length ≤ 1000 := by rw [List.length_take]; omega
      refine wp_seq (wp_asg (d := .lst ((((xs.drop 17).take (17 + many - 17)).map fun x => x % 8).map .int)) (lc_ints (xs := (xs.drop 17).take (17 + many - 17)) ?_ (by omega) fun x hx => ?_) ?_)
      · have cut : cutG (xs.map D.int) (some 17) (some (17 + (many : Int))) = ((xs.drop 17).take (17 + many - 17)).map D.int := cut
        simp [natD, cut]
      · simp [mod_int]
      · refine wp_asg (d := Ls (w.filter fun y => !decide ((y : Int) ∈ ((xs.drop 17).take (17 + many - 17)).map fun x => x % 8))) (lc_nats (xs := w) (p := fun y => !decide ((y : Int) ∈ ((xs.drop 17).take (17 + many - 17)).map fun x => x % 8)) rfl (by omega) (by simp) fun y hy => ?_) ⟨_, _, rfl, ?_, fun y hy => hwm y (List.mem_filter.mp hy).1⟩
        · have := nin_ints (x := (y : Int)) (l := ((xs.drop 17).take (17 + many - 17)).map fun x => x % 8)
          show (fB (fOp (gIn5 true) (fun ρ => getE ρ 10) (fun ρ => getE ρ 9)) _) = _
          rw [s_fB, s_fOp]
          simp only [s_getES, s_getE0, s_bind_ok, List.set, natD, this, s_ofO_some, s_asB]
        · have := List.length_filter_le (fun y : Nat => !decide ((y : Int) ∈ ((xs.drop 17).take (17 + many - 17)).map fun x => x % 8)) w
          omega
    rintro ρ ⟨r, y9, rfl, hr, hrm⟩
    have h17 : atI (xs.map D.int) 17 = some (.int (xs[17]'(by omega))) := atN (k := 17) (by omega)
    have up : Fine fs count (pre ++ [pre.length]).length := by
      rw [List.length_append, List.length_singleton]
      exact ⟨hF.nd, fun p hp => Nat.lt_succ_of_lt (hF.keys p hp), Nat.le_succ_of_le hF.len, hF.row⟩
    refine wp_if (b := !decide (r = []) && (decide ((pre.length : Int) = spot) || decide (xs[17]'(by omega) < 25))) ?_ (fun hb => ?_) fun hb => wp_next ⟨fs, _, _, _, _, rfl, up⟩
    · by_cases q1 : r = []
      · simp [q1, neNil]
      · by_cases q2 : (pre.length : Int) = spot
        · simp [q1, q2, neNil, natD]
        · simp [q1, q2, neNil, natD, h17]
    · rw [Bool.and_eq_true] at hb
      have hne : r ≠ [] := by simpa using hb.1
      have hnew : pre.length ∉ fs.map (·.1) := fun z => by
        obtain ⟨p, hp, e⟩ := List.mem_map.mp z
        have := hF.keys p hp
        omega
      have hfl := hF.len
      refine wp_put (d := T r) (a := natD pre.length) (c := dkD fs) (by simp) rfl rfl (by simp) (put_new hF.nd hnew (by omega)) ⟨fs ++ [(pre.length, r)], _, _, _, _, rfl, ?_⟩
      rw [List.length_append, List.length_singleton]
      refine ⟨?_, fun p hp => ?_, ?_, fun p hp => ?_⟩
      · rw [List.map_append]
        refine List.nodup_append.mpr ⟨hF.nd, by simp, fun a ha b hb e => ?_⟩
        have hb : b ∈ [pre.length] := hb
        rw [List.mem_singleton.mp hb] at e
        exact hnew (e ▸ ha)
      · rcases List.mem_append.mp hp with hp | hp
        · exact Nat.lt_succ_of_lt (hF.keys p hp)
        · rw [List.mem_singleton.mp hp]
          exact Nat.lt_succ_self _
      · rw [List.length_append, List.length_singleton]
        omega
      · rcases List.mem_append.mp hp with hp | hp
        · exact hF.row p hp
        · rw [List.mem_singleton.mp hp]
          exact ⟨hne, hr, hrm⟩
  · rintro ρ ⟨fs, x6, x7, x8, x9, rfl, hF⟩
    exact wp_ret (d := dkD fs) rfl ⟨fs, rfl, by simpa using hF⟩
end DL
set_option Elab.async false
set_option linter.all false
set_option maxRecDepth 100000
namespace DL
open PySem L2
theorem thaw_ints : ∀ xs : List Int, thawL (xs.map D.int) = xs.map D.int
  | [] => rfl
  | x :: xs => by
    show D.int x :: thawL (xs.map D.int) = _
    rw [thaw_ints xs]
    rfl
theorem thawI (xs : List Int) : thawD (.lst (xs.map D.int)) = .lst (xs.map D.int) := by
  show D.lst (thawL _) = _
  rw [thaw_ints]
theorem put_lst {r : List Nat} {k v : Nat} (h : k < r.length) : putD (Ls r) (natD k) (natD v) = some (Ls (r.set k v)) := by
  show (ixN (r.map natD).length (k : Int)).map _ = _
  have e : ixN (r.map natD).length (k : Int) = some k := by
    unfold ixN
    rw [if_pos (by omega), if_pos (by rw [List.length_map]; omega)]
    simp
  rw [e]
  show some (D.lst ((r.map natD).set k (natD v))) = some (D.lst ((r.set k v).map natD))
  rw [List.map_set]
theorem intsOf_map : ∀ xs : List Int, intsOf (xs.map D.int) = some xs
  | [] => rfl
  | x :: xs => by
    show (intsOf (xs.map D.int)).map (x :: ·) = _
    rw [intsOf_map xs]
    rfl
theorem F__law_strange_ok {fs : Fd} {count : Nat} (hF : Fine fs count 6) (hne : fs ≠ []) {xs : List Int} (hx : xs.length = 3) : ∃ fs' : Fd, F__law_strange [dkD fs, natD count, .lst (xs.map .int)] = .ok (dkD fs') ∧ (fs'.map (·.1)).Nodup ∧ (∀ p ∈ fs', p.2.length ≤ 8) ∧ fs'.length ≤ 6 ∧ allIn fs' count = false := by
  unfold F__law_strange
  refine run_wp (P := fun r => ∃ fs' : Fd, r = .ok (dkD fs') ∧ (fs'.map (·.1)).Nodup ∧ (∀ p ∈ fs', p.2.length ≤ 8) ∧ fs'.length ≤ 6 ∧ allIn fs' count = false) ?_
  have hfl := hF.len
  let ks : List Int := fs.map fun p => (p.1 : Int)
  let s := sortI ks
  have hp : s.Perm ks := sortI_perm ks
  have hsl : s.length = fs.length := by rw [hp.length_eq]; exact List.length_map ..
  have hpos : 0 < fs.length := List.length_pos_iff.mpr hne
  refine wp_seq (wp_asg (d := .lst (s.map .int)) ?_ ?_)
  · have lk : fLkE 0 (fLc (fKeys (fun ρ => getE ρ 0)) (gtName 4) fYes (fCB gInt (fCons (fun ρ => getE ρ 4) fNil)) [4]) [some (dkD fs), some (natD count), some (.lst (xs.map .int)), none, none, none, none, none] = .ok (.lst (ks.map .int)) := by
      show thawR (fLc _ _ _ _ _ [some (frzD (dkD fs)), some (natD count), some (.lst (xs.map .int)), none, none, none, none, none]) = _
      rw [frzDk, s_fLc, iterKeys (fs := fs) rfl, s_bind_ok]
      have c := compL_map (ft := gtName 4) (tt := fYes) (fe := fCB gInt (fCons (fun ρ => getE ρ 4) fNil)) (ρ := [some (fkD fs), some (natD count), some (.lst (xs.map .int)), none, none, none, none, none]) (fun p : Nat × List Nat => natD p.1) (fun _ => true) (fun p => D.int (p.1 : Int)) fs fun p hp => ⟨_, rfl, rfl, fun _ => by simp [natD]⟩
      show thawR ((R.ofO (compL _ _ _ [some (fkD fs), some (natD count), some (.lst (xs.map .int)), none, none, none, none, none] _)).bind _) = _
      rw [c, List.filter_eq_self.mpr (fun _ _ => rfl), lc_fin (by rw [List.length_map]; omega)]
      have e : fs.map (fun p => D.int (p.1 : Int)) = ks.map D.int := by
        show _ = (fs.map fun p => (p.1 : Int)).map D.int
        rw [List.map_map]
        rfl
      rw [e]
      show R.ok (thawD (.lst (ks.map D.int))) = _
      rw [thawI]
    show (fCB gSorted _) _ = _
    rw [s_fCB, s_fCons]
    show ((fLkE 0 _ [some (dkD fs), some (natD count), some (.lst (xs.map .int)), none, none, none, none, none]).bind _).bind _ = _
    rw [lk]
    show R.ofO ((intsOf (ks.map D.int)).map fun bs => D.lst ((sortI bs).map .int)) = _
    rw [intsOf_map]
    rfl
  have h0 : atI (xs.map D.int) 0 = some (.int (xs[0]'(by omega))) := atN (k := 0) (by omega)
  have h1 : atI (xs.map D.int) 1 = some (.int (xs[1]'(by omega))) := atN (k := 1) (by omega)
  have h2 : atI (xs.map D.int) 2 = some (.int (xs[2]'(by omega))) := atN (k := 2) (by omega)
  obtain ⟨k, hk, hm⟩ := ixMod (xs := s.map D.int) (m := xs[0]'(by omega)) (by
    intro z
    have := congrArg List.length z
    rw [List.length_map] at this
    simp at this
    rw [this] at hsl
    simp at hsl
    omega)
  rw [List.length_map] at hk hm
  obtain ⟨p, hpm, hpe⟩ : ∃ p ∈ fs, (p.1 : Int) = s[k] := by
    have := hp.mem_iff.mp (List.getElem_mem hk)
    obtain ⟨p, h1, h2⟩ := List.mem_map.mp this
    exact ⟨p, h1, h2⟩
  obtain ⟨item, row⟩ := p
  have hpe : (item : Int) = s[k] := hpe
  have hat := atN hk
  rw [← hpe] at hat
  refine wp_seq (wp_asg (d := natD item) (by simp [h0, hm, hat, natD]) ?_)
  have hix := ixDk hF.nd hpm
  refine wp_seq (wp_asgF (d := Ls row) (by simp [hix]) (by simp) ?_)
  obtain ⟨hrn, hrl, hrm⟩ := hF.row _ hpm
  have hrn : row ≠ [] := hrn
  have hrl : row.length ≤ 8 := hrl
  obtain ⟨j, hj, hjm⟩ := ixMod (xs := row.map natD) (m := xs[1]'(by omega)) (by simpa using hrn)
  rw [List.length_map] at hj hjm
  have hv : (xs[2]'(by omega)) % 4 = ((((xs[2]'(by omega)) % 4).toNat : Nat) : Int) := by
    have := Int.emod_nonneg (xs[2]'(by omega)) (show (4 : Int) ≠ 0 by decide)
    omega
  refine wp_seq (wp_put (d := natD (count + ((xs[2]'(by omega)) % 4).toNat)) (a := natD j) (c := Ls row) (c' := Ls (row.set j (count + ((xs[2]'(by omega)) % 4).toNat))) ?_ rfl rfl ?_ (put_lst hj) ?_)
  · simp [h2, mod_int, natD]
    omega
  · simp [h1, hjm, natD]
  generalize hw : count + ((xs[2]'(by omega)) % 4).toNat = v
  have hcv : count ≤ v := by omega
  refine wp_seq (wp_asgF (d := dkD []) (by rfl) (by simp) ?_)
  refine wp_seq (wp_lk (fs := fs) rfl ?_)
  refine wp_for (fun p : Nat × List Nat => natD p.1) (fun pre ρ => ∃ x7 : Option D, ρ = [some (fkD fs), some (natD count), some (.lst (xs.map .int)), some (.lst (s.map .int)), some (natD item), some (Ls (row.set j v)), some (dkD pre), x7]) (xs := fs) (iterKeys rfl) ⟨none, rfl⟩ ?_ ?_
  · rintro pre ⟨k', r'⟩ post ρ e ⟨x7, rfl⟩
    have hm' : (k', r') ∈ fs := by rw [e]; simp
    have g := ixFk hF.nd hm'
    have hnd := hF.nd
    rw [e, List.map_append] at hnd
    obtain ⟨n1, n2, n3⟩ := List.nodup_append.mp hnd
    have hout : k' ∉ pre.map (·.1) := fun z => n3 _ z k' (by simp) rfl
    have hpl : pre.length ≤ 1000 := by
      have := congrArg List.length e
      simp at this
      omega
    exact ⟨_, rfl, wp_put (d := T r') (a := natD k') (c := dkD pre) (by simp [g]) rfl rfl (by simp) (put_new n1 hout hpl) ⟨_, rfl⟩⟩
  · rintro ρ ⟨x7, rfl⟩
    refine ⟨rfl, ?_⟩
    have hth : (List.map (Option.map thawD) [some (fkD fs), some (natD count), some (.lst (xs.map .int)), some (.lst (s.map .int)), some (natD item), some (Ls (row.set j v)), some (dkD fs), x7]) = [some (dkD fs), some (natD count), some (.lst (xs.map .int)), some (.lst (s.map .int)), some (natD item), some (Ls (row.set j v)), some (dkD fs), x7.map thawD] := by
      simp only [List.map_cons, List.map_nil, Option.map_some, thawFk, thawDk, thawI, thawLs]
      rfl
    rw [hth]
    refine wp_seq (wp_put (d := T (row.set j v)) (a := natD item) (c := dkD fs) (by simp) rfl rfl (by simp) (put_old hF.nd (List.mem_map_of_mem (f := (·.1)) hpm) (by omega)) ?_)
    refine wp_ret (d := dkD (setR fs item (row.set j v))) rfl ⟨setR fs item (row.set j v), rfl, ?_, ?_, ?_, ?_⟩
    · have : (setR fs item (row.set j v)).map (·.1) = fs.map (·.1) := by
        unfold setR
        rw [List.map_map]
        refine List.map_congr_left fun p _ => ?_
        show (if p.1 = item then (p.1, row.set j v) else p).1 = p.1
        split <;> rfl
      rw [this]
      exact hF.nd
    · intro p hp
      obtain ⟨q, hq, rfl⟩ := List.mem_map.mp hp
      show (if q.1 = item then (q.1, row.set j v) else q).2.length ≤ 8
      split
      · rw [List.length_set]
        exact hrl
      · exact (hF.row q hq).2.1
    · show (fs.map _).length ≤ 6
      rw [List.length_map]
      exact hF.len
    · refine Bool.eq_false_iff.mpr fun z => ?_
      have hin : (item, row.set j v) ∈ setR fs item (row.set j v) := List.mem_map.mpr ⟨(item, row), hpm, if_pos rfl⟩
      have := List.all_eq_true.mp (List.all_eq_true.mp z _ hin) v (by
        have hjl : j < (row.set j v).length := by rw [List.length_set]; exact hj
        have := List.getElem_mem hjl
        rwa [List.getElem_set_self] at this)
      have := of_decide_eq_true this
      omega
end DL
set_option Elab.async false
set_option linter.all false
set_option maxRecDepth 100000
namespace DL
open PySem L2
theorem eqv_nats : ∀ xs : List Nat, PyData.eqvAll (D.pdL (xs.map natD)) (D.pdL (xs.map natD)) = true
  | [] => by simp [D.pdL, PyData.eqvAll]
  | x :: xs => by
    have := eqv_nats xs
    simp [D.pdL, PyData.eqvAll, natD, D.pd, PyData.eqv, this]
theorem deqT (r : List Nat) : deq (T r) (T r) = true := by
  show PyData.eqv (.tuple (D.pdL (r.map natD))) (.tuple (D.pdL (r.map natD))) = true
  simp [PyData.eqv, eqv_nats]
theorem hits_self {fs : Fd} (hn : (fs.map (·.1)).Nodup) : ∀ sub : Fd, (∀ p ∈ sub, p ∈ fs) → hitsD (fs.map fun p => kyD p.1) (fs.map fun p => T p.2) (sub.map fun p => kyD p.1) (sub.map fun p => T p.2) = true
  | [], _ => rfl
  | (k, r) :: sub, h => by
    show ((match lookD (fs.map fun p => kyD p.1) (fs.map fun p => T p.2) (kyD k) with | some v' => deq (T r) v' | none => false) && hitsD _ _ (sub.map fun p => kyD p.1) (sub.map fun p => T p.2)) = true
    rw [look_fd hn (h _ List.mem_cons_self), hits_self hn sub fun p hp => h p (List.mem_cons_of_mem _ hp)]
    show (deq (T r) (T r) && true) = true
    rw [deqT]
    rfl
theorem data_Ts (n : Nat) : ∀ fs : Fd, isDataL (n + 1) (fs.map fun p => T p.2) = true
  | [] => rfl
  | p :: fs => by
    rw [List.map_cons]
    unfold isDataL
    rw [data_Ts n fs]
    show (isDataL n (p.2.map natD) && true) = true
    rw [nats_data]
    rfl
theorem eqK_self {fs : Fd} (hn : (fs.map (·.1)).Nodup) : gEqK (dkD fs) (dkD fs) = some (.bl true) := by
  show (if isDataL 59 _ = true ∧ isDataL 59 _ = true then some (D.bl (eqDk _ _ _ _)) else none) = _
  rw [if_pos ⟨data_Ts 58 fs, data_Ts 58 fs⟩]
  unfold eqDk
  rw [hits_self hn fs fun _ h => h]
  simp
theorem neK_nil (fs : Fd) : gNeK (dkD fs) (.dk [] []) = some (.bl (!decide (fs = []))) := by
  show (if isDataL 59 _ = true ∧ isDataL 59 [] = true then some (D.bl (!eqDk _ _ _ _)) else none) = _
  rw [if_pos ⟨data_Ts 58 fs, rfl⟩]
  cases fs with
  | nil => rfl
  | cons p fs => simp [eqDk]
theorem same_Ts {l : List (List Nat)} (h : l.length < 1000000) (hl : ∀ r ∈ l, r.length < 1000000) : F__law_same 4 [.lst (l.map T), .lst (l.map T)] = .ok (.bl true) := by
  refine same_lst (by rw [List.length_map]; exact h) fun d hd => ?_
  obtain ⟨r, hr, rfl⟩ := List.mem_map.mp hd
  refine same_tup (by rw [List.length_map]; exact hl r hr) fun d hd => ?_
  obtain ⟨x, _, rfl⟩ := List.mem_map.mp hd
  exact same_int
theorem ords_row (fs : Fd) : ∀ (n : Nat) (left done : List Nat), ∀ r ∈ ords fs n left done, r.length ≤ done.length + n
  | 0, _, _, r, h => by cases h
  | n + 1, left, done, r, h => by
    unfold ords at h
    rcases List.mem_append.mp h with h | h
    · split at h
      · rw [List.mem_singleton.mp h]
        omega
      · cases h
    · obtain ⟨i, _, h⟩ := List.mem_flatMap.mp h
      split at h
      · have := ords_row fs n _ _ r h
        rw [List.length_append, List.length_singleton] at this
        omega
      · cases h
theorem pick {x : Int} (h : 0 ≤ x ∧ x < 12) : ∃ c : Nat, c ≤ 8 ∧ atI [D.int 2, .int 3, .int 4, .int 5, .int 6, .int 7, .int 8, .int 1, .int 0, .int 6, .int 7, .int 8] x = some (natD c) := by
  rw [atI_get? h.1]
  have : x = 0 ∨ x = 1 ∨ x = 2 ∨ x = 3 ∨ x = 4 ∨ x = 5 ∨ x = 6 ∨ x = 7 ∨ x = 8 ∨ x = 9 ∨ x = 10 ∨ x = 11 := by omega
  rcases this with rfl | rfl | rfl | rfl | rfl | rfl | rfl | rfl | rfl | rfl | rfl | rfl
  · exact ⟨2, by decide, rfl⟩
  · exact ⟨3, by decide, rfl⟩
  · exact ⟨4, by decide, rfl⟩
  · exact ⟨5, by decide, rfl⟩
  · exact ⟨6, by decide, rfl⟩
  · exact ⟨7, by decide, rfl⟩
  · exact ⟨8, by decide, rfl⟩
  · exact ⟨1, by decide, rfl⟩
  · exact ⟨0, by decide, rfl⟩
  · exact ⟨6, by decide, rfl⟩
  · exact ⟨7, by decide, rfl⟩
  · exact ⟨8, by decide, rfl⟩
theorem main (ns : List Int) (_h : ns.length ≤ 63) : F_law [.scr ns] = .ok (.bl true) := by
  unfold F_law
  refine run_wp (P := fun r => r = .ok (.bl true)) ?_
  obtain ⟨c0, xs, a1, a2, a3, a4⟩ := F_draw ns (k := 0) (m := 6) (l := 12) (by decide) (by decide) (by decide)
  have a3 : xs.length = 6 := a3
  refine wp_seq (wp_asg (d := .lst (xs.map .int)) (by simp [a1, a2]) ?_)
  have h0 : atI (xs.map D.int) 0 = some (.int (xs[0]'(by omega))) := atN (k := 0) (by omega)
  have h1 : atI (xs.map D.int) 1 = some (.int (xs[1]'(by omega))) := atN (k := 1) (by omega)
  have h2 : atI (xs.map D.int) 2 = some (.int (xs[2]'(by omega))) := atN (k := 2) (by omega)
  have h5 : atI (xs.map D.int) 5 = some (.int (xs[5]'(by omega))) := atN (k := 5) (by omega)
  obtain ⟨count, hc, hpick⟩ := pick (a4 _ (List.getElem_mem (show 0 < xs.length by omega)))
  refine wp_seq (wp_asg (d := natD count) ?_ ?_)
  · show (fOp gIx _ _) _ = _
    rw [s_fOp, s_fLst]
    simp only [s_fCons, s_fNil, s_bind_ok]
    rw [lenOkM (by decide), s_bind_ok, s_fOp]
    simp only [List.set, s_getES, s_getE0, s_bind_ok, s_ix_lst, List.map_cons, List.map_nil, List.replicate, h0, s_ofO_some, hpick, List.cons_append, List.nil_append, Nat.reduceSub]
  have hmany : (xs[5]'(by omega)) % (3 : Int) = ((((xs[5]'(by omega)) % (3 : Int)).toNat : Nat) : Int) := by
    have := Int.emod_nonneg (xs[5]'(by omega)) (show (3 : Int) ≠ 0 by decide)
    omega
  have hmany2 : ((xs[5]'(by omega)) % 3).toNat ≤ 2 := by
    have := Int.emod_lt_of_pos (xs[5]'(by omega)) (show (0 : Int) < 3 by decide)
    omega
  obtain ⟨fs, hfs, hF⟩ := F__law_drawn_ok (ns := ns) (count := count) (spot := (xs[1]'(by omega)) % 6) (many := ((xs[5]'(by omega)) % 3).toNat) hc hmany2
  have hfs : F__law_drawn [.scr ns, natD count, .int ((xs[1]'(by omega)) % 6), .int ((xs[5]'(by omega)) % 3)] = .ok (dkD fs) := by
    rw [hmany]
    exact hfs
  refine wp_seq (wp_asg (d := dkD fs) (by simp [h1, h5, mod_int, hfs]) ?_)
  have hfl := hF.len
  refine wp_seq (wp_asg (d := .bl (decide ((xs[2]'(by omega)) < 3) && !decide (fs = []))) ?_ ?_)
  · by_cases q : (xs[2]'(by omega)) < 3
    · simp [h2, q, neK_nil]
    · simp [h2, q]
  generalize hb : (decide ((xs[2]'(by omega)) < 3) && !decide (fs = [])) = b
  refine wp_seq (wp_mono (N' := fun ρ => ∃ fs2 : Fd, ρ = [some (.scr ns), some (.lst (xs.map .int)), some (natD count), some (dkD fs2), some (.bl b), none, none, none] ∧ (fs2.map (·.1)).Nodup ∧ (∀ p ∈ fs2, p.2.length ≤ 8) ∧ fs2.length ≤ 6 ∧ allIn fs2 count = !b) ?_ ?_)
  · refine wp_if (b := b) rfl (fun hbt => ?_) fun hbf => wp_next ⟨fs, rfl, hF.nd, fun p hp => (hF.row p hp).2.1, hF.len, ?_⟩
    · have hne : fs ≠ [] := by
        rw [hbt, Bool.and_eq_true] at hb
        simpa using hb.2
      obtain ⟨fs2, e1, e2, e3, e4, e5⟩ := F__law_strange_ok hF hne (xs := xs.drop 3) (by rw [List.length_drop]; omega)
      refine wp_asg (d := dkD fs2) ?_ ⟨fs2, rfl, e2, e3, e4, by rw [e5, hbt]; rfl⟩
      have cd : cutG (xs.map D.int) (some 3) none = (xs.drop 3).map D.int := by
        have := cut_drop (xs := xs.map D.int) (n := 3) (by rw [List.length_map]; omega)
        rw [List.map_drop]
        exact this
      show (_ : DL.Env → R D) [some (.scr ns), some (.lst (xs.map .int)), some (natD count), some (dkD fs), some (.bl b), none, none, none] = _
      rw [s_fCallN, s_fCons, s_fCons, s_fCons, s_fNil, s_fSl, s_foSome, s_foNone]
      simp only [s_getES, s_getE0, s_bind_ok, List.set, s_sl_lst, s_ofO_some, cd, e1]
    · rw [hbf]
      refine List.all_eq_true.mpr fun p hp => List.all_eq_true.mpr fun y hy => decide_eq_true ((hF.row p hp).2.2 y hy)
  rintro ρ ⟨fs2, rfl, d1, d2, d3, d4⟩
  refine wp_seq (wp_asgF (d := dkD []) (by rfl) (by simp) ?_)
  refine wp_seq (wp_lk (fs := fs2) rfl ?_)
  refine wp_for (fun p : Nat × List Nat => natD p.1) (fun pre ρ => ∃ x6 : Option D, ρ = [some (.scr ns), some (.lst (xs.map .int)), some (natD count), some (fkD fs2), some (.bl b), some (dkD pre), x6, none]) (xs := fs2) (iterKeys rfl) ⟨none, rfl⟩ ?_ ?_
  · rintro pre ⟨k', r'⟩ post ρ e ⟨x6, rfl⟩
    have hm' : (k', r') ∈ fs2 := by rw [e]; simp
    have g := ixFk d1 hm'
    have hnd := d1
    rw [e, List.map_append] at hnd
    obtain ⟨n1, n2, n3⟩ := List.nodup_append.mp hnd
    have hout : k' ∉ pre.map (·.1) := fun z => n3 _ z k' (by simp) rfl
    have hpl : pre.length ≤ 1000 := by
      have := congrArg List.length e
      simp at this
      omega
    exact ⟨_, rfl, wp_put (d := T r') (a := natD k') (c := dkD pre) (by simp [g]) rfl rfl (by simp) (put_new n1 hout hpl) ⟨_, rfl⟩⟩
  rintro ρ ⟨x6, rfl⟩
  refine ⟨rfl, ?_⟩
  have hth : (List.map (Option.map thawD) [some (.scr ns), some (.lst (xs.map .int)), some (natD count), some (fkD fs2), some (.bl b), some (dkD fs2), x6, none]) = [some (.scr ns), some (.lst (xs.map .int)), some (natD count), some (dkD fs2), some (.bl b), some (dkD fs2), x6.map thawD, none] := by
    simp only [List.map_cons, List.map_nil, Option.map_some, thawFk, thawDk, thawI]
    rfl
  rw [hth]
  generalize x6.map thawD = y6
  let out : List (List Nat) := if allIn fs2 count = true then ords fs2 10 (List.range count) [] else []
  have hz2 : ∀ p ∈ fs2, p.2.length ≤ 1000 := fun p hp => by have := d2 p hp; omega
  refine wp_seq (wp_asg (d := .lst []) (by simp) ?_)
  refine wp_seq (wp_mono (N' := fun ρ => ρ = [some (.scr ns), some (.lst (xs.map .int)), some (natD count), some (dkD fs2), some (.bl b), some (dkD fs2), y6, some (.lst (out.map T))]) ?_ ?_)
  · refine wp_if (b := !b) rfl (fun hbt => ?_) fun hbf => wp_next ?_
    · have hall : allIn fs2 count = true := by rw [d4, hbt]
      have ho := F__law_orders_ok d1 hz2 9 (List.range count) [] (by rw [List.length_range]; omega) (by rw [List.length_range]; omega) (by rw [List.length_range]; simp; omega)
      have hrg := lrngN (n := count) (by omega)
      refine wp_asg (d := .lst ((ords fs2 10 (List.range count) []).map T)) ?_ ?_
      · have ho : F__law_orders 10 [dkD fs2, Ls (List.range count), .tup []] = .ok (.lst ((ords fs2 10 (List.range count) []).map T)) := ho
        simp [hrg, ho]
      · show _ = _
        have : out = ords fs2 10 (List.range count) [] := if_pos hall
        rw [this]
        rfl
    · have hall : allIn fs2 count = false := by rw [d4, hbf]
      have : out = [] := if_neg (by rw [hall]; simp)
      rw [this]
      rfl
  rintro ρ rfl
  have hol : out.length ≤ 40320 := by
    show (if allIn fs2 count = true then ords fs2 10 (List.range count) [] else []).length ≤ _
    split
    · refine Nat.le_trans (ords_len fs2 10 _ _) (fact8 ?_)
      rw [List.length_range]
      exact hc
    · exact Nat.zero_le _
  have hor : ∀ r ∈ out, r.length < 1000000 := fun r hr => by
    have hr : r ∈ (if allIn fs2 count = true then ords fs2 10 (List.range count) [] else []) := hr
    split at hr
    · have := ords_row fs2 10 _ _ r hr
      simp at this
      omega
    · cases hr
  have hs := F_serial_orders_ok d1 hz2 (by omega) hc
  have hlist : fListN F_serial_orders (fCons (fun ρ => getE ρ 5) (fCons (fun ρ => getE ρ 2) fNil)) [some (.scr ns), some (.lst (xs.map .int)), some (natD count), some (dkD fs2), some (.bl b), some (dkD fs2), y6, some (.lst (out.map T))] = .ok (.lst (out.map T)) := by
    unfold fListN
    rw [s_fCons, s_fCons, s_fNil]
    simp only [s_getES, s_getE0, s_bind_ok]
    rw [hs]
    show lenOk (out.map T) (.ok (.lst (out.map T))) = _
    exact lenOkM (by rw [List.length_map]; omega)
  refine wp_seq (wp_ret (d := .bl true) ?_ rfl)
  rw [s_fAndV, s_fCallN, s_fCons, hlist]
  have hsame := same_Ts (l := out) (by omega) hor
  simp only [s_fCons, s_fNil, s_getES, s_getE0, s_bind_ok, hsame, s_asB, if_true, s_fOp, eqK_self d1, s_ofO_some]
end DL
set_option Elab.async false
set_option linter.all false
set_option maxRecDepth 100000
namespace DL
open PySem PySem.Spec PyProof.Rows L2

theorem all_mk {w : World} {K : PySem.W.Frag} {h : Heap} {mg : Str → Option Value} {fa : Addr} {f_comes_first : Addr} {od_comes_first an_comes_first : Option Addr} {sl_comes_first : Array (Option Value)} {oc_comes_first kV_comes_first dc_comes_first pm_comes_first cd_comes_first ct_comes_first : Value}
    {f_ordered : Addr} {od_ordered an_ordered : Option Addr} {sl_ordered : Array (Option Value)} {oc_ordered kV_ordered dc_ordered pm_ordered cd_ordered ct_ordered : Value}
    {f_serial_orders : Addr} {od_serial_orders an_serial_orders : Option Addr} {sl_serial_orders : Array (Option Value)} {oc_serial_orders kV_serial_orders dc_serial_orders pm_serial_orders cd_serial_orders ct_serial_orders : Value}
    {f__law_same : Addr} {od__law_same an__law_same : Option Addr} {sl__law_same : Array (Option Value)} {oc__law_same kV__law_same dc__law_same pm__law_same cd__law_same ct__law_same : Value}
    {f__law_ready : Addr} {od__law_ready an__law_ready : Option Addr} {sl__law_ready : Array (Option Value)} {oc__law_ready kV__law_ready dc__law_ready pm__law_ready cd__law_ready ct__law_ready : Value}
    {f__law_orders : Addr} {od__law_orders an__law_orders : Option Addr} {sl__law_orders : Array (Option Value)} {oc__law_orders kV__law_orders dc__law_orders pm__law_orders cd__law_orders ct__law_orders : Value}
    {f__law_strange : Addr} {od__law_strange an__law_strange : Option Addr} {sl__law_strange : Array (Option Value)} {oc__law_strange kV__law_strange dc__law_strange pm__law_strange cd__law_strange ct__law_strange : Value}
    {f__law_cell : Addr} {od__law_cell an__law_cell : Option Addr} {sl__law_cell : Array (Option Value)} {oc__law_cell kV__law_cell dc__law_cell pm__law_cell cd__law_cell ct__law_cell : Value}
    {f__law_numbers : Addr} {od__law_numbers an__law_numbers : Option Addr} {sl__law_numbers : Array (Option Value)} {oc__law_numbers kV__law_numbers dc__law_numbers pm__law_numbers cd__law_numbers ct__law_numbers : Value}
    {f__law_shuffled : Addr} {od__law_shuffled an__law_shuffled : Option Addr} {sl__law_shuffled : Array (Option Value)} {oc__law_shuffled kV__law_shuffled dc__law_shuffled pm__law_shuffled cd__law_shuffled ct__law_shuffled : Value}
    {f__law_drawn : Addr} {od__law_drawn an__law_drawn : Option Addr} {sl__law_drawn : Array (Option Value)} {oc__law_drawn kV__law_drawn dc__law_drawn pm__law_drawn cd__law_drawn ct__law_drawn : Value}
    {f_law : Addr} {od_law an_law : Option Addr} {sl_law : Array (Option Value)} {oc_law kV_law dc_law pm_law cd_law ct_law : Value} (X : K.In h) (G : h.Ns mainGlobals mg) (hfa : mg "law" = some (.ref fa))
    (a_comes_first : PySem.W.nsIn K mainGlobals "comes_first" = some (some (.ref f_comes_first)))
    (l_comes_first : K.lookup f_comes_first = some ⟨oc_comes_first, od_comes_first, .func (PySem.W.fnOf "comes_first" "comes_first" (defArgs s_comes_first) (defBody s_comes_first) (defScope s_comes_first) .none kV_comes_first dc_comes_first pm_comes_first an_comes_first cd_comes_first ct_comes_first), sl_comes_first⟩)
    (c_comes_first : PySem.W.codeIn K cd_comes_first "comes_first" = true)
    (k_comes_first : PySem.W.keepIn K (.ref f_comes_first) = true)
    (a_ordered : PySem.W.nsIn K mainGlobals "ordered" = some (some (.ref f_ordered)))
    (l_ordered : K.lookup f_ordered = some ⟨oc_ordered, od_ordered, .func (PySem.W.fnOf "ordered" "ordered" (defArgs s_ordered) (defBody s_ordered) (defScope s_ordered) .none kV_ordered dc_ordered pm_ordered an_ordered cd_ordered ct_ordered), sl_ordered⟩)
    (c_ordered : PySem.W.codeIn K cd_ordered "ordered" = true)
    (k_ordered : PySem.W.keepIn K (.ref f_ordered) = true)
    (a_serial_orders : PySem.W.nsIn K mainGlobals "serial_orders" = some (some (.ref f_serial_orders)))
    (l_serial_orders : K.lookup f_serial_orders = some ⟨oc_serial_orders, od_serial_orders, .func (PySem.W.fnOf "serial_orders" "serial_orders" (defArgs s_serial_orders) (defBody s_serial_orders) (defScope s_serial_orders) .none kV_serial_orders dc_serial_orders pm_serial_orders an_serial_orders cd_serial_orders ct_serial_orders), sl_serial_orders⟩)
    (c_serial_orders : PySem.W.codeIn K cd_serial_orders "serial_orders" = true)
    (k_serial_orders : PySem.W.keepIn K (.ref f_serial_orders) = true)
    (a__law_same : PySem.W.nsIn K mainGlobals "_law_same" = some (some (.ref f__law_same)))
    (l__law_same : K.lookup f__law_same = some ⟨oc__law_same, od__law_same, .func (PySem.W.fnOf "_law_same" "_law_same" (defArgs s__law_same) (defBody s__law_same) (defScope s__law_same) .none kV__law_same dc__law_same pm__law_same an__law_same cd__law_same ct__law_same), sl__law_same⟩)
    (c__law_same : PySem.W.codeIn K cd__law_same "_law_same" = true)
    (k__law_same : PySem.W.keepIn K (.ref f__law_same) = true)
    (a__law_ready : PySem.W.nsIn K mainGlobals "_law_ready" = some (some (.ref f__law_ready)))
    (l__law_ready : K.lookup f__law_ready = some ⟨oc__law_ready, od__law_ready, .func (PySem.W.fnOf "_law_ready" "_law_ready" (defArgs s__law_ready) (defBody s__law_ready) (defScope s__law_ready) .none kV__law_ready dc__law_ready pm__law_ready an__law_ready cd__law_ready ct__law_ready), sl__law_ready⟩)
    (c__law_ready : PySem.W.codeIn K cd__law_ready "_law_ready" = true)
    (k__law_ready : PySem.W.keepIn K (.ref f__law_ready) = true)
    (a__law_orders : PySem.W.nsIn K mainGlobals "_law_orders" = some (some (.ref f__law_orders)))
    (l__law_orders : K.lookup f__law_orders = some ⟨oc__law_orders, od__law_orders, .func (PySem.W.fnOf "_law_orders" "_law_orders" (defArgs s__law_orders) (defBody s__law_orders) (defScope s__law_orders) .none kV__law_orders dc__law_orders pm__law_orders an__law_orders cd__law_orders ct__law_orders), sl__law_orders⟩)
    (c__law_orders : PySem.W.codeIn K cd__law_orders "_law_orders" = true)
    (k__law_orders : PySem.W.keepIn K (.ref f__law_orders) = true)
    (a__law_strange : PySem.W.nsIn K mainGlobals "_law_strange" = some (some (.ref f__law_strange)))
    (l__law_strange : K.lookup f__law_strange = some ⟨oc__law_strange, od__law_strange, .func (PySem.W.fnOf "_law_strange" "_law_strange" (defArgs s__law_strange) (defBody s__law_strange) (defScope s__law_strange) .none kV__law_strange dc__law_strange pm__law_strange an__law_strange cd__law_strange ct__law_strange), sl__law_strange⟩)
    (c__law_strange : PySem.W.codeIn K cd__law_strange "_law_strange" = true)
    (k__law_strange : PySem.W.keepIn K (.ref f__law_strange) = true)
    (a__law_cell : PySem.W.nsIn K mainGlobals "_law_cell" = some (some (.ref f__law_cell)))
    (l__law_cell : K.lookup f__law_cell = some ⟨oc__law_cell, od__law_cell, .func (PySem.W.fnOf "_law_cell" "_law_cell" (defArgs s__law_cell) (defBody s__law_cell) (defScope s__law_cell) .none kV__law_cell dc__law_cell pm__law_cell an__law_cell cd__law_cell ct__law_cell), sl__law_cell⟩)
    (c__law_cell : PySem.W.codeIn K cd__law_cell "_law_cell" = true)
    (k__law_cell : PySem.W.keepIn K (.ref f__law_cell) = true)
    (a__law_numbers : PySem.W.nsIn K mainGlobals "_law_numbers" = some (some (.ref f__law_numbers)))
    (l__law_numbers : K.lookup f__law_numbers = some ⟨oc__law_numbers, od__law_numbers, .func (PySem.W.fnOf "_law_numbers" "_law_numbers" (defArgs s__law_numbers) (defBody s__law_numbers) (defScope s__law_numbers) .none kV__law_numbers dc__law_numbers pm__law_numbers an__law_numbers cd__law_numbers ct__law_numbers), sl__law_numbers⟩)
    (c__law_numbers : PySem.W.codeIn K cd__law_numbers "_law_numbers" = true)
    (k__law_numbers : PySem.W.keepIn K (.ref f__law_numbers) = true)
    (a__law_shuffled : PySem.W.nsIn K mainGlobals "_law_shuffled" = some (some (.ref f__law_shuffled)))
    (l__law_shuffled : K.lookup f__law_shuffled = some ⟨oc__law_shuffled, od__law_shuffled, .func (PySem.W.fnOf "_law_shuffled" "_law_shuffled" (defArgs s__law_shuffled) (defBody s__law_shuffled) (defScope s__law_shuffled) .none kV__law_shuffled dc__law_shuffled pm__law_shuffled an__law_shuffled cd__law_shuffled ct__law_shuffled), sl__law_shuffled⟩)
    (c__law_shuffled : PySem.W.codeIn K cd__law_shuffled "_law_shuffled" = true)
    (k__law_shuffled : PySem.W.keepIn K (.ref f__law_shuffled) = true)
    (a__law_drawn : PySem.W.nsIn K mainGlobals "_law_drawn" = some (some (.ref f__law_drawn)))
    (l__law_drawn : K.lookup f__law_drawn = some ⟨oc__law_drawn, od__law_drawn, .func (PySem.W.fnOf "_law_drawn" "_law_drawn" (defArgs s__law_drawn) (defBody s__law_drawn) (defScope s__law_drawn) .none kV__law_drawn dc__law_drawn pm__law_drawn an__law_drawn cd__law_drawn ct__law_drawn), sl__law_drawn⟩)
    (c__law_drawn : PySem.W.codeIn K cd__law_drawn "_law_drawn" = true)
    (k__law_drawn : PySem.W.keepIn K (.ref f__law_drawn) = true)
    (a_law : PySem.W.nsIn K mainGlobals "law" = some (some (.ref f_law)))
    (l_law : K.lookup f_law = some ⟨oc_law, od_law, .func (PySem.W.fnOf "law" "law" (defArgs s_law) (defBody s_law) (defScope s_law) .none kV_law dc_law pm_law an_law cd_law ct_law), sl_law⟩)
    (c_law : PySem.W.codeIn K cd_law "law" = true)
    (k_law : PySem.W.keepIn K (.ref f_law) = true)
    (z_all : PySem.W.nsIn K mainGlobals "all" = some none)
    (z_bool : PySem.W.nsIn K mainGlobals "bool" = some none)
    (z_int : PySem.W.nsIn K mainGlobals "int" = some none)
    (z_isinstance : PySem.W.nsIn K mainGlobals "isinstance" = some none)
    (z_len : PySem.W.nsIn K mainGlobals "len" = some none)
    (z_list : PySem.W.nsIn K mainGlobals "list" = some none)
    (z_range : PySem.W.nsIn K mainGlobals "range" = some none)
    (z_sorted : PySem.W.nsIn K mainGlobals "sorted" = some none)
    (z_str : PySem.W.nsIn K mainGlobals "str" = some none)
    (z_tuple : PySem.W.nsIn K mainGlobals "tuple" = some none) :
    ∃ fd : FuncData, (∀ (s : Shared) (v : Value), BindsTo s fd ⟨[v], []⟩ [("script", v)]) ∧ ∀ base : Heap, K.In base → base.Ns mainGlobals mg → GX.FnL PySem.Challenge.pw_lockrules_k60_serial_orders_of_more w K mg base (L2.CX PySem.Challenge.pw_lockrules_k60_serial_orders_of_more w) 40 fa fd ["script"] (spD K 1 F_law) := by
  have e := hfa.symm.trans (PySem.W.mg_of X G a_law)
  cases e
  have T : Txt mg := ⟨PySem.W.mg_none_of X G z_all, PySem.W.mg_none_of X G z_bool, PySem.W.mg_none_of X G z_int, PySem.W.mg_none_of X G z_isinstance, PySem.W.mg_none_of X G z_len, PySem.W.mg_none_of X G z_list, PySem.W.mg_none_of X G z_range, PySem.W.mg_none_of X G z_sorted, PySem.W.mg_none_of X G z_str, PySem.W.mg_none_of X G z_tuple⟩
  have n_comes_first := fun_mk (st := s_comes_first) l_comes_first c_comes_first k_comes_first
  have b_comes_first := n_comes_first.binds (ps := ["result", "index", "left"]) fun _ _ _ _ _ _ us hl => match us, hl with | [_, _, _], _ => rfl
  have n_ordered := fun_mk (st := s_ordered) l_ordered c_ordered k_ordered
  have b_ordered := n_ordered.binds (ps := ["result", "left", "done"]) fun _ _ _ _ _ _ us hl => match us, hl with | [_, _, _], _ => rfl
  have n_serial_orders := fun_mk (st := s_serial_orders) l_serial_orders c_serial_orders k_serial_orders
  have b_serial_orders := n_serial_orders.binds (ps := ["result", "count"]) fun _ _ _ _ _ _ us hl => match us, hl with | [_, _], _ => rfl
  have n__law_same := fun_mk (st := s__law_same) l__law_same c__law_same k__law_same
  have b__law_same := n__law_same.binds (ps := ["actual", "due"]) fun _ _ _ _ _ _ us hl => match us, hl with | [_, _], _ => rfl
  have n__law_ready := fun_mk (st := s__law_ready) l__law_ready c__law_ready k__law_ready
  have b__law_ready := n__law_ready.binds (ps := ["found", "index", "left"]) fun _ _ _ _ _ _ us hl => match us, hl with | [_, _, _], _ => rfl
  have n__law_orders := fun_mk (st := s__law_orders) l__law_orders c__law_orders k__law_orders
  have b__law_orders := n__law_orders.binds (ps := ["found", "left", "done"]) fun _ _ _ _ _ _ us hl => match us, hl with | [_, _, _], _ => rfl
  have n__law_strange := fun_mk (st := s__law_strange) l__law_strange c__law_strange k__law_strange
  have b__law_strange := n__law_strange.binds (ps := ["found", "count", "numbers"]) fun _ _ _ _ _ _ us hl => match us, hl with | [_, _, _], _ => rfl
  have n__law_cell := fun_mk (st := s__law_cell) l__law_cell c__law_cell k__law_cell
  have b__law_cell := n__law_cell.binds (ps := ["script", "k"]) fun _ _ _ _ _ _ us hl => match us, hl with | [_, _], _ => rfl
  have n__law_numbers := fun_mk (st := s__law_numbers) l__law_numbers c__law_numbers k__law_numbers
  have b__law_numbers := n__law_numbers.binds (ps := ["cell", "many", "limit"]) fun _ _ _ _ _ _ us hl => match us, hl with | [_, _, _], _ => rfl
  have n__law_shuffled := fun_mk (st := s__law_shuffled) l__law_shuffled c__law_shuffled k__law_shuffled
  have b__law_shuffled := n__law_shuffled.binds (ps := ["row", "numbers"]) fun _ _ _ _ _ _ us hl => match us, hl with | [_, _], _ => rfl
  have n__law_drawn := fun_mk (st := s__law_drawn) l__law_drawn c__law_drawn k__law_drawn
  have b__law_drawn := n__law_drawn.binds (ps := ["script", "count", "spot", "many"]) fun _ _ _ _ _ _ us hl => match us, hl with | [_, _, _, _], _ => rfl
  have n_law := fun_mk (st := s_law) l_law c_law k_law
  have b_law := n_law.binds (ps := ["script"]) fun _ _ _ _ _ _ us hl => match us, hl with | [_], _ => rfl
  refine ⟨PySem.W.fnOf "law" "law" (defArgs s_law) (defBody s_law) (defScope s_law) .none kV_law dc_law pm_law an_law cd_law ct_law, fun s v => .of_eq rfl, fun base _ _ => ?_⟩
  have C_comes_first := h_comes_first (P := PySem.Challenge.pw_lockrules_k60_serial_orders_of_more) (w := w) (base := base) T  n_comes_first (PySem.W.mg_of X G a_comes_first) b_comes_first
  have C__law_ready := h__law_ready (P := PySem.Challenge.pw_lockrules_k60_serial_orders_of_more) (w := w) (base := base) T  n__law_ready (PySem.W.mg_of X G a__law_ready) b__law_ready
  have C__law_strange := h__law_strange (P := PySem.Challenge.pw_lockrules_k60_serial_orders_of_more) (w := w) (base := base) T  n__law_strange (PySem.W.mg_of X G a__law_strange) b__law_strange
  have C__law_cell := h__law_cell (P := PySem.Challenge.pw_lockrules_k60_serial_orders_of_more) (w := w) (base := base) T  n__law_cell (PySem.W.mg_of X G a__law_cell) b__law_cell
  have C__law_numbers := h__law_numbers (P := PySem.Challenge.pw_lockrules_k60_serial_orders_of_more) (w := w) (base := base) T  n__law_numbers (PySem.W.mg_of X G a__law_numbers) b__law_numbers
  have C__law_shuffled := h__law_shuffled (P := PySem.Challenge.pw_lockrules_k60_serial_orders_of_more) (w := w) (base := base) T  n__law_shuffled (PySem.W.mg_of X G a__law_shuffled) b__law_shuffled
  have C__law_drawn := h__law_drawn (P := PySem.Challenge.pw_lockrules_k60_serial_orders_of_more) (w := w) (base := base) T C__law_cell C__law_numbers C__law_shuffled n__law_drawn (PySem.W.mg_of X G a__law_drawn) b__law_drawn
  have C0__law_same : Has PySem.Challenge.pw_lockrules_k60_serial_orders_of_more w K mg base "_law_same" 0 2 (F__law_same 0) := has_stuck (PySem.W.mg_of X G a__law_same) n__law_same.kp b__law_same rfl 0
  have C1__law_same := h__law_same (P := PySem.Challenge.pw_lockrules_k60_serial_orders_of_more) (w := w) (base := base) (k := 0) (n := 0) T C0__law_same n__law_same (PySem.W.mg_of X G a__law_same) b__law_same
  have C2__law_same := h__law_same (P := PySem.Challenge.pw_lockrules_k60_serial_orders_of_more) (w := w) (base := base) (k := 1) (n := 1) T C1__law_same n__law_same (PySem.W.mg_of X G a__law_same) b__law_same
  have C3__law_same := h__law_same (P := PySem.Challenge.pw_lockrules_k60_serial_orders_of_more) (w := w) (base := base) (k := 2) (n := 2) T C2__law_same n__law_same (PySem.W.mg_of X G a__law_same) b__law_same
  have C4__law_same := h__law_same (P := PySem.Challenge.pw_lockrules_k60_serial_orders_of_more) (w := w) (base := base) (k := 3) (n := 3) T C3__law_same n__law_same (PySem.W.mg_of X G a__law_same) b__law_same
  have C__law_same := C4__law_same
  have C0__law_orders : Has PySem.Challenge.pw_lockrules_k60_serial_orders_of_more w K mg base "_law_orders" 1 3 (F__law_orders 0) := has_stuck (PySem.W.mg_of X G a__law_orders) n__law_orders.kp b__law_orders rfl 1
  have C1__law_orders := h__law_orders (P := PySem.Challenge.pw_lockrules_k60_serial_orders_of_more) (w := w) (base := base) (k := 0) (n := 0) T C__law_ready C0__law_orders n__law_orders (PySem.W.mg_of X G a__law_orders) b__law_orders
  have C2__law_orders := h__law_orders (P := PySem.Challenge.pw_lockrules_k60_serial_orders_of_more) (w := w) (base := base) (k := 1) (n := 1) T C__law_ready C1__law_orders n__law_orders (PySem.W.mg_of X G a__law_orders) b__law_orders
  have C3__law_orders := h__law_orders (P := PySem.Challenge.pw_lockrules_k60_serial_orders_of_more) (w := w) (base := base) (k := 2) (n := 2) T C__law_ready C2__law_orders n__law_orders (PySem.W.mg_of X G a__law_orders) b__law_orders
  have C4__law_orders := h__law_orders (P := PySem.Challenge.pw_lockrules_k60_serial_orders_of_more) (w := w) (base := base) (k := 3) (n := 3) T C__law_ready C3__law_orders n__law_orders (PySem.W.mg_of X G a__law_orders) b__law_orders
  have C5__law_orders := h__law_orders (P := PySem.Challenge.pw_lockrules_k60_serial_orders_of_more) (w := w) (base := base) (k := 4) (n := 4) T C__law_ready C4__law_orders n__law_orders (PySem.W.mg_of X G a__law_orders) b__law_orders
  have C6__law_orders := h__law_orders (P := PySem.Challenge.pw_lockrules_k60_serial_orders_of_more) (w := w) (base := base) (k := 5) (n := 5) T C__law_ready C5__law_orders n__law_orders (PySem.W.mg_of X G a__law_orders) b__law_orders
  have C7__law_orders := h__law_orders (P := PySem.Challenge.pw_lockrules_k60_serial_orders_of_more) (w := w) (base := base) (k := 6) (n := 6) T C__law_ready C6__law_orders n__law_orders (PySem.W.mg_of X G a__law_orders) b__law_orders
  have C8__law_orders := h__law_orders (P := PySem.Challenge.pw_lockrules_k60_serial_orders_of_more) (w := w) (base := base) (k := 7) (n := 7) T C__law_ready C7__law_orders n__law_orders (PySem.W.mg_of X G a__law_orders) b__law_orders
  have C9__law_orders := h__law_orders (P := PySem.Challenge.pw_lockrules_k60_serial_orders_of_more) (w := w) (base := base) (k := 8) (n := 8) T C__law_ready C8__law_orders n__law_orders (PySem.W.mg_of X G a__law_orders) b__law_orders
  have C10__law_orders := h__law_orders (P := PySem.Challenge.pw_lockrules_k60_serial_orders_of_more) (w := w) (base := base) (k := 9) (n := 9) T C__law_ready C9__law_orders n__law_orders (PySem.W.mg_of X G a__law_orders) b__law_orders
  have C__law_orders := C10__law_orders
  have C0_ordered : HasLG PySem.Challenge.pw_lockrules_k60_serial_orders_of_more w K mg base "ordered" 2 3 (F_ordered 0) := hasLG_stuck rfl (PySem.W.mg_of X G a_ordered) n_ordered.kp b_ordered
  have C1_ordered := h_ordered (P := PySem.Challenge.pw_lockrules_k60_serial_orders_of_more) (w := w) (base := base) (k := 2) (n := 0) T C_comes_first C0_ordered n_ordered (PySem.W.mg_of X G a_ordered) b_ordered
  have C2_ordered := h_ordered (P := PySem.Challenge.pw_lockrules_k60_serial_orders_of_more) (w := w) (base := base) (k := 5) (n := 1) T C_comes_first C1_ordered n_ordered (PySem.W.mg_of X G a_ordered) b_ordered
  have C3_ordered := h_ordered (P := PySem.Challenge.pw_lockrules_k60_serial_orders_of_more) (w := w) (base := base) (k := 8) (n := 2) T C_comes_first C2_ordered n_ordered (PySem.W.mg_of X G a_ordered) b_ordered
  have C4_ordered := h_ordered (P := PySem.Challenge.pw_lockrules_k60_serial_orders_of_more) (w := w) (base := base) (k := 11) (n := 3) T C_comes_first C3_ordered n_ordered (PySem.W.mg_of X G a_ordered) b_ordered
  have C5_ordered := h_ordered (P := PySem.Challenge.pw_lockrules_k60_serial_orders_of_more) (w := w) (base := base) (k := 14) (n := 4) T C_comes_first C4_ordered n_ordered (PySem.W.mg_of X G a_ordered) b_ordered
  have C6_ordered := h_ordered (P := PySem.Challenge.pw_lockrules_k60_serial_orders_of_more) (w := w) (base := base) (k := 17) (n := 5) T C_comes_first C5_ordered n_ordered (PySem.W.mg_of X G a_ordered) b_ordered
  have C7_ordered := h_ordered (P := PySem.Challenge.pw_lockrules_k60_serial_orders_of_more) (w := w) (base := base) (k := 20) (n := 6) T C_comes_first C6_ordered n_ordered (PySem.W.mg_of X G a_ordered) b_ordered
  have C8_ordered := h_ordered (P := PySem.Challenge.pw_lockrules_k60_serial_orders_of_more) (w := w) (base := base) (k := 23) (n := 7) T C_comes_first C7_ordered n_ordered (PySem.W.mg_of X G a_ordered) b_ordered
  have C9_ordered := h_ordered (P := PySem.Challenge.pw_lockrules_k60_serial_orders_of_more) (w := w) (base := base) (k := 26) (n := 8) T C_comes_first C8_ordered n_ordered (PySem.W.mg_of X G a_ordered) b_ordered
  have C10_ordered := h_ordered (P := PySem.Challenge.pw_lockrules_k60_serial_orders_of_more) (w := w) (base := base) (k := 29) (n := 9) T C_comes_first C9_ordered n_ordered (PySem.W.mg_of X G a_ordered) b_ordered
  have C_ordered := C10_ordered
  have C_serial_orders := h_serial_orders (P := PySem.Challenge.pw_lockrules_k60_serial_orders_of_more) (w := w) (base := base) T C_ordered n_serial_orders (PySem.W.mg_of X G a_serial_orders) b_serial_orders
  exact h_law (P := PySem.Challenge.pw_lockrules_k60_serial_orders_of_more) (w := w) (base := base) T C_serial_orders C__law_same C__law_orders C__law_strange C__law_drawn C__law_cell C__law_numbers n_law
theorem walk {l : PySem.W.OpenLaw} {q : Program} {loose : List Str} {XP : (Str → Option Value) → Heap → Prop} {YP : World → Heap → Prop} {d : DefRec} {K : Params → PySem.W.Frag} (hn : l.most = some 63) (hdf : d.params.defaults = [])
    (hY : ∀ (w : World) (h : Heap), YP w h → (K w.params).In h) (hp : l.prog = PySem.Challenge.pw_lockrules_k60_serial_orders_of_more)
    (F : ∀ (w : World) (mg : Str → Option Value) (fa : Addr) (h : Heap), (K w.params).In h → h.Ns mainGlobals mg → mg d.name = some (.ref fa) →
      ∃ fd : FuncData, (∀ (s : Shared) (u : Value), BindsTo s fd ⟨[u], []⟩ [("script", u)]) ∧ ∀ base : Heap, (K w.params).In base → base.Ns mainGlobals mg → GX.FnL PySem.Challenge.pw_lockrules_k60_serial_orders_of_more w (K w.params) mg base (L2.CX PySem.Challenge.pw_lockrules_k60_serial_orders_of_more w) 40 fa fd ["script"] (spD (K w.params) 1 F_law)) :
    PySem.W.LoudWalk q loose XP YP l.row.toRowW d [] (fun f vs => PySem.call f vs) :=
  loud_walk (n := 63) (k := 40) (x := "script") (CX := fun w => L2.CX l.prog w) (sp := fun w => spD (K w.params) 1 F_law) hn (by decide) hdf ⟨rfl, by decide, by decide⟩ hY (by rw [hp]; exact F)
    (fun w H a ns hl _ hS => ⟨fun _ => False, [.scr ns], fun _ z => z.elim, ⟨_, _, rfl, ⟨a, rfl, (RdLe.ofKey fun b u z => by rw [hide_no id]; exact z : RdLe H (hide (fun _ => False) H)).sqL hS⟩, rfl⟩, rfl, by
      rw [main  ns hl]
      exact fun v H' _ r => r⟩) fun _ _ _ _ _ z => by
      obtain ⟨_, _, _, _, _, _, _, _, _, _, _, _, z⟩ := z
      exact z
end DL
namespace GXH
open _root_.PySem _root_.PySem.W PyProof.Rows in
set_option maxRecDepth 100000 in
set_option maxHeartbeats 0 in
theorem the_law : _root_.PySem.Challenge.rw_lockrules_k60_serial_orders_of_more.Holds := by
  w_on; o_law; k_head; (case hw => w_witness2)
  k_fill
  refine DL.walk (l := _root_.PySem.Challenge.rw_lockrules_k60_serial_orders_of_more) rfl rfl (fun w h Y => _root_.PySem.W.kIn_of Y) rfl ?F
  case F =>
    intro w mg fa h KX G hmg
    refine' DL.all_mk KX G hmg ?a_comes_first ?l_comes_first ?c_comes_first ?k_comes_first ?a_ordered ?l_ordered ?c_ordered ?k_ordered ?a_serial_orders ?l_serial_orders ?c_serial_orders ?k_serial_orders ?a__law_same ?l__law_same ?c__law_same ?k__law_same ?a__law_ready ?l__law_ready ?c__law_ready ?k__law_ready ?a__law_orders ?l__law_orders ?c__law_orders ?k__law_orders ?a__law_strange ?l__law_strange ?c__law_strange ?k__law_strange ?a__law_cell ?l__law_cell ?c__law_cell ?k__law_cell ?a__law_numbers ?l__law_numbers ?c__law_numbers ?k__law_numbers ?a__law_shuffled ?l__law_shuffled ?c__law_shuffled ?k__law_shuffled ?a__law_drawn ?l__law_drawn ?c__law_drawn ?k__law_drawn ?a_law ?l_law ?c_law ?k_law ?z_all ?z_bool ?z_int ?z_isinstance ?z_len ?z_list ?z_range ?z_sorted ?z_str ?z_tuple
    (case a_comes_first => k_is)
    (case l_comes_first => k_is)
    (case c_comes_first => k_is)
    (case k_comes_first => k_is)
    (case a_ordered => k_is)
    (case l_ordered => k_is)
    (case c_ordered => k_is)
    (case k_ordered => k_is)
    (case a_serial_orders => k_is)
    (case l_serial_orders => k_is)
    (case c_serial_orders => k_is)
    (case k_serial_orders => k_is)
    (case a__law_same => k_is)
    (case l__law_same => k_is)
    (case c__law_same => k_is)
    (case k__law_same => k_is)
    (case a__law_ready => k_is)
    (case l__law_ready => k_is)
    (case c__law_ready => k_is)
    (case k__law_ready => k_is)
    (case a__law_orders => k_is)
    (case l__law_orders => k_is)
    (case c__law_orders => k_is)
    (case k__law_orders => k_is)
    (case a__law_strange => k_is)
    (case l__law_strange => k_is)
    (case c__law_strange => k_is)
    (case k__law_strange => k_is)
    (case a__law_cell => k_is)
    (case l__law_cell => k_is)
    (case c__law_cell => k_is)
    (case k__law_cell => k_is)
    (case a__law_numbers => k_is)
    (case l__law_numbers => k_is)
    (case c__law_numbers => k_is)
    (case k__law_numbers => k_is)
    (case a__law_shuffled => k_is)
    (case l__law_shuffled => k_is)
    (case c__law_shuffled => k_is)
    (case k__law_shuffled => k_is)
    (case a__law_drawn => k_is)
    (case l__law_drawn => k_is)
    (case c__law_drawn => k_is)
    (case k__law_drawn => k_is)
    (case a_law => k_is)
    (case l_law => k_is)
    (case c_law => k_is)
    (case k_law => k_is)
    (case z_all => k_is)
    (case z_bool => k_is)
    (case z_int => k_is)
    (case z_isinstance => k_is)
    (case z_len => k_is)
    (case z_list => k_is)
    (case z_range => k_is)
    (case z_sorted => k_is)
    (case z_str => k_is)
    (case z_tuple => k_is)
end GXH
theorem PySem.Challenge.cw_lockrules_k60_serial_orders_of_more_holds : PySem.Challenge.rw_lockrules_k60_serial_orders_of_more.Holds := by
  exact GXH.the_law
