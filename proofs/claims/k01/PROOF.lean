import PyProof.Rows.All
import Wide.All
import OpenK.AllK
import Wide.FinOn
import HandS.Base
import HandS.Call
import HandS.List
import HandS.Comp
import HandS.Ends
import HandS.Dict
import HandS.Iter
import HandS.Text
import HandS.Words
import HandS.WordsList
import HandS.WordsDict
import HandS.Exc
import HandS.TryOnly
import HandS.ExcOwn
import HandS.WordsExc
import HandS.TryMany
import HandS.Codes
import HandS.TupAny
import HandS.Style
import HandS.Star
import HandS.TupLe
import HandS.CallSlots
import PyProof.ReprRoads
import PySem.Challenge.RW_noughtwire_k01_names_of_letters
set_option Elab.async false
set_option linter.all false
set_option maxRecDepth 100000
/-! The data layer: values by their data, the mirror monad, what a state of a def's body says. -/
namespace NW
open PySem PySem.Spec PyProof.Rows L2
abbrev Sl := L2.St

/-- data: immutable things by their content; mob n: the n-th mutable thing of the store -/
inductive D where
  | non | bl (b : Bool) | int (i : Int) | str (x : Str)
  | tup (ds : List D) | lst (ds : List D)
  | obj (c : Nat) (ns : List Str) (ds : List D)
  | mob (n : Nat)
  deriving Inhabited
/-- a mutable thing -/
inductive MO where
  | lst (ds : List D) | ins (c : Nat) (fs : List (Str × D))
/-- what a slot owns -/
inductive OV where
  | lst (ds : List D)
inductive DV where
  | sh (d : D) | own (o : OV)
abbrev Z := List MO
abbrev En := List (Option DV)
/-- an exception: its class, its attributes -/
structure XD where
  c : Nat
  fs : List (Str × D)
inductive Res (α : Type) where
  | ok (a : α) (z : Z) | exc (x : XD) (z : Z) | bad
abbrev M (α : Type) := En → Z → Res α
inductive SR where
  | nx (ρ : En) (z : Z) | rt (d : D) (z : Z) | bk (ρ : En) (z : Z) | ct (ρ : En) (z : Z) | exc (x : XD) (ρ : En) (z : Z) | bad
abbrev MS := En → Z → SR
abbrev FM := List D → Z → Res D

def Res.bind {α β : Type} (r : Res α) (f : α → Z → Res β) : Res β := match r with
  | .ok a z => f a z
  | .exc x z => .exc x z
  | .bad => .bad
/-- what is fixed for a law: the written part, the classes -/
structure Gam where
  K : PySem.W.Frag
  cls : Nat → Addr
/-- the world: what never changes any more, and where the mutable things stand -/
structure W where
  R : Hp
  pl : List Addr

/-- a list that is read: tracked, known, or one of the written part -/
def SqS (K : PySem.W.Frag) (H : Hp) (a : Addr) (xs : List V) : Prop := Rd H a (.lst xs) ∨ ∃ (its : Array Value) (n : Nat), K.lookup a = some { cls := .type "list", data := .seq its n } ∧ its.size ≤ sizeLine ∧ Vals xs its.toList
theorem SqS.sq {K : PySem.W.Frag} {H : Hp} {a : Addr} {xs : List V} (h : SqS K H a xs) : SqL K H a xs := by
  rcases h with h | ⟨its, n, h1, h2, h3⟩
  · exact .inl h
  · exact .inr ⟨_, its, n, h1, rfl, rfl, rfl, h2, h3⟩
theorem SqS.of {K : PySem.W.Frag} {H : Hp} {a : Addr} {xs : List V} (h : H a = some (.lst xs)) : SqS K H a xs := .inl (.inl h)
mutual
inductive Rep (Γ : Gam) (w : W) : D → V → Prop
  | non : Rep Γ w .non .non
  | bl (b : Bool) : Rep Γ w (.bl b) (.bl b)
  | int (i : Int) : Rep Γ w (.int i) (.int i)
  | str (x : Str) : Rep Γ w (.str x) (.str x)
  | tup {a : Addr} {xs : List V} {ds : List D} : SqT Γ.K w.R a xs → RepL Γ w ds xs → Rep Γ w (.tup ds) (.ref a)
  | lst {a : Addr} {xs : List V} {ds : List D} : SqS Γ.K w.R a xs → RepL Γ w ds xs → Rep Γ w (.lst ds) (.ref a)
  | obj {a dx : Addr} {fvs : List (Str × V)} {c : Nat} {ns : List Str} {ds : List D} : w.R a = some (.ins (Γ.cls c) dx fvs) → fvs.map (·.1) = ns → RepL Γ w ds (fvs.map (·.2)) → Rep Γ w (.obj c ns ds) (.ref a)
  | mob {n : Nat} {a : Addr} : w.pl[n]? = some a → Rep Γ w (.mob n) (.ref a)
inductive RepL (Γ : Gam) (w : W) : List D → List V → Prop
  | nil : RepL Γ w [] []
  | cons {d : D} {ds : List D} {v : V} {vs : List V} : Rep Γ w d v → RepL Γ w ds vs → RepL Γ w (d :: ds) (v :: vs)
end

section
variable {Γ : Gam} {w w' : W}
theorem Rd.le {R R' : Hp} (h : ∀ a o, R a = some o → R' a = some o) {a : Addr} {o : HO} (r : Rd R a o) : Rd R' a o := by
  rcases r with r | ⟨u, r⟩
  · exact .inl (h _ _ r)
  · exact .inr ⟨u, h _ _ r⟩
theorem SqS.le {K : PySem.W.Frag} {R R' : Hp} (h : ∀ a o, R a = some o → R' a = some o) {a : Addr} {xs : List V} (r : SqS K R a xs) : SqS K R' a xs := r.imp (Rd.le h) id
theorem SqL.le {K : PySem.W.Frag} {R R' : Hp} (h : ∀ a o, R a = some o → R' a = some o) {a : Addr} {xs : List V} (r : SqL K R a xs) : SqL K R' a xs := r.imp (Rd.le h) id
theorem SqT.le {K : PySem.W.Frag} {R R' : Hp} (h : ∀ a o, R a = some o → R' a = some o) {a : Addr} {xs : List V} (r : SqT K R a xs) : SqT K R' a xs := r.imp (Rd.le h) id
mutual
theorem Rep.mono (hR : ∀ a o, w.R a = some o → w'.R a = some o) (hpl : ∀ (n : Nat) (a : Addr), w.pl[n]? = some a → w'.pl[n]? = some a) : ∀ (d : D) (v : V), Rep Γ w d v → Rep Γ w' d v
  | .non, _, h => by cases h; exact .non
  | .bl b, _, h => by cases h; exact .bl b
  | .int i, _, h => by cases h; exact .int i
  | .str x, _, h => by cases h; exact .str x
  | .tup ds, _, h => by
    cases h with
    | tup h1 h2 => exact .tup (SqT.le hR h1) (RepL.mono hR hpl ds _ h2)
  | .lst ds, _, h => by
    cases h with
    | lst h1 h2 => exact .lst (SqS.le hR h1) (RepL.mono hR hpl ds _ h2)
  | .obj c ns ds, _, h => by
    cases h with
    | obj h1 h2 h3 => exact .obj (hR _ _ h1) h2 (RepL.mono hR hpl ds _ h3)
  | .mob n, _, h => by
    cases h with
    | mob h1 => exact .mob (hpl _ _ h1)
theorem RepL.mono (hR : ∀ a o, w.R a = some o → w'.R a = some o) (hpl : ∀ (n : Nat) (a : Addr), w.pl[n]? = some a → w'.pl[n]? = some a) : ∀ (ds : List D) (vs : List V), RepL Γ w ds vs → RepL Γ w' ds vs
  | [], _, h => by cases h; exact .nil
  | d :: ds, _, h => by
    cases h with
    | cons h1 h2 => exact .cons (Rep.mono hR hpl d _ h1) (RepL.mono hR hpl ds _ h2)
end
theorem RepL.length : ∀ {ds : List D} {vs : List V}, RepL Γ w ds vs → vs.length = ds.length
  | [], _, h => by cases h; rfl
  | d :: ds, _, h => by
    cases h with
    | cons _ h2 => simp only [List.length_cons, RepL.length h2]
theorem RepL.get : ∀ {ds : List D} {vs : List V} {i : Nat} {d : D}, RepL Γ w ds vs → ds[i]? = some d → ∃ v, vs[i]? = some v ∧ Rep Γ w d v
  | [], _, _, _, _, e => by simp at e
  | d :: ds, _, 0, _, h, e => by
    cases h with
    | cons h1 _ => simp at e; subst e; exact ⟨_, rfl, h1⟩
  | d :: ds, _, i + 1, _, h, e => by
    cases h with
    | cons _ h2 =>
      obtain ⟨v, a, b⟩ := RepL.get (i := i) h2 (by simpa using e)
      exact ⟨v, by simpa using a, b⟩
theorem RepL.getV : ∀ {ds : List D} {vs : List V} {i : Nat} {v : V}, RepL Γ w ds vs → vs[i]? = some v → ∃ d, ds[i]? = some d ∧ Rep Γ w d v := fun {ds vs i v} h e => by
  have hi : i < ds.length := by
    rw [← h.length]; exact (List.getElem?_eq_some_iff.mp e).1
  obtain ⟨u, h1, h2⟩ := h.get (List.getElem?_eq_getElem hi)
  rw [e] at h1
  cases h1
  exact ⟨_, List.getElem?_eq_getElem hi, h2⟩
theorem RepL.append : ∀ {ds es : List D} {vs us : List V}, RepL Γ w ds vs → RepL Γ w es us → RepL Γ w (ds ++ es) (vs ++ us)
  | [], _, _, _, h, k => by cases h; exact k
  | d :: ds, _, _, _, h, k => by
    cases h with
    | cons h1 h2 => exact .cons h1 (RepL.append h2 k)
theorem RepL.take : ∀ {ds : List D} {vs : List V} (n : Nat), RepL Γ w ds vs → RepL Γ w (ds.take n) (vs.take n)
  | _, _, 0, _ => by rw [List.take_zero, List.take_zero]; exact .nil
  | [], _, _ + 1, h => by cases h; exact .nil
  | d :: ds, _, n + 1, h => by
    cases h with
    | cons h1 h2 => exact .cons h1 (RepL.take n h2)
theorem RepL.drop : ∀ {ds : List D} {vs : List V} (n : Nat), RepL Γ w ds vs → RepL Γ w (ds.drop n) (vs.drop n)
  | _, _, 0, h => h
  | [], _, _ + 1, h => by cases h; exact .nil
  | d :: ds, _, n + 1, h => by
    cases h with
    | cons h1 h2 => exact RepL.drop n h2
theorem RepL.reverse : ∀ {ds : List D} {vs : List V}, RepL Γ w ds vs → RepL Γ w ds.reverse vs.reverse
  | [], _, h => by cases h; exact .nil
  | d :: ds, _, h => by
    cases h with
    | cons h1 h2 => rw [List.reverse_cons, List.reverse_cons]; exact (RepL.reverse h2).append (.cons h1 .nil)
theorem RepL.set : ∀ {ds : List D} {vs : List V} {d : D} {v : V} (i : Nat), RepL Γ w ds vs → Rep Γ w d v → RepL Γ w (ds.set i d) (vs.set i v)
  | [], _, _, _, _, h, _ => by cases h; exact .nil
  | _ :: _, _, _, _, 0, h, k => by
    cases h with
    | cons h1 h2 => exact .cons k h2
  | _ :: _, _, _, _, i + 1, h, k => by
    cases h with
    | cons h1 h2 => exact .cons h1 (RepL.set i h2 k)
end

/-- what stands at a mutable thing's place -/
def ObRep (Γ : Gam) (w : W) (H : Hp) (a : Addr) : MO → Prop
  | .lst ds => ∃ xs, H a = some (.lst xs) ∧ RepL Γ w ds xs
  | .ins c fs => ∃ dx fvs, H a = some (.ins (Γ.cls c) dx fvs) ∧ fvs.map (·.1) = fs.map (·.1) ∧ RepL Γ w (fs.map (·.2)) (fvs.map (·.2))
structure WI (Γ : Gam) (w : W) (z : Z) (H : Hp) : Prop where
  le : ∀ a o, w.R a = some o → H a = some o
  len : w.pl.length = z.length
  st : ∀ (n : Nat) (mo : MO), z[n]? = some mo → ∃ a, w.pl[n]? = some a ∧ w.R a = none ∧ ObRep Γ w H a mo
  nd : w.pl.Nodup
/-- from (w, H) to (w', H') nothing but the mutable things of w may have changed -/
structure Step (w : W) (H : Hp) (w' : W) (H' : Hp) : Prop where
  r : ∀ a o, w.R a = some o → w'.R a = some o
  t : ∀ (n : Nat) (a : Addr), w.pl[n]? = some a → w'.pl[n]? = some a
  k : ∀ a o, H a = some o → a ∉ w.pl → H' a = some o
  f : ∀ a o, H a = some o → w.R a = none → w'.R a = none
  n : ∀ a, a ∈ w'.pl → a ∈ w.pl ∨ H a = none
  y : ∀ a o, H a = some o → ∃ o', H' a = some o'
theorem Step.refl (w : W) (H : Hp) : Step w H w H := ⟨fun _ _ h => h, fun _ _ h => h, fun _ _ h _ => h, fun _ _ _ h => h, fun _ h => .inl h, fun _ _ h => ⟨_, h⟩⟩
theorem Step.trans {w w1 w2 : W} {H H1 H2 : Hp} (a : Step w H w1 H1) (b : Step w1 H1 w2 H2) : Step w H w2 H2 where
  r := fun c o h => b.r c o (a.r c o h)
  t := fun n c h => b.t n c (a.t n c h)
  k := fun c o h hn => b.k c o (a.k c o h hn) fun hm => by
    rcases a.n c hm with q | q
    · exact hn q
    · rw [h] at q; cases q
  f := fun c o h hn => by
    obtain ⟨o', h'⟩ := a.y c o h
    exact b.f c o' h' (a.f c o h hn)
  n := fun c hm => by
    rcases b.n c hm with q | q
    · exact a.n c q
    · right
      cases e : H c with
      | none => rfl
      | some o => obtain ⟨o', h'⟩ := a.y c o e; rw [h'] at q; cases q
  y := fun c o h => let ⟨o', h'⟩ := a.y c o h; b.y c o' h'
/-- the world has grown -/
structure Ext (w w' : W) : Prop where
  r : ∀ a o, w.R a = some o → w'.R a = some o
  t : ∀ (n : Nat) (a : Addr), w.pl[n]? = some a → w'.pl[n]? = some a
theorem Step.ext {w w' : W} {H H' : Hp} (s : Step w H w' H') : Ext w w' := ⟨s.r, s.t⟩
theorem Ext.refl (w : W) : Ext w w := ⟨fun _ _ h => h, fun _ _ h => h⟩
theorem Ext.trans {a b c : W} (x : Ext a b) (y : Ext b c) : Ext a c := ⟨fun _ _ h => y.r _ _ (x.r _ _ h), fun _ _ h => y.t _ _ (x.t _ _ h)⟩
theorem Rep.ext {Γ : Gam} {w w' : W} (s : Ext w w') {d : D} {v : V} (h : Rep Γ w d v) : Rep Γ w' d v := Rep.mono s.r s.t d v h
theorem RepL.ext {Γ : Gam} {w w' : W} (s : Ext w w') {d : List D} {v : List V} (h : RepL Γ w d v) : RepL Γ w' d v := RepL.mono s.r s.t d v h
theorem Rep.step {Γ : Gam} {w w' : W} {H H' : Hp} (s : Step w H w' H') {d : D} {v : V} (h : Rep Γ w d v) : Rep Γ w' d v := Rep.mono s.r s.t d v h
theorem RepL.step {Γ : Gam} {w w' : W} {H H' : Hp} (s : Step w H w' H') {d : List D} {v : List V} (h : RepL Γ w d v) : RepL Γ w' d v := RepL.mono s.r s.t d v h

/-- what stands at an owned thing's place -/
def OwnRep (Γ : Gam) (w : W) (H : Hp) (a : Addr) : OV → Prop
  | .lst ds => ∃ xs, H a = some (.lst xs) ∧ RepL Γ w ds xs
theorem OwnRep.there {Γ : Gam} {w : W} {H : Hp} {a : Addr} {o : OV} (h : OwnRep Γ w H a o) : ∃ u, H a = some u := by
  cases o with
  | lst ds => obtain ⟨xs, h, _⟩ := h; exact ⟨_, h⟩
theorem OwnRep.step {Γ : Gam} {w w' : W} {H H' : Hp} {a : Addr} {o : OV} (h : OwnRep Γ w H a o) (s : Step w H w' H') (hn : a ∉ w.pl) : OwnRep Γ w' H' a o := by
  cases o with
  | lst ds => obtain ⟨xs, h, r⟩ := h; exact ⟨xs, s.k _ _ h hn, r.step s⟩
/-- read by value, of this moment and as long as the owner leaves it -/
inductive RepB (Γ : Gam) (w : W) (H : Hp) : D → V → Prop
  | of {d : D} {v : V} : Rep Γ w d v → RepB Γ w H d v
  | own {a : Addr} {ds : List D} : OwnRep Γ w H a (.lst ds) → w.R a = none → a ∉ w.pl → RepB Γ w H (.lst ds) (.ref a)
theorem RepB.step {Γ : Gam} {w w' : W} {H H' : Hp} (s : Step w H w' H') {d : D} {v : V} (h : RepB Γ w H d v) : RepB Γ w' H' d v := by
  cases h with
  | of h => exact .of (h.step s)
  | own h1 h2 h3 =>
    obtain ⟨u, hu⟩ := h1.there
    refine .own (h1.step s h3) (s.f _ _ hu h2) fun hm => ?_
    rcases s.n _ hm with q | q
    · exact h3 q
    · rw [hu] at q; cases q

/-- where a def's body began -/
structure Bs where
  w : W
  H : Hp
structure SI (Γ : Gam) (B : Bs) (w : W) (ρ : En) (z : Z) (σ : Sl) (H : Hp) : Prop where
  wi : WI Γ w z H
  st : Step B.w B.H w H
  len : ρ.length = σ.length
  sh : ∀ (i : Nat) (d : D), ρ[i]? = some (some (.sh d)) → ∃ v, σ[i]? = some (some v) ∧ Rep Γ w d v
  own : ∀ (i : Nat) (o : OV), ρ[i]? = some (some (.own o)) → ∃ a, σ[i]? = some (some (.ref a)) ∧ OwnRep Γ w H a o ∧ w.R a = none ∧ a ∉ w.pl ∧ B.H a = none
  dis : ∀ (i j : Nat) (o u : OV) (a : Addr), ρ[i]? = some (some (.own o)) → ρ[j]? = some (some (.own u)) → σ[i]? = some (some (.ref a)) → σ[j]? = some (some (.ref a)) → i = j

section
variable {Γ : Gam} {B : Bs} {w w' : W} {ρ : En} {z z' : Z} {σ : Sl} {H H' : Hp}
/-- the slots carried along a step of the world -/
theorem SI.carry (S : SI Γ B w ρ z σ H) (wi : WI Γ w' z' H') (s : Step w H w' H') : SI Γ B w' ρ z' σ H' where
  wi := wi
  st := S.st.trans s
  len := S.len
  sh := fun i d h => let ⟨v, a, b⟩ := S.sh i d h; ⟨v, a, b.step s⟩
  own := fun i o h => by
    obtain ⟨a, h1, h2, h3, h4, h5⟩ := S.own i o h
    obtain ⟨u, hu⟩ := h2.there
    refine ⟨a, h1, h2.step s h4, s.f _ _ hu h3, fun hm => ?_, h5⟩
    rcases s.n _ hm with q | q
    · exact h4 q
    · rw [hu] at q; cases q
  dis := S.dis
theorem upd_cases {H : Hp} {p a : Addr} {o u : HO} (h : upd H p o a = some u) : (a = p ∧ u = o) ∨ (a ≠ p ∧ H a = some u) := by
  by_cases e : a = p
  · subst e; rw [upd_same] at h; cases h; exact .inl ⟨rfl, rfl⟩
  · rw [upd_ne e] at h; exact .inr ⟨e, h⟩
theorem ObRep.keep {a : Addr} {mo : MO} (h : ObRep Γ w H a mo) (hR : ∀ a o, w.R a = some o → w'.R a = some o) (hpl : ∀ (n : Nat) (a : Addr), w.pl[n]? = some a → w'.pl[n]? = some a) (e : ∀ o, H a = some o → H' a = some o) : ObRep Γ w' H' a mo := by
  cases mo with
  | lst ds => obtain ⟨xs, h, r⟩ := h; exact ⟨xs, e _ h, RepL.mono hR hpl _ _ r⟩
  | ins c fs => obtain ⟨dx, fvs, h, k, r⟩ := h; exact ⟨dx, fvs, e _ h, k, RepL.mono hR hpl _ _ r⟩
theorem WI.th (I : WI Γ w z H) {a : Addr} (h : a ∈ w.pl) : ∃ o, H a = some o ∧ w.R a = none := by
  obtain ⟨n, hn, e⟩ := List.mem_iff_getElem.mp h
  have hz : n < z.length := by rw [← I.len]; exact hn
  obtain ⟨b, h1, h2, h3⟩ := I.st n _ (List.getElem?_eq_getElem hz)
  rw [List.getElem?_eq_getElem hn, e] at h1
  cases h1
  refine (match z[n], h3 with
    | .lst ds, ⟨xs, q, _⟩ => ⟨_, q, h2⟩
    | .ins c fs, ⟨dx, fvs, q, _⟩ => ⟨_, q, h2⟩)
/-- a new thing that never changes -/
theorem WI.new (I : WI Γ w z H) {p : Addr} {o : HO} (hp : H p = none) : WI Γ ⟨upd w.R p o, w.pl⟩ z (upd H p o) ∧ Step w H ⟨upd w.R p o, w.pl⟩ (upd H p o) := by
  have hpR : w.R p = none := by
    cases e : w.R p with
    | none => rfl
    | some u => have := I.le _ _ e; rw [hp] at this; cases this
  have ne : ∀ {a : Addr} {u : HO}, H a = some u → a ≠ p := fun h => ne_of_none h hp
  have hR : ∀ a u, w.R a = some u → upd w.R p o a = some u := fun a u h => by rw [upd_ne (ne_of_none h hpR)]; exact h
  refine ⟨⟨fun a u h => ?_, I.len, fun n mo h => ?_, I.nd⟩, ⟨hR, fun _ _ h => h, fun a u h _ => by rw [upd_ne (ne h)]; exact h, fun a u h k => ?_, fun _ h => .inl h, fun a u h => ⟨u, by rw [upd_ne (ne h)]; exact h⟩⟩⟩
  · rcases upd_cases h with ⟨rfl, rfl⟩ | ⟨e, h⟩
    · exact upd_same
    · rw [upd_ne e]; exact I.le _ _ h
  · obtain ⟨a, h1, h2, h3⟩ := I.st n mo h
    have ha : a ≠ p := by
      obtain ⟨u, hu, _⟩ := I.th (List.mem_of_getElem? h1)
      exact ne hu
    exact ⟨a, h1, by show upd w.R p o a = none; rw [upd_ne ha]; exact h2, h3.keep hR (fun _ _ h => h) fun u hu => by rw [upd_ne ha]; exact hu⟩
  · show upd w.R p o a = none
    rw [upd_ne (ne h)]; exact k
/-- a new thing that is not in the world yet -/
theorem WI.newO (I : WI Γ w z H) {p : Addr} {o : HO} (hp : H p = none) : WI Γ w z (upd H p o) ∧ Step w H w (upd H p o) := by
  have ne : ∀ {a : Addr} {u : HO}, H a = some u → a ≠ p := fun h => ne_of_none h hp
  have kH : ∀ a u, H a = some u → upd H p o a = some u := fun a u h => by rw [upd_ne (ne h)]; exact h
  refine ⟨⟨fun a u h => kH _ _ (I.le _ _ h), I.len, fun n mo h => ?_, I.nd⟩, ⟨fun _ _ h => h, fun _ _ h => h, fun a u h _ => kH _ _ h, fun a u h k => k, fun _ h => .inl h, fun a u h => ⟨u, kH _ _ h⟩⟩⟩
  obtain ⟨a, h1, h2, h3⟩ := I.st n mo h
  exact ⟨a, h1, h2, h3.keep (fun _ _ h => h) (fun _ _ h => h) fun u hu => kH _ _ hu⟩
/-- what stands outside the world is frozen into it -/
theorem WI.freeze (I : WI Γ w z H) {p : Addr} {o : HO} (hp : H p = some o) (hR : w.R p = none) (hpl : p ∉ w.pl) : WI Γ ⟨upd w.R p o, w.pl⟩ z H := by
  have kR : ∀ a u, w.R a = some u → upd w.R p o a = some u := fun a u h => by rw [upd_ne (ne_of_none h hR)]; exact h
  refine ⟨fun a u h => ?_, I.len, fun n mo h => ?_, I.nd⟩
  · rcases upd_cases h with ⟨rfl, rfl⟩ | ⟨e, h⟩
    · exact hp
    · exact I.le _ _ h
  · obtain ⟨a, h1, h2, h3⟩ := I.st n mo h
    have ha : a ≠ p := fun e => hpl (e ▸ List.mem_of_getElem? h1)
    exact ⟨a, h1, by show upd w.R p o a = none; rw [upd_ne ha]; exact h2, h3.keep kR (fun _ _ h => h) fun u hu => hu⟩
end

/-! ### readings by the mirror -/
section
variable (Γ : Gam) (B : Bs) (Wx : WX)
/-- an exception's attributes lie in its own dict -/
def RepX (w : W) (x : XD) (cls : Value) (dd : Option Addr) (H : Hp) : Prop :=
  cls = .ref (Γ.cls x.c) ∧ ∃ dx fvs, dd = some dx ∧ H dx = some (.xd fvs) ∧ w.R dx = some (.xd fvs) ∧ fvs.map (·.1) = x.fs.map (·.1) ∧ RepL Γ w (x.fs.map (·.2)) (fvs.map (·.2))
def resTo {α : Type} (w : W) (ρ : En) (σ : Sl) (H : Hp) (r : Res α) (Q : α → W → Z → Hp → Prop) : Prop := match r with
  | .ok a z' => ∀ w' H', SI Γ B w' ρ z' σ H' → Step w H w' H' → Q a w' z' H'
  | .exc x z' => ∀ cls dd w' H', SI Γ B w' ρ z' σ H' → Step w H w' H' → RepX Γ w' x cls dd H' → Wx cls dd σ H'
  | .bad => False
def tD (m : M D) : TE := fun σ H Q => ∃ w ρ z, SI Γ B w ρ z σ H ∧ resTo Γ B Wx w ρ σ H (m ρ z) fun d w' _ H' => ∀ v, Rep Γ w' d v → Q v H'
def tB (m : M D) : TE := fun σ H Q => ∃ w ρ z, SI Γ B w ρ z σ H ∧ resTo Γ B Wx w ρ σ H (m ρ z) fun d w' _ H' => ∀ v, RepB Γ w' H' d v → Q v H'
/-- a new list of its own -/
def tF (m : M (List D)) : TE := fun σ H Q => ∃ w ρ z, SI Γ B w ρ z σ H ∧ resTo Γ B Wx w ρ σ H (m ρ z) fun ds w' _ H' => ∀ p, OwnRep Γ w' H' p (.lst ds) → w'.R p = none → p ∉ w'.pl → H p = none → Q (.ref p) H'
def tDT (m : M Bool) : TT := fun σ H Q => ∃ w ρ z, SI Γ B w ρ z σ H ∧ resTo Γ B Wx w ρ σ H (m ρ z) fun b _ _ H' => Q b H'
def tDA (m : M (List D)) : TA := fun σ H Q => ∃ w ρ z, SI Γ B w ρ z σ H ∧ resTo Γ B Wx w ρ σ H (m ρ z) fun ds w' _ H' => ∀ vs, RepL Γ w' ds vs → Q vs H'
def tBA (m : M (List D)) : TA := fun σ H Q => ∃ w ρ z, SI Γ B w ρ z σ H ∧ resTo Γ B Wx w ρ σ H (m ρ z) fun ds w' _ H' => ∀ vs, Paired (fun d v => RepB Γ w' H' d v) ds vs → Q vs H'
/-- what a returned value is to be: data; or a new list of its own -/
abbrev RTT := W → Hp → D → V → Prop
abbrev RTn : RTT := fun w _ d v => Rep Γ w d v
abbrev RTf : RTT := fun w H d v => ∃ ds p, d = .lst ds ∧ v = .ref p ∧ OwnRep Γ w H p (.lst ds) ∧ w.R p = none ∧ p ∉ w.pl ∧ B.H p = none
variable (RT : RTT)
def srTo (w : W) (D : Ends) (r : SR) : Prop := match r with
  | .nx ρ z => ∀ σ w' H', SI Γ B w' ρ z σ H' → Ext w w' → D.nx σ H'
  | .rt d z => ∀ v w' H', WI Γ w' z H' → Step B.w B.H w' H' → RT w' H' d v → D.rt v H'
  | .bk ρ z => ∀ σ w' H', SI Γ B w' ρ z σ H' → Ext w w' → D.bk σ H'
  | .ct ρ z => ∀ σ w' H', SI Γ B w' ρ z σ H' → Ext w w' → D.ct σ H'
  | .exc x ρ z => ∀ cls dd σ w' H', SI Γ B w' ρ z σ H' → RepX Γ w' x cls dd H' → Wx cls dd σ H'
  | .bad => False
def tDS (ms : MS) : TS := fun D σ H => ∃ w ρ z, SI Γ B w ρ z σ H ∧ srTo Γ B Wx RT w D (ms ρ z)
end
end NW
/-! Expressions: names, constants, operators, comparisons, tests, displays, subscripts. -/
namespace NW
open PySem PySem.Spec PyProof.Rows L2

/-! ### weakening -/
theorem pe_weak {X : Cx} {e : Expr} {t t' : TE} (h : PE X e t) (k : ∀ σ H Q, t' σ H Q → t σ H Q) : PE X e t' := ⟨fun p s σ H Q I q => h.run p s σ H Q I (k _ _ _ q)⟩
theorem pt_weak {X : Cx} {e : Expr} {t t' : TT} (h : PT X e t) (k : ∀ σ H Q, t' σ H Q → t σ H Q) : PT X e t' := ⟨fun p s σ H Q I q => h.run p s σ H Q I (k _ _ _ q)⟩
theorem pw_weak {X : Cx} {e : Expr} {t t' : TT} (h : PW X e t) (k : ∀ σ H Q, t' σ H Q → t σ H Q) : PW X e t' := ⟨fun wh p s σ H Q I q => h.run wh p s σ H Q I (k _ _ _ q)⟩
theorem pts_weak {X : Cx} {e : List Expr} {t t' : TT} (h : PTs X e t) (k : ∀ σ H Q, t' σ H Q → t σ H Q) : PTs X e t' := ⟨fun p s σ H Q I q => h.run p s σ H Q I (k _ _ _ q)⟩
theorem pa_weak {X : Cx} {e : List Expr} {t t' : TA} (h : PA X e t) (k : ∀ σ H Q, t' σ H Q → t σ H Q) : PA X e t' := ⟨fun o p s σ H Q I q => h.run o p s σ H Q I (k _ _ _ q)⟩
theorem ps_weak {X : Cx} {e : Stmt} {t t' : TS} (h : PS X e t) (k : ∀ D σ H, t' D σ H → t D σ H) : PS X e t' := ⟨fun p s σ H Q I q => h.run p s σ H Q I (k _ _ _ q)⟩
theorem pss_weak {X : Cx} {e : List Stmt} {t t' : TS} (h : PSs X e t) (k : ∀ D σ H, t' D σ H → t D σ H) : PSs X e t' := ⟨fun p s σ H Q I q => h.run p s σ H Q I (k _ _ _ q)⟩

/-! ### the mirror's words -/
section
variable {α β : Type}
def mRet (a : α) : M α := fun _ z => .ok a z
def mBad : M α := fun _ _ => .bad
def mBind (m : M α) (f : α → M β) : M β := fun ρ z => (m ρ z).bind fun a z1 => f a ρ z1
/-- by the store as it is -/
def mOpt (f : Z → Option α) : M α := fun _ z => match f z with
  | some a => .ok a z
  | none => .bad
def mVar (i : Nat) : M D := fun ρ z => match ρ[i]? with
  | some (some (.sh d)) => .ok d z
  | _ => .bad
def mOwn (i : Nat) : M D := fun ρ z => match ρ[i]? with
  | some (some (.own (.lst ds))) => .ok (.lst ds) z
  | _ => .bad
def mOp2 (f : Z → D → D → Option α) (a b : M D) : M α := mBind a fun x => mBind b fun y => mOpt fun z => f z x y
def mOp1 (f : Z → D → Option α) (a : M D) : M α := mBind a fun x => mOpt fun z => f z x
def mIf (c : M Bool) (a b : M α) : M α := mBind c fun k => if k = true then a else b
def mNot (c : M Bool) : M Bool := mBind c fun k => mRet (!k)
def mAnd (a b : M Bool) : M Bool := mBind a fun k => if k = true then b else mRet false
def mOr (a b : M Bool) : M Bool := mBind a fun k => if k = true then mRet true else b
def mBl (a : M Bool) : M D := mBind a fun k => mRet (.bl k)
def mNil : M (List α) := mRet []
def mCons (a : M α) (r : M (List α)) : M (List α) := mBind a fun x => mBind r fun xs => mRet (x :: xs)
def mMap (f : α → β) (a : M α) : M β := mBind a fun x => mRet (f x)
end

section
variable {Γ : Gam} {B : Bs} {Wx : WX} {w : W} {ρ : En} {σ : Sl} {H : Hp} {α β : Type}
theorem resTo.mono {r : Res α} {Q Q' : α → W → Z → Hp → Prop} (h : resTo Γ B Wx w ρ σ H r Q) (k : ∀ a w' z' H', SI Γ B w' ρ z' σ H' → Step w H w' H' → Q a w' z' H' → Q' a w' z' H') : resTo Γ B Wx w ρ σ H r Q' := by
  cases r with
  | ok a z => exact fun w' H' S s => k _ _ _ _ S s (h w' H' S s)
  | exc x z => exact h
  | bad => exact h
/-- the first part, then the rest from there -/
theorem resTo.bind {r : Res α} {f : α → Z → Res β} {Q : β → W → Z → Hp → Prop} (h : resTo Γ B Wx w ρ σ H (r.bind f) Q) :
    resTo Γ B Wx w ρ σ H r fun a w1 z1 H1 => SI Γ B w1 ρ z1 σ H1 ∧ Step w H w1 H1 ∧ resTo Γ B Wx w1 ρ σ H1 (f a z1) Q := by
  cases r with
  | ok a z1 =>
    have h' : resTo Γ B Wx w ρ σ H (f a z1) Q := h
    refine fun w1 H1 S s => ⟨S, s, ?_⟩
    cases e : f a z1 with
    | ok b z2 => rw [e] at h'; exact fun w2 H2 S2 s2 => h' w2 H2 S2 (s.trans s2)
    | exc x z2 => rw [e] at h'; exact fun cls dd w2 H2 S2 s2 q => h' cls dd w2 H2 S2 (s.trans s2) q
    | bad => rw [e] at h'; exact h'
  | exc x z => exact h
  | bad => exact h
theorem resTo.obind {f : Z → Option α} {z : Z} {g : α → Z → Res β} {Q : β → W → Z → Hp → Prop} (h : resTo Γ B Wx w ρ σ H ((mOpt f ρ z).bind g) Q) : ∃ a, f z = some a ∧ resTo Γ B Wx w ρ σ H (g a z) Q := by
  unfold mOpt at h
  cases e : f z with
  | some a => rw [e] at h; exact ⟨a, rfl, h⟩
  | none => rw [e] at h; exact h.elim
/-- at once -/
theorem resTo.ok {a : α} {z : Z} {Q : α → W → Z → Hp → Prop} (S : SI Γ B w ρ z σ H) (h : resTo Γ B Wx w ρ σ H (.ok a z) Q) : Q a w z H := h w H S (Step.refl _ _)
theorem resTo.opt {f : Z → Option α} {z : Z} {Q : α → W → Z → Hp → Prop} (h : resTo Γ B Wx w ρ σ H (mOpt f ρ z) Q) : ∃ a, f z = some a ∧ resTo Γ B Wx w ρ σ H (.ok a z) Q := by
  unfold mOpt at h
  cases e : f z with
  | some a => rw [e] at h; exact ⟨a, rfl, h⟩
  | none => rw [e] at h; exact h.elim
end

section
variable {X : Cx} {Γ : Gam} {B : Bs} {Wx : WX} {e a b : Expr} {m ma mb : M D} {pos : Pos}
/-- data that stays, read by value -/
theorem de_b (h : PE X e (tD Γ B Wx m)) : PE X e (tB Γ B Wx m) := pe_weak h fun σ H Q ⟨w, ρ, z, S, q⟩ => ⟨w, ρ, z, S, q.mono fun d w' z' H' _ _ k v r => k v (.of r)⟩
theorem d_var (i : Nat) {x : Str} (hN : X.N[i]? = some x := by rfl) (hv : Vis X.env.scope x := by first | exact Or.inl rfl | exact Or.inr (Or.inl rfl) | exact Or.inr (Or.inr rfl)) (hd : (x == ("__debug__" : Str)) = false := by decide)
    (hcd : (x == ("__classdict__" : Str)) = false := by decide) : PE X (.Name x pos) (tD Γ B Wx (mVar i)) := pe_weak (pe_var hN hv hd hcd) fun σ H Q ⟨w, ρ, z, S, q⟩ => by
  unfold mVar at q
  split at q
  · rename_i d e
    obtain ⟨v, h1, h2⟩ := S.sh _ _ e
    exact ⟨v, h1, q.ok S v h2⟩
  · exact q.elim
/-- an owned list, read by value -/
theorem b_own (i : Nat) {x : Str} (hN : X.N[i]? = some x := by rfl) (hv : Vis X.env.scope x := by first | exact Or.inl rfl | exact Or.inr (Or.inl rfl) | exact Or.inr (Or.inr rfl)) (hd : (x == ("__debug__" : Str)) = false := by decide)
    (hcd : (x == ("__classdict__" : Str)) = false := by decide) : PE X (.Name x pos) (tB Γ B Wx (mOwn i)) := pe_weak (pe_var hN hv hd hcd) fun σ H Q ⟨w, ρ, z, S, q⟩ => by
  unfold mOwn at q
  split at q
  · rename_i ds e
    obtain ⟨v, h1, h2, h3, h4, _⟩ := S.own _ _ e
    exact ⟨_, h1, q.ok S _ (.own h2 h3 h4)⟩
  · exact q.elim
theorem d_con {v : V} {d : D} (h : PE X e (tC v)) (r : ∀ w, Rep Γ w d v) : PE X e (tD Γ B Wx (mRet d)) := pe_weak h fun σ H Q ⟨w, ρ, z, S, q⟩ => q.ok S v (r w)
theorem d_int {i : Int} {j : Nat} : PE X (.Constant (.int i) j pos) (tD Γ B Wx (mRet (.int i))) := d_con pe_int fun _ => .int i
theorem d_bl {b : Bool} {j : Nat} : PE X (.Constant (.bool b) j pos) (tD Γ B Wx (mRet (.bl b))) := d_con pe_bl fun _ => .bl b
theorem d_non {j : Nat} : PE X (.Constant .none j pos) (tD Γ B Wx (mRet .non)) := d_con pe_non fun _ => .non
theorem d_str {x : Str} {j : Nat} : PE X (.Constant (.str x) j pos) (tD Γ B Wx (mRet (.str x))) := d_con pe_str fun _ => .str x
/-- a module's constant -/
theorem d_glob {x : Str} {v : V} {u : Value} {d : D} (r : ∀ w, Rep Γ w d v) (hm : X.mg x = some u) (ru : RelV v u) (hg : Gl X x := by rfl) (hd : (x == ("__debug__" : Str)) = false := by decide) : PE X (.Name x pos) (tD Γ B Wx (mRet d)) := d_con (pe_glob hg hm ru hd) r

/-! ### operators by values -/
/-- a rule's reading r is met wherever the mirror f has a value -/
def OpD (Γ : Gam) (B : Bs) (r : R2) (f : Z → D → D → Option D) : Prop := ∀ {Wx : WX} {w : W} {ρ : En} {z : Z} {σ : Sl} {H : Hp} {d e d' : D} {v u : V} {Q : VK},
  SI Γ B w ρ z σ H → RepB Γ w H d v → RepB Γ w H e u → f z d e = some d' → resTo Γ B Wx w ρ σ H (.ok d' z) (fun d w' _ H' => ∀ v, Rep Γ w' d v → Q v H') → r v u H Q
theorem op2_to {r : R2} {f : Z → D → D → Option D} (hf : OpD Γ B r f) : ∀ σ H Q, tD Γ B Wx (mOp2 f ma mb) σ H Q → tOp r (tB Γ B Wx ma) (tB Γ B Wx mb) σ H Q := fun σ H Q ⟨w, ρ, z, S, q⟩ =>
  ⟨w, ρ, z, S, q.bind.mono fun d w1 z1 H1 _ _ ⟨S1, s1, q1⟩ v rv => ⟨w1, ρ, z1, S1, q1.bind.mono fun e w2 z2 H2 _ _ ⟨S2, s2, q2⟩ u ru => by
    obtain ⟨d', hd, q3⟩ := q2.opt
    exact hf S2 (rv.step s2) ru hd q3⟩⟩
theorem d_bin {op : Operator} {r : R2} {f : Z → D → D → Option D} (ho : OpR X (binaryOp op) r) (hf : OpD Γ B r f) (ha : PE X a (tB Γ B Wx ma)) (hb : PE X b (tB Γ B Wx mb)) : PE X (.BinOp a op b pos) (tD Γ B Wx (mOp2 f ma mb)) :=
  pe_weak (pe_op ho ha hb) (op2_to hf)
theorem d_cmp {op : CmpOp} {r : R2} {f : Z → D → D → Option D} (ho : OpR X (compareOp op) r) (hf : OpD Γ B r f) (ha : PE X a (tB Γ B Wx ma)) (hb : PE X b (tB Γ B Wx mb)) (hm : behindInMarks op b = false) : PE X (.Compare a [op] [b] pos) (tD Γ B Wx (mOp2 f ma mb)) :=
  pe_weak (pe_cmpR ho ha hb hm) (op2_to hf)
/-- comparisons, as Bool -/
def OpB (Γ : Gam) (B : Bs) (r : R2) (f : Z → D → D → Option Bool) : Prop := ∀ {w : W} {ρ : En} {z : Z} {σ : Sl} {H : Hp} {d e : D} {k : Bool} {v u : V} {Q : VK},
  SI Γ B w ρ z σ H → RepB Γ w H d v → RepB Γ w H e u → f z d e = some k → Q (.bl k) H → r v u H Q
theorem t_cmp {op : CmpOp} {r : R2} {f : Z → D → D → Option Bool} (ho : OpR X (compareOp op) r) (hf : OpB Γ B r f) (ha : PE X a (tB Γ B Wx ma)) (hb : PE X b (tB Γ B Wx mb)) (hm : behindInMarks op b = false) : PT X (.Compare a [op] [b] pos) (tDT Γ B Wx (mOp2 f ma mb)) :=
  pt_weak (pt_cmpR ho ha hb hm) fun σ H Q ⟨w, ρ, z, S, q⟩ =>
    ⟨w, ρ, z, S, q.bind.mono fun d w1 z1 H1 _ _ ⟨S1, s1, q1⟩ v rv => ⟨w1, ρ, z1, S1, q1.bind.mono fun e w2 z2 H2 _ _ ⟨S2, s2, q2⟩ u ru => by
      obtain ⟨k, hk, q3⟩ := q2.opt
      exact hf S2 (rv.step s2) ru hk ⟨k, rfl, q3.ok S2⟩⟩⟩
theorem d_cmpB {op : CmpOp} {r : R2} {f : Z → D → D → Option Bool} (ho : OpR X (compareOp op) r) (hf : OpB Γ B r f) (ha : PE X a (tB Γ B Wx ma)) (hb : PE X b (tB Γ B Wx mb)) (hm : behindInMarks op b = false) : PE X (.Compare a [op] [b] pos) (tD Γ B Wx (mBl (mOp2 f ma mb))) :=
  pe_weak (pe_cmpR ho ha hb hm) fun σ H Q ⟨w, ρ, z, S, q⟩ => by
    have q := q.bind
    exact ⟨w, ρ, z, S, q.bind.mono fun d w1 z1 H1 _ _ ⟨S1, s1, q1⟩ v rv => ⟨w1, ρ, z1, S1, q1.bind.mono fun e w2 z2 H2 _ _ ⟨S2, s2, q2⟩ u ru => by
      obtain ⟨k, hk, q3⟩ := q2.opt
      obtain ⟨_, _, q4⟩ := q3.ok S2
      exact hf S2 (rv.step s2) ru hk (q4.ok S2 _ (.bl k))⟩⟩
/-- a < b < c -/
def mChain (f g : Z → D → D → Option Bool) (a b c : M D) : M Bool := mBind a fun x => mBind b fun y => mBind (mOpt fun z => f z x y) fun k => if k = true then mBind c fun y' => mOpt fun z => g z y y' else mRet false
theorem chain_to {r r' : R2} {f g : Z → D → D → Option Bool} {mc : M D} {β : Type} {fin : Bool → β} {Qv : β → W → Z → Hp → Prop} (hf : OpB Γ B r f) (hg : OpB Γ B r' g) {w : W} {ρ : En} {z : Z} {σ : Sl} {H : Hp} {Q : VK} (S : SI Γ B w ρ z σ H)
    (q : resTo Γ B Wx w ρ σ H (mMap fin (mChain f g ma mb mc) ρ z) Qv) (k : ∀ (b : Bool) (w' : W) (z' : Z) (H' : Hp), SI Γ B w' ρ z' σ H' → Qv (fin b) w' z' H' → Q (.bl b) H') : tChain r r' (tB Γ B Wx ma) (tB Γ B Wx mb) (tB Γ B Wx mc) σ H Q := by
  have q := q.bind
  refine ⟨w, ρ, z, S, q.bind.mono fun d w1 z1 H1 _ _ ⟨S1, s1, q1⟩ v rv => ⟨w1, ρ, z1, S1, q1.bind.mono fun e w2 z2 H2 _ _ ⟨S2, s2, q2⟩ u ru => ?_⟩⟩
  obtain ⟨k1, hk, q3⟩ := q2.obind
  refine hf S2 (rv.step s2) ru hk ⟨k1, rfl, ?_⟩
  cases k1 with
  | false =>
    obtain ⟨_, _, q4⟩ := q3.ok S2
    exact k _ _ _ _ S2 (q4.ok S2)
  | true =>
    refine ⟨w2, ρ, z2, S2, (show resTo Γ B Wx w2 ρ σ H2 (mBind mc (fun y' => mOpt fun z => g z e y') ρ z2) _ from q3).bind.mono fun e' w3 z3 H3 _ _ ⟨S3, s3, q4⟩ u' ru' => ?_⟩
    obtain ⟨k2, hk2, q5⟩ := q4.opt
    obtain ⟨_, _, q6⟩ := q5.ok S3
    exact hg S3 (ru.step s3) ru' hk2 (k _ _ _ _ S3 (q6.ok S3))
theorem t_chain {op op' : CmpOp} {r r' : R2} {f g : Z → D → D → Option Bool} {c : Expr} {mc : M D} (ho : OpR X (compareOp op) r) (hf : OpB Γ B r f) (ho' : OpR X (compareOp op') r') (hg : OpB Γ B r' g)
    (ha : PE X a (tB Γ B Wx ma)) (hb : PE X b (tB Γ B Wx mb)) (hc : PE X c (tB Γ B Wx mc)) (hm : lastMarks [op, op'] [b, c] = false := by with_unfolding_all rfl) : PT X (.Compare a [op, op'] [b, c] pos) (tDT Γ B Wx (mMap id (mChain f g ma mb mc))) :=
  pt_weak (pt_chain ho ho' ha hb hc hm) fun σ H Q ⟨w, ρ, z, S, q⟩ => chain_to hf hg S q fun k _ _ _ _ h => ⟨k, rfl, h⟩
theorem d_chain {op op' : CmpOp} {r r' : R2} {f g : Z → D → D → Option Bool} {c : Expr} {mc : M D} (ho : OpR X (compareOp op) r) (hf : OpB Γ B r f) (ho' : OpR X (compareOp op') r') (hg : OpB Γ B r' g)
    (ha : PE X a (tB Γ B Wx ma)) (hb : PE X b (tB Γ B Wx mb)) (hc : PE X c (tB Γ B Wx mc)) (hm : lastMarks [op, op'] [b, c] = false := by with_unfolding_all rfl) : PE X (.Compare a [op, op'] [b, c] pos) (tD Γ B Wx (mMap .bl (mChain f g ma mb mc))) :=
  pe_weak (pe_chain ho ho' ha hb hc hm) fun σ H Q ⟨w, ρ, z, S, q⟩ => chain_to hf hg S q fun k _ _ _ _ h => h _ (.bl k)

/-! ### tests -/
variable {mt mu : M Bool} {c : Expr} {rest : List Expr}
/-- an expression that is True or False, as a test -/
def toB : D → Option Bool
  | .bl b => some b
  | _ => none
def mTest (m : M D) : M Bool := mBind m fun d => mOpt fun _ => toB d
theorem t_val (h : PE X e (tD Γ B Wx m)) (he : ∀ whole, isTrue e X.env whole = (do let v ← whole; standAt e.pos; holding [v] (truthy v)) := by intro _; rfl) : PT X e (tDT Γ B Wx (mTest m)) :=
  pt_weak (pt_val h he) fun σ H Q ⟨w, ρ, z, S, q⟩ => ⟨w, ρ, z, S, q.bind.mono fun d w1 z1 H1 _ _ ⟨S1, s1, q1⟩ v rv => by
    obtain ⟨k, hk, q2⟩ := q1.opt
    unfold toB at hk
    split at hk
    · cases hk
      cases rv
      exact ⟨_, rfl, q2.ok S1⟩
    · cases hk⟩
/-- by truth -/
def truD (z : Z) : D → Option Bool
  | .non => some false
  | .bl b => some b
  | .int i => some (i != 0)
  | .str x => if x.length ≤ sizeLine then some ((x.length : Int) != 0) else none
  | .lst ds => some (!ds.isEmpty)
  | .tup ds => some (!ds.isEmpty)
  | .mob n => match z[n]? with
    | some (.lst ds) => some (!ds.isEmpty)
    | _ => none
  | .obj _ _ _ => none
theorem isEmpty_len {α β : Type} {l : List α} {k : List β} (h : l.length = k.length) : l.isEmpty = k.isEmpty := by
  cases l <;> cases k <;> simp_all
theorem SI.K {w : W} {ρ : En} {z : Z} {σ : Sl} {H : Hp} (S : SI Γ B w ρ z σ H) {a : Addr} {xs : List V} (h : SqL Γ.K w.R a xs) : SqL Γ.K H a xs := SqL.le S.wi.le h
theorem SI.KT {w : W} {ρ : En} {z : Z} {σ : Sl} {H : Hp} (S : SI Γ B w ρ z σ H) {a : Addr} {xs : List V} (h : SqT Γ.K w.R a xs) : SqT Γ.K H a xs := SqT.le S.wi.le h
/-- a list, read: shared, owned, or a mutable one of the store -/
theorem RepB.list {w : W} {ρ : En} {z : Z} {σ : Sl} {H : Hp} {ds : List D} {v : V} (r : RepB Γ w H (.lst ds) v) (S : SI Γ B w ρ z σ H) : ∃ a xs, v = .ref a ∧ SqS Γ.K H a xs ∧ RepL Γ w ds xs := by
  cases r with
  | of r => cases r with
    | lst h1 h2 => exact ⟨_, _, rfl, SqS.le S.wi.le h1, h2⟩
  | own h1 _ _ => obtain ⟨xs, h1, h2⟩ := h1; exact ⟨_, _, rfl, SqS.of h1, h2⟩
theorem RepB.tuple {w : W} {ρ : En} {z : Z} {σ : Sl} {H : Hp} {ds : List D} {v : V} (r : RepB Γ w H (.tup ds) v) (S : SI Γ B w ρ z σ H) : ∃ a xs, v = .ref a ∧ SqT Γ.K H a xs ∧ RepL Γ w ds xs := by
  cases r with
  | of r => cases r with
    | tup h1 h2 => exact ⟨_, _, rfl, S.KT h1, h2⟩
theorem RepB.mobl {w : W} {ρ : En} {z : Z} {σ : Sl} {H : Hp} {n : Nat} {ds : List D} {v : V} (r : RepB Γ w H (.mob n) v) (S : SI Γ B w ρ z σ H) (hz : z[n]? = some (.lst ds)) : ∃ a xs, v = .ref a ∧ w.pl[n]? = some a ∧ H a = some (.lst xs) ∧ RepL Γ w ds xs := by
  cases r with
  | of r => cases r with
    | mob h1 =>
      obtain ⟨a, h2, h3, xs, h4, h5⟩ := S.wi.st _ _ hz
      rw [h1] at h2
      cases h2
      exact ⟨_, xs, rfl, h1, h4, h5⟩
theorem RepB.rep {w : W} {H : Hp} {d : D} {v : V} (r : RepB Γ w H d v) (h : ∀ ds, d ≠ .lst ds) : Rep Γ w d v := by
  cases r with
  | of r => exact r
  | own _ _ _ => exact absurd rfl (h _)
theorem tru_to {w : W} {ρ : En} {z : Z} {σ : Sl} {H : Hp} {d : D} {v : V} {k : Bool} (S : SI Γ B w ρ z σ H) (r : RepB Γ w H d v) (h : truD z d = some k) : TruV Γ.K v H k := by
  unfold truD at h
  split at h
  · cases r.rep (fun _ => nofun); cases h; rfl
  · cases r.rep (fun _ => nofun); cases h; rfl
  · cases r.rep (fun _ => nofun); cases h; rfl
  · cases r.rep (fun _ => nofun)
    split at h
    · rename_i hz; cases h; exact ⟨hz, rfl⟩
    · cases h
  · obtain ⟨a, xs, rfl, h1, h2⟩ := r.list S
    cases h
    exact .inl ⟨xs, h1.sq, by rw [isEmpty_len h2.length]⟩
  · obtain ⟨a, xs, rfl, h1, h2⟩ := r.tuple S
    cases h
    exact .inr (.inl ⟨xs, h1, by rw [isEmpty_len h2.length]⟩)
  · split at h
    · rename_i ds hz
      obtain ⟨a, xs, rfl, _, h1, h2⟩ := r.mobl S hz
      cases h
      exact .inl ⟨xs, SqL.of h1, by rw [isEmpty_len h2.length]⟩
    · cases h
  · cases h
theorem t_truth (hK : X.K = Γ.K) (h : PE X e (tB Γ B Wx m)) (he : ∀ whole, isTrue e X.env whole = (do let v ← whole; standAt e.pos; holding [v] (truthy v)) := by intro _; rfl) : PT X e (tDT Γ B Wx (mOp1 truD m)) :=
  pt_weak (pt_truth h he) fun σ H Q ⟨w, ρ, z, S, q⟩ => ⟨w, ρ, z, S, q.bind.mono fun d w1 z1 H1 _ _ ⟨S1, s1, q1⟩ v rv => by
    obtain ⟨k, hk, q2⟩ := q1.opt
    exact ⟨k, by rw [hK]; exact tru_to S1 rv hk, q2.ok S1⟩⟩
theorem t_not (h : PT X e (tDT Γ B Wx mt)) : PT X (.UnaryOp .Not e pos) (tDT Γ B Wx (mNot mt)) := pt_weak (pt_not h) fun σ H Q ⟨w, ρ, z, S, q⟩ => ⟨w, ρ, z, S, q.bind.mono fun k w1 z1 H1 _ _ ⟨S1, s1, q1⟩ => q1.ok S1⟩
theorem w_and1 (ha : PT X a (tDT Γ B Wx mt)) : PW X (.BoolOp .And [a] pos) (tDT Γ B Wx mt) := pw_and1 ha
theorem w_or1 (ha : PT X a (tDT Γ B Wx mt)) : PW X (.BoolOp .Or [a] pos) (tDT Γ B Wx mt) := pw_or1 ha
theorem if_res {α : Type} {k : Bool} {x y : Res α} {w : W} {ρ : En} {σ : Sl} {H : Hp} {Q : α → W → Z → Hp → Prop} (h : resTo Γ B Wx w ρ σ H (if k = true then x else y) Q) : (k = true ∧ resTo Γ B Wx w ρ σ H x Q) ∨ (k = false ∧ resTo Γ B Wx w ρ σ H y Q) := by
  cases k with
  | true => exact .inl ⟨rfl, by simpa using h⟩
  | false => exact .inr ⟨rfl, by simpa using h⟩
theorem mif_app {α : Type} {k : Bool} {x y : M α} {ρ : En} {z : Z} : (if k = true then x else y) ρ z = if k = true then x ρ z else y ρ z := by cases k <;> rfl
theorem w_and (ha : PT X a (tDT Γ B Wx mt)) (hb : PW X (.BoolOp .And (b :: rest) pos) (tDT Γ B Wx mu)) : PW X (.BoolOp .And (a :: b :: rest) pos) (tDT Γ B Wx (mAnd mt mu)) :=
  pw_weak (pw_and ha hb) fun σ H Q ⟨w, ρ, z, S, q⟩ => ⟨w, ρ, z, S, q.bind.mono fun k w1 z1 H1 _ _ ⟨S1, s1, q1⟩ => by
    cases k with
    | true => exact iteT ⟨w1, ρ, z1, S1, q1⟩
    | false => exact iteF (q1.ok S1)⟩
theorem w_or (ha : PT X a (tDT Γ B Wx mt)) (hb : PW X (.BoolOp .Or (b :: rest) pos) (tDT Γ B Wx mu)) : PW X (.BoolOp .Or (a :: b :: rest) pos) (tDT Γ B Wx (mOr mt mu)) :=
  pw_weak (pw_or ha hb) fun σ H Q ⟨w, ρ, z, S, q⟩ => ⟨w, ρ, z, S, q.bind.mono fun k w1 z1 H1 _ _ ⟨S1, s1, q1⟩ => by
    cases k with
    | true => exact iteT (q1.ok S1)
    | false => exact iteF ⟨w1, ρ, z1, S1, q1⟩⟩
/-- a test, as a value of True or False: and, or, not of bools -/
def mAndV (a b : M D) : M D := mBind a fun d => mBind (mOpt fun _ => toB d) fun k => if k = true then b else mRet (.bl false)
def mOrV (a b : M D) : M D := mBind a fun d => mBind (mOpt fun _ => toB d) fun k => if k = true then mRet (.bl true) else b
theorem toB_some {d : D} {k : Bool} (h : toB d = some k) : d = .bl k := by
  unfold toB at h
  split at h
  · cases h; rfl
  · cases h
theorem d_one {op : BoolOp} (h : PE X e (tD Γ B Wx m)) : PE X (.BoolOp op [e] pos) (tD Γ B Wx m) := pe_one h
theorem d_and (ha : PE X a (tD Γ B Wx ma)) (hb : PE X (.BoolOp .And (b :: rest) pos) (tD Γ B Wx mb)) : PE X (.BoolOp .And (a :: b :: rest) pos) (tD Γ B Wx (mAndV ma mb)) :=
  pe_weak (pe_and ha hb) fun σ H Q ⟨w, ρ, z, S, q⟩ => ⟨w, ρ, z, S, q.bind.mono fun d w1 z1 H1 _ _ ⟨S1, s1, q1⟩ v rv => by
    obtain ⟨k, hk, q2⟩ := q1.obind
    cases toB_some hk
    cases rv
    refine ⟨k, rfl, ?_⟩
    cases k with
    | true => exact iteT ⟨w1, ρ, z1, S1, q2⟩
    | false => exact iteF (q2.ok S1 _ (.bl false))⟩
theorem d_or (ha : PE X a (tD Γ B Wx ma)) (hb : PE X (.BoolOp .Or (b :: rest) pos) (tD Γ B Wx mb)) : PE X (.BoolOp .Or (a :: b :: rest) pos) (tD Γ B Wx (mOrV ma mb)) :=
  pe_weak (pe_or ha hb) fun σ H Q ⟨w, ρ, z, S, q⟩ => ⟨w, ρ, z, S, q.bind.mono fun d w1 z1 H1 _ _ ⟨S1, s1, q1⟩ v rv => by
    obtain ⟨k, hk, q2⟩ := q1.obind
    cases toB_some hk
    cases rv
    refine ⟨k, rfl, ?_⟩
    cases k with
    | true => exact iteT (q2.ok S1 _ (.bl true))
    | false => exact iteF ⟨w1, ρ, z1, S1, q2⟩⟩
def mNotV (a : M D) : M D := mBind a fun d => mBind (mOpt fun _ => toB d) fun k => mRet (.bl (!k))
theorem d_not (ha : PE X a (tD Γ B Wx ma)) : PE X (.UnaryOp .Not a pos) (tD Γ B Wx (mNotV ma)) :=
  pe_weak (pe_not ha) fun σ H Q ⟨w, ρ, z, S, q⟩ => ⟨w, ρ, z, S, q.bind.mono fun d w1 z1 H1 _ _ ⟨S1, s1, q1⟩ v rv => by
    obtain ⟨k, hk, q2⟩ := q1.obind
    cases toB_some hk
    cases rv
    exact ⟨k, rfl, q2.ok S1 _ (.bl _)⟩⟩
theorem d_ifx (hc : PT X c (tDT Γ B Wx mt)) (ha : PE X a (tD Γ B Wx ma)) (hb : PE X b (tD Γ B Wx mb)) : PE X (.IfExp c a b pos) (tD Γ B Wx (mIf mt ma mb)) :=
  pe_weak (pe_ifExp hc ha hb) fun σ H Q ⟨w, ρ, z, S, q⟩ => ⟨w, ρ, z, S, q.bind.mono fun k w1 z1 H1 _ _ ⟨S1, s1, q1⟩ => by
    cases k with
    | true => exact iteT ⟨w1, ρ, z1, S1, q1⟩
    | false => exact iteF ⟨w1, ρ, z1, S1, q1⟩⟩

/-! ### argument lists, displays -/
variable {es : List Expr} {ml : M (List D)}
theorem a_nil : PA X [] (tDA Γ B Wx mNil) := pa_weak pa_nil fun σ H Q ⟨w, ρ, z, S, q⟩ => q.ok S _ .nil
theorem a_cons (ha : PE X e (tD Γ B Wx m)) (hr : PA X es (tDA Γ B Wx ml)) (hs : starEach (e :: es) X.env = (false, eval e X.env) :: starEach es X.env := by rfl) : PA X (e :: es) (tDA Γ B Wx (mCons m ml)) :=
  pa_weak (pa_cons ha hr hs) fun σ H Q ⟨w, ρ, z, S, q⟩ => ⟨w, ρ, z, S, q.bind.mono fun d w1 z1 H1 _ _ ⟨S1, s1, q1⟩ v rv => ⟨w1, ρ, z1, S1, q1.bind.mono fun ds w2 z2 H2 _ _ ⟨S2, s2, q2⟩ vs rvs => q2.ok S2 _ (.cons (rv.step s2) rvs)⟩⟩
theorem ba_nil : PA X [] (tBA Γ B Wx mNil) := pa_weak pa_nil fun σ H Q ⟨w, ρ, z, S, q⟩ => q.ok S _ .nil
theorem Paired.imp {α β : Type} {P Q : α → β → Prop} (h : ∀ a b, P a b → Q a b) : ∀ {xs : List α} {ys : List β}, Paired P xs ys → Paired Q xs ys
  | _, _, .nil => .nil
  | _, _, .cons a b => .cons (h _ _ a) (Paired.imp h b)
theorem ba_cons (ha : PE X e (tB Γ B Wx m)) (hr : PA X es (tBA Γ B Wx ml)) (hs : starEach (e :: es) X.env = (false, eval e X.env) :: starEach es X.env := by rfl) : PA X (e :: es) (tBA Γ B Wx (mCons m ml)) :=
  pa_weak (pa_cons ha hr hs) fun σ H Q ⟨w, ρ, z, S, q⟩ => ⟨w, ρ, z, S, q.bind.mono fun d w1 z1 H1 _ _ ⟨S1, s1, q1⟩ v rv => ⟨w1, ρ, z1, S1, q1.bind.mono fun ds w2 z2 H2 _ _ ⟨S2, s2, q2⟩ vs rvs => q2.ok S2 _ (.cons (rv.step s2) rvs)⟩⟩
/-- a length within the line -/
def fit (ds : List D) : Option (List D) := if ds.length ≤ sizeLine then some ds else none
theorem fit_some {ds es : List D} (h : fit ds = some es) : es = ds ∧ ds.length ≤ sizeLine := by
  unfold fit at h
  split at h
  · cases h; exact ⟨rfl, by assumption⟩
  · cases h
def mTup (ml : M (List D)) : M D := mBind ml fun ds => mOpt fun _ => (fit ds).map .tup
def mLst (ml : M (List D)) : M (List D) := mBind ml fun ds => mOpt fun _ => fit ds
theorem SI.tup {w : W} {ρ : En} {z : Z} {σ : Sl} {H : Hp} (S : SI Γ B w ρ z σ H) {ds : List D} {vs : List V} (r : RepL Γ w ds vs) {p : Addr} (hp : H p = none) :
    SI Γ B ⟨upd w.R p (.tup vs), w.pl⟩ ρ z σ (upd H p (.tup vs)) ∧ Step w H ⟨upd w.R p (.tup vs), w.pl⟩ (upd H p (.tup vs)) ∧ Rep Γ ⟨upd w.R p (.tup vs), w.pl⟩ (.tup ds) (.ref p) := by
  obtain ⟨wi, st⟩ := S.wi.new (o := .tup vs) hp
  exact ⟨S.carry wi st, st, .tup (SqT.of upd_same) (r.step st)⟩
theorem SI.lst {w : W} {ρ : En} {z : Z} {σ : Sl} {H : Hp} (S : SI Γ B w ρ z σ H) {ds : List D} {vs : List V} (r : RepL Γ w ds vs) {p : Addr} (hp : H p = none) :
    SI Γ B ⟨upd w.R p (.lst vs), w.pl⟩ ρ z σ (upd H p (.lst vs)) ∧ Step w H ⟨upd w.R p (.lst vs), w.pl⟩ (upd H p (.lst vs)) ∧ Rep Γ ⟨upd w.R p (.lst vs), w.pl⟩ (.lst ds) (.ref p) := by
  obtain ⟨wi, st⟩ := S.wi.new (o := .lst vs) hp
  exact ⟨S.carry wi st, st, .lst (SqS.of upd_same) (r.step st)⟩
theorem WI.noR {w : W} {z : Z} {H : Hp} (I : WI Γ w z H) {p : Addr} (hp : H p = none) : w.R p = none ∧ p ∉ w.pl := by
  refine ⟨?_, fun hm => ?_⟩
  · cases e : w.R p with
    | none => rfl
    | some u => have := I.le _ _ e; rw [hp] at this; cases this
  · obtain ⟨u, hu, _⟩ := I.th hm
    rw [hp] at hu; cases hu
/-- a new list that stays outside of the world -/
theorem SI.lstO {w : W} {ρ : En} {z : Z} {σ : Sl} {H : Hp} (S : SI Γ B w ρ z σ H) {ds : List D} {vs : List V} (r : RepL Γ w ds vs) {p : Addr} (hp : H p = none) :
    SI Γ B w ρ z σ (upd H p (.lst vs)) ∧ Step w H w (upd H p (.lst vs)) ∧ OwnRep Γ w (upd H p (.lst vs)) p (.lst ds) ∧ w.R p = none ∧ p ∉ w.pl := by
  obtain ⟨wi, st⟩ := S.wi.newO (o := .lst vs) hp
  exact ⟨S.carry wi st, st, ⟨vs, upd_same, r⟩, S.wi.noR hp⟩
theorem d_tup {k : Nat} (h : PA X es (tDA Γ B Wx ml)) : PE X (.Tuple es k pos) (tD Γ B Wx (mTup ml)) := pe_weak (pe_tup h) fun σ H Q ⟨w, ρ, z, S, q⟩ => ⟨w, ρ, z, S, q.bind.mono fun ds w1 z1 H1 _ _ ⟨S1, s1, q1⟩ vs rvs => by
  obtain ⟨d, hd, q2⟩ := q1.opt
  obtain ⟨ds', hf, rfl⟩ := Option.map_eq_some_iff.mp hd
  obtain ⟨rfl, hz⟩ := fit_some hf
  refine ⟨by rw [rvs.length]; exact hz, fun p hp => ?_⟩
  obtain ⟨S2, s2, r2⟩ := S1.tup rvs hp
  exact q2 _ _ S2 s2 _ r2⟩
/-- a list display: a new list of its own -/
theorem f_lst (h : PA X es (tDA Γ B Wx ml)) : PE X (.List es pos) (tF Γ B Wx (mLst ml)) := pe_weak (pe_lst h) fun σ H Q ⟨w, ρ, z, S, q⟩ => ⟨w, ρ, z, S, q.bind.mono fun ds w1 z1 H1 _ s1' ⟨S1, s1, q1⟩ vs rvs => by
  obtain ⟨ds', hf, q2⟩ := q1.opt
  obtain ⟨rfl, hz⟩ := fit_some hf
  refine ⟨by rw [rvs.length]; exact hz, fun p hp => ?_⟩
  obtain ⟨S2, s2, r2, r3, r4⟩ := S1.lstO rvs hp
  have hp0 : H p = none := by
    cases e : H p with
    | none => rfl
    | some o => obtain ⟨o', h'⟩ := s1'.y p o e; rw [h'] at hp; cases hp
  exact q2 _ _ S2 s2 p r2 r3 r4 hp0⟩
/-- a new list, frozen -/
theorem SI.frozen {w : W} {ρ : En} {z : Z} {σ : Sl} {H : Hp} (S : SI Γ B w ρ z σ H) {ds : List D} {p : Addr} (o : OwnRep Γ w H p (.lst ds)) (h1 : w.R p = none) (h2 : p ∉ w.pl) (h3 : ∀ (i : Nat) (u : OV), ρ[i]? = some (some (.own u)) → σ[i]? ≠ some (some (.ref p)))
    (h4 : B.H p = none ∨ B.w.R p ≠ none) : ∃ w', SI Γ B w' ρ z σ H ∧ (∀ d v, Rep Γ w d v → Rep Γ w' d v) ∧ Rep Γ w' (.lst ds) (.ref p) ∧ w'.pl = w.pl ∧ (∀ a o, w.R a = some o → w'.R a = some o) ∧ (∀ a, a ≠ p → w'.R a = w.R a) := by
  obtain ⟨xs, hp, r⟩ := o
  have kR : ∀ a u, w.R a = some u → upd w.R p (.lst xs) a = some u := fun a u h => by rw [upd_ne (ne_of_none h h1)]; exact h
  have mono : ∀ d v, Rep Γ w d v → Rep Γ ⟨upd w.R p (.lst xs), w.pl⟩ d v := fun d v h => Rep.mono (w := w) (w' := ⟨upd w.R p (.lst xs), w.pl⟩) kR (fun _ _ h => h) d v h
  refine ⟨⟨upd w.R p (.lst xs), w.pl⟩, ⟨S.wi.freeze hp h1 h2, ⟨fun a u h => kR _ _ (S.st.r a u h), S.st.t, S.st.k, fun a u h k => ?_, S.st.n, S.st.y⟩, S.len, fun i d h => let ⟨v, a, b⟩ := S.sh i d h; ⟨v, a, mono _ _ b⟩, fun i u h => ?_, S.dis⟩, mono, .lst (SqS.of upd_same) (RepL.mono (w := w) (w' := ⟨upd w.R p (.lst xs), w.pl⟩) kR (fun _ _ h => h) _ _ r), rfl, kR, fun a ha => upd_ne ha⟩
  · by_cases e : a = p
    · subst e
      rcases h4 with q | q
      · rw [q] at h; cases h
      · exact absurd k q
    · show upd w.R p (.lst xs) a = none
      rw [upd_ne e]; exact S.st.f a u h k
  · obtain ⟨a, g1, g2, g3, g4, g5⟩ := S.own i u h
    have ne : a ≠ p := fun e => h3 i u h (e ▸ g1)
    refine ⟨a, g1, ?_, by show upd w.R p (.lst xs) a = none; rw [upd_ne ne]; exact g3, g4, g5⟩
    cases u with
    | lst es => obtain ⟨ys, k1, k2⟩ := g2; exact ⟨ys, k1, RepL.mono (w := w) (w' := ⟨upd w.R p (.lst xs), w.pl⟩) kR (fun _ _ h => h) _ _ k2⟩
theorem SI.notOwn {w w' : W} {ρ : En} {z : Z} {σ : Sl} {H : Hp} (S : SI Γ B w ρ z σ H) {p : Addr} (hp : H p = none) : (∀ (i : Nat) (u : OV), ρ[i]? = some (some (.own u)) → σ[i]? ≠ some (some (.ref p))) ∧ B.H p = none := by
  refine ⟨fun i u h e => ?_, ?_⟩
  · obtain ⟨a, g1, g2, _⟩ := S.own i u h
    rw [g1] at e
    cases e
    obtain ⟨o, ho⟩ := g2.there
    rw [hp] at ho; cases ho
  · cases e : B.H p with
    | none => rfl
    | some o => obtain ⟨o', h'⟩ := S.st.y p o e; rw [h'] at hp; cases hp
def mFz (m : M (List D)) : M D := mMap .lst m
theorem resTo.map {α β : Type} {f : α → β} {r : M α} {w : W} {ρ : En} {z : Z} {σ : Sl} {H : Hp} {Q : β → W → Z → Hp → Prop} (h : resTo Γ B Wx w ρ σ H (mMap f r ρ z) Q) : resTo Γ B Wx w ρ σ H (r ρ z) fun a => Q (f a) := by
  unfold mMap mBind at h
  cases e : r ρ z with
  | ok a z1 => rw [e] at h; exact h
  | exc x z1 => rw [e] at h; exact h
  | bad => rw [e] at h; exact h
theorem fz_to : ∀ σ H Q, tD Γ B Wx (mFz ml) σ H Q → tF Γ B Wx ml σ H Q := fun σ H Q ⟨w, ρ, z, S, q⟩ => ⟨w, ρ, z, S, by
  have q := q.map
  cases em : ml ρ z with
  | ok ds z1 =>
    rw [em] at q
    intro w1 H1 S1 s1 p o hR hpl hp
    obtain ⟨n1, n2⟩ := S.notOwn (w' := w) hp
    obtain ⟨w2, S2, mono, r, e1, e2, e3⟩ := S1.frozen o hR hpl n1 (.inl n2)
    refine q w2 H1 S2 ⟨fun a u h => e2 _ _ (s1.r _ _ h), fun n a h => by rw [e1]; exact s1.t n a h, s1.k, fun a u h k => ?_, fun a h => s1.n a (by rw [e1] at h; exact h), s1.y⟩ _ r
    rw [e3 a (ne_of_none h hp)]
    exact s1.f a u h k
  | exc x z1 => rw [em] at q; exact q
  | bad => rw [em] at q; exact q⟩
theorem d_f (h : PE X e (tF Γ B Wx ml)) : PE X e (tD Γ B Wx (mFz ml)) := pe_weak h fz_to
end
end NW
/-! Operators by their mirrors. -/
namespace NW
open PySem PySem.Spec PyProof.Rows L2

/-- what a rule's derivation stands on -/
structure Dv (Γ : Gam) (X : Cx) (Wx : WX) (k : Nat) : Prop where
  hK : X.K = Γ.K
  calm : X.calm = true
  nd : X.N.Nodup
  room : Room k X.A
  grd : X.A.guards = some []
  tk : Takes X Wx

section
variable {X : Cx} {Γ : Gam} {B : Bs}
/-! ### reads of values by their data -/
theorem RepB.int {w : W} {H : Hp} {i : Int} {v : V} (r : RepB Γ w H (.int i) v) : v = .int i := by cases r.rep (fun _ => nofun); rfl
theorem RepB.str {w : W} {H : Hp} {i : Str} {v : V} (r : RepB Γ w H (.str i) v) : v = .str i := by cases r.rep (fun _ => nofun); rfl
theorem RepB.bl {w : W} {H : Hp} {i : Bool} {v : V} (r : RepB Γ w H (.bl i) v) : v = .bl i := by cases r.rep (fun _ => nofun); rfl
theorem RepB.non {w : W} {H : Hp} {v : V} (r : RepB Γ w H .non v) : v = .non := by cases r.rep (fun _ => nofun); rfl

/-! ### + -/
/-- a list that is read, as it lies in the heap -/
theorem rd_list {pins : List (Addr × Obj)} {σ : Sl} {H : Hp} {s : Shared} {a : Addr} {xs : List V} (I : Inv X pins σ H s) (h : SqS X.K H a xs) : ∃ (its : List Value) (n : Nat), Vals xs its ∧ s.heap.get? a = some { cls := .type "list", data := .seq its.toArray n } ∧ xs.length ≤ sizeLine := by
  rcases h with h | ⟨its, n, h1, h2, h3⟩
  · obtain ⟨z, its, n, r, e⟩ := h.ok I.hok
    exact ⟨its, n, r, e, z⟩
  · exact ⟨its.toList, n, h3, I.kIn a _ h1, by rw [h3.length]; simpa using h2⟩
def rCatL (K : PySem.W.Frag) : R2 := fun x y H Q => ∃ l b xs zs, x = .ref l ∧ y = .ref b ∧ SqS K H l xs ∧ SqS K H b zs ∧ xs.length + zs.length ≤ sizeLine ∧ ∀ p, H p = none → Q (.ref p) (upd H p (.lst (xs ++ zs)))
theorem op_catL : OpR X (binaryOp .Add) (rCatL X.K) := by
  rintro pins s σ H x y v u Q I rx ry ⟨l, b, xs, zs, rfl, rfl, hH, hB, hz, q⟩
  cases rx; cases ry
  obtain ⟨its, n, r, e, _⟩ := rd_list I hH
  obtain ⟨its2, n2, r2, e2, _⟩ := rd_list I hB
  have ea : its.toArray ++ its2.toArray = (its ++ its2).toArray := by simp
  have l1 := r.length
  have l2 := r2.length
  refine PySem.P.add_list e e2 ?_ (by rw [List.size_toArray, List.size_toArray]; omega)
  rw [ea]
  exact ⟨.ref _, _, I.lnew (t' := s.toks) (r.append r2) (by rw [List.length_append]; omega), rfl, q _ I.fresh⟩
def addD (_ : Z) : D → D → Option D
  | .int i, .int j => some (.int (i + j))
  | .str s, .str t => if s.length + t.length ≤ sizeLine then some (.str (s ++ t)) else none
  | .lst a, .lst b => if a.length + b.length ≤ sizeLine then some (.lst (a ++ b)) else none
  | .tup a, .tup b => if a.length + b.length ≤ sizeLine then some (.tup (a ++ b)) else none
  | _, _ => none
def rAddD (K : PySem.W.Frag) : R2 := fun x y H Q => rI0 (fun i j => .int (i + j)) x y H Q ∨ (∃ i j, x = .str i ∧ y = .str j ∧ i.length + j.length ≤ sizeLine ∧ Q (.str (i ++ j)) H) ∨ rCatL K x y H Q ∨ rCatA K x y H Q
theorem op_addD (hK : X.K = Γ.K) : OpR X (binaryOp .Add) (rAddD Γ.K) := by
  have h := OpR.or (op_add (X := X)) (OpR.or op_add_str (OpR.or op_catL op_catA))
  rw [hK] at h
  exact h
theorem od_add : OpD Γ B (rAddD Γ.K) addD := by
  intro Wx w ρ z σ H d e d' v u Q S rv ru h q
  unfold addD at h
  split at h
  · cases rv.int; cases ru.int; cases h
    exact .inl ⟨_, _, rfl, rfl, q.ok S _ (.int _)⟩
  · cases rv.str; cases ru.str
    split at h
    · cases h
      exact .inr (.inl ⟨_, _, rfl, rfl, by assumption, q.ok S _ (.str _)⟩)
    · cases h
  · obtain ⟨a, xs, rfl, h1, h2⟩ := rv.list S
    obtain ⟨b, ys, rfl, g1, g2⟩ := ru.list S
    split at h
    · cases h
      refine .inr (.inr (.inl ⟨a, b, xs, ys, rfl, rfl, h1, g1, by rw [h2.length, g2.length]; assumption, fun p hp => ?_⟩))
      obtain ⟨S1, s1, r1⟩ := S.lst (h2.append g2) hp
      exact q _ _ S1 s1 _ r1
    · cases h
  · obtain ⟨a, xs, rfl, h1, h2⟩ := rv.tuple S
    obtain ⟨b, ys, rfl, g1, g2⟩ := ru.tuple S
    have rv' := rv.rep (fun _ => nofun)
    have ru' := ru.rep (fun _ => nofun)
    split at h
    · cases h
      refine .inr (.inr (.inr ⟨a, b, xs, ys, rfl, rfl, h1, g1, by rw [h2.length, g2.length]; assumption, fun hx => ?_, fun _ hy => ?_, fun _ _ p hp => ?_⟩))
      · subst hx
        cases h2
        exact q.ok S _ ru'
      · subst hy
        cases g2
        rw [List.append_nil] at q
        exact q.ok S _ rv'
      · obtain ⟨S1, s1, r1⟩ := S.tup (h2.append g2) hp
        exact q _ _ S1 s1 _ r1
    · cases h
  · cases h

/-! ### ints -/
def int2 (f : Int → Int → Option D) (_ : Z) : D → D → Option D
  | .int i, .int j => f i j
  | _, _ => none
theorem int2_some {f : Int → Int → Option D} {z : Z} {d e x : D} (h : int2 f z d e = some x) : ∃ i j, d = .int i ∧ e = .int j ∧ f i j = some x := by
  unfold int2 at h
  split at h
  · exact ⟨_, _, rfl, rfl, h⟩
  · cases h
theorem od_I {C : Int → Int → Prop} {g : Int → Int → Int} {f : Int → Int → Option D} (hf : ∀ i j x, f i j = some x → x = .int (g i j) ∧ C i j) : OpD Γ B (rI C fun i j => .int (g i j)) (int2 f) := by
  intro Wx w ρ z σ H d e d' v u Q S rv ru h q
  obtain ⟨i, j, rfl, rfl, h⟩ := int2_some h
  obtain ⟨rfl, hc⟩ := hf _ _ _ h
  cases rv.int; cases ru.int
  exact ⟨_, _, rfl, rfl, hc, q.ok S _ (.int _)⟩
def subI (i j : Int) : Option D := some (.int (i - j))
def mulI (i j : Int) : Option D := if (-(2 ^ 64) < i ∧ i < 2 ^ 64) ∨ (-(2 ^ 64) < j ∧ j < 2 ^ 64) then some (.int (i * j)) else none
def modI (i j : Int) : Option D := if 0 < j then some (.int (i % j)) else none
def divI (i j : Int) : Option D := if 0 < j ∧ j < 1073741824 then some (.int (i / j)) else none
def powI (i j : Int) : Option D := if 0 ≤ j ∧ j ≤ 1000000 ∧ i.natAbs < 2 ^ 64 then some (.int (i ^ j.toNat)) else none
theorem od_sub : OpD Γ B (rI0 fun i j => .int (i - j)) (int2 subI) := by
  intro Wx w ρ z σ H d e d' v u Q S rv ru h q
  obtain ⟨i, j, rfl, rfl, h⟩ := int2_some h
  cases h
  cases rv.int; cases ru.int
  exact ⟨_, _, rfl, rfl, q.ok S _ (.int _)⟩
theorem ite_some {c : Prop} [Decidable c] {α : Type} {x y : α} (h : (if c then some x else none) = some y) : y = x ∧ c := by
  split at h
  · cases h; exact ⟨rfl, by assumption⟩
  · cases h
theorem od_mul : OpD Γ B (rI CMul fun i j => .int (i * j)) (int2 mulI) := od_I fun i j x h => by unfold mulI at h; have q := ite_some h; exact q
theorem od_mod : OpD Γ B (rI (fun _ j => 0 < j) fun i j => .int (i % j)) (int2 modI) := od_I fun i j x h => by unfold modI at h; have q := ite_some h; exact q
theorem od_div : OpD Γ B (rI CDiv fun i j => .int (i / j)) (int2 divI) := od_I fun i j x h => by unfold divI at h; have q := ite_some h; exact q
theorem od_pow : OpD Γ B (rI CPow fun i j => .int (i ^ j.toNat)) (int2 powI) := od_I fun i j x h => by unfold powI at h; have q := ite_some h; exact q

/-! ### order -/
def cmpI (p : Int → Int → Bool) (_ : Z) : D → D → Option Bool
  | .int i, .int j => some (p i j)
  | _, _ => none
theorem ob_I {p : Int → Int → Bool} : OpB Γ B (rI0 fun i j => .bl (p i j)) (cmpI p) := by
  intro w ρ z σ H d e k v u Q S rv ru h q
  unfold cmpI at h
  split at h
  · cases h
    cases rv.int; cases ru.int
    exact ⟨_, _, rfl, rfl, q⟩
  · cases h
abbrev ltI := cmpI fun i j => decide (i < j)
abbrev leI := cmpI fun i j => decide (i ≤ j)
abbrev gtI := cmpI fun i j => decide (j < i)
abbrev geI := cmpI fun i j => decide (j ≤ i)
/-- is None, is not None -/
def nonB : D → Bool
  | .non => true
  | _ => false
def isN (_ : Z) (d e : D) : Option Bool := match e with
  | .non => some (nonB d)
  | _ => none
def isNN (_ : Z) (d e : D) : Option Bool := match e with
  | .non => some (!nonB d)
  | _ => none
theorem rep_non {w : W} {H : Hp} {d : D} {v : V} (r : RepB Γ w H d v) : decide (v = .non) = nonB d := by
  cases r with
  | of r => cases r <;> rfl
  | own _ _ _ => rfl
theorem ob_isN : OpB Γ B (fun x y H Q => y = .non ∧ Q (.bl (decide (x = .non))) H) isN := by
  intro w ρ z σ H d e k v u Q S rv ru h q
  unfold isN at h
  split at h
  · cases h
    cases ru.non
    exact ⟨rfl, by rw [rep_non rv]; exact q⟩
  · cases h
theorem ob_isNN : OpB Γ B (fun x y H Q => y = .non ∧ Q (.bl (!decide (x = .non))) H) isNN := by
  intro w ρ z σ H d e k v u Q S rv ru h q
  unfold isNN at h
  split at h
  · cases h
    cases ru.non
    exact ⟨rfl, by rw [rep_non rv]; exact q⟩
  · cases h

/-! ### == by data -/
mutual
def toPy : D → Option PyData
  | .non => some .none
  | .bl b => some (.bool b)
  | .int i => some (.int i)
  | .str x => some (.str x)
  | .tup ds => (toPys ds).map .tuple
  | .lst ds => (toPys ds).map .list
  | .obj _ _ _ => none
  | .mob _ => none
def toPys : List D → Option (List PyData)
  | [] => some []
  | d :: ds => (toPy d).bind fun p => (toPys ds).map fun ps => p :: ps
end
mutual
theorem Rep.dp {w : W} {K : PySem.W.Frag} {H : Hp} (hK : K = Γ.K) (le : ∀ a o, w.R a = some o → H a = some o) : ∀ (d : D) (v : V) (p : PyData), Rep Γ w d v → toPy d = some p → Dp K H v p
  | .non, _, _, r, h => by cases r; cases h; exact .non
  | .bl b, _, _, r, h => by cases r; cases h; exact .bl b
  | .int i, _, _, r, h => by cases r; cases h; exact .int i
  | .str x, _, _, r, h => by cases r; cases h; exact .str x
  | .tup ds, _, _, r, h => by
    unfold toPy at h
    obtain ⟨ps, h1, rfl⟩ := Option.map_eq_some_iff.mp h
    cases r with
    | tup g1 g2 => exact .tup (by rw [hK]; exact SqT.le le g1) (RepL.dp hK le ds _ ps g2 h1)
  | .lst ds, _, _, r, h => by
    unfold toPy at h
    obtain ⟨ps, h1, rfl⟩ := Option.map_eq_some_iff.mp h
    cases r with
    | lst g1 g2 => exact .lst (by rw [hK]; exact (SqS.le le g1).sq) (RepL.dp hK le ds _ ps g2 h1)
  | .obj _ _ _, _, _, _, h => by unfold toPy at h; cases h
  | .mob _, _, _, _, h => by unfold toPy at h; cases h
theorem RepL.dp {w : W} {K : PySem.W.Frag} {H : Hp} (hK : K = Γ.K) (le : ∀ a o, w.R a = some o → H a = some o) : ∀ (ds : List D) (vs : List V) (ps : List PyData), RepL Γ w ds vs → toPys ds = some ps → DpAll K H vs ps
  | [], _, _, r, h => by cases r; cases h; exact .nil
  | d :: ds, _, _, r, h => by
    unfold toPys at h
    obtain ⟨p, h1, h2⟩ := Option.bind_eq_some_iff.mp h
    obtain ⟨ps, h3, rfl⟩ := Option.map_eq_some_iff.mp h2
    cases r with
    | cons g1 g2 => exact .cons (Rep.dp hK le d _ p g1 h1) (RepL.dp hK le ds _ ps g2 h3)
end
theorem RepB.dp {w : W} {K : PySem.W.Frag} {H : Hp} (hK : K = Γ.K) (le : ∀ a o, w.R a = some o → H a = some o) {d : D} {v : V} {p : PyData} (r : RepB Γ w H d v) (h : toPy d = some p) : Dp K H v p := by
  cases r with
  | of r => exact Rep.dp hK le d v p r h
  | own g1 _ _ =>
    unfold toPy at h
    obtain ⟨ps, h1, rfl⟩ := Option.map_eq_some_iff.mp h
    obtain ⟨xs, g3, g4⟩ := g1
    exact .lst (.inl (.inl g3)) (RepL.dp hK le _ _ ps g4 h1)
def eqG (d e : D) : Option Bool := (toPy d).bind fun p => (toPy e).bind fun q => if SeqAt.shaped p = true ∧ SeqAt.shaped q = true then some (PyData.eqv p q) else none
def eqD (_ : Z) : D → D → Option Bool
  | .int a, .int b => some (decide (a = b))
  | .str a, .str b => some (decide (a = b))
  | .bl a, .bl b => some (decide (a = b))
  | d, e => eqG d e
def neD (z : Z) (d e : D) : Option Bool := (eqD z d e).map (!·)
theorem eqG_some {d e : D} {k : Bool} (h : eqG d e = some k) : ∃ p q, toPy d = some p ∧ toPy e = some q ∧ SeqAt.shaped p = true ∧ SeqAt.shaped q = true ∧ k = PyData.eqv p q := by
  unfold eqG at h
  obtain ⟨p, h1, h⟩ := Option.bind_eq_some_iff.mp h
  obtain ⟨q, h2, h⟩ := Option.bind_eq_some_iff.mp h
  obtain ⟨h3, h4, h5⟩ := ite_some h
  exact ⟨p, q, h1, h2, h4, h5, h3⟩
def rEqS (K : PySem.W.Frag) : R2 := fun x y H Q => rEq x y H Q ∨ rEqD K x y H Q
def rNeS (K : PySem.W.Frag) : R2 := fun x y H Q => rNe x y H Q ∨ rNeD K x y H Q
theorem op_eqS (hu : X.A.units + 64 < cLine) : OpR X (compareOp .Eq) (rEqS X.K) := OpR.or op_eq (op_eqD hu)
theorem op_neS (hu : X.A.units + 64 < cLine) : OpR X (compareOp .NotEq) (rNeS X.K) := OpR.or op_ne (op_neD hu)
theorem eqD_cases {w : W} {H : Hp} {z : Z} {d e : D} {k : Bool} {v u : V} (h : eqD z d e = some k) (rv : RepB Γ w H d v) (ru : RepB Γ w H e u) : (scal v u = true ∧ k = decide (v = u)) ∨ eqG d e = some k := by
  unfold eqD at h
  split at h
  · cases rv.int; cases ru.int; cases h
    exact .inl ⟨rfl, by simp⟩
  · cases rv.str; cases ru.str; cases h
    exact .inl ⟨rfl, by simp⟩
  · cases rv.bl; cases ru.bl; cases h
    exact .inl ⟨rfl, by simp⟩
  · exact .inr h
theorem ob_eq (hK : X.K = Γ.K) : OpB Γ B (rEqS X.K) eqD := by
  intro w ρ z σ H d e k v u Q S rv ru h q
  rcases eqD_cases h rv ru with ⟨h1, rfl⟩ | h
  · exact .inl ⟨h1, q⟩
  · obtain ⟨p, p', h1, h2, h3, h4, rfl⟩ := eqG_some h
    exact .inr ⟨p, p', rv.dp hK S.wi.le h1, ru.dp hK S.wi.le h2, h3, h4, q⟩
theorem ob_ne (hK : X.K = Γ.K) : OpB Γ B (rNeS X.K) neD := by
  intro w ρ z σ H d e k v u Q S rv ru h q
  unfold neD at h
  obtain ⟨k', h', rfl⟩ := Option.map_eq_some_iff.mp h
  rcases eqD_cases h' rv ru with ⟨h1, rfl⟩ | h'
  · exact .inl ⟨h1, q⟩
  · obtain ⟨p, p', h1, h2, h3, h4, rfl⟩ := eqG_some h'
    exact .inr ⟨p, p', rv.dp hK S.wi.le h1, ru.dp hK S.wi.le h2, h3, h4, q⟩
/-- a text in a text -/
def inS (_ : Z) : D → D → Option Bool
  | .str i, .str j => some (!(Builtin.Str.occurrences j i 0 j.length 1).isEmpty)
  | _, _ => none
theorem ob_inS : OpB Γ B (fun x y H Q => ∃ i j, x = .str i ∧ y = .str j ∧ Q (.bl (!(Builtin.Str.occurrences j i 0 j.length 1).isEmpty)) H) inS := by
  intro w ρ z σ H d e k v u Q S rv ru h q
  unfold inS at h
  split at h
  · cases h
    cases rv.str; cases ru.str
    exact ⟨_, _, rfl, rfl, q⟩
  · cases h

/-! ### subscripts -/
def ixD (z : Z) : D → D → Option D
  | .lst ds, .int i => atI ds i
  | .tup ds, .int i => atI ds i
  | .str x, .int i => if x.length ≤ sizeLine then (atI x.cps.toList i).map fun c => .str ⟨#[c]⟩ else none
  | .mob n, .int i => match z[n]? with
    | some (.lst ds) => atI ds i
    | _ => none
  | _, _ => none
theorem atI_rep {w : W} {ds : List D} {vs : List V} {i : Int} {d : D} (r : RepL Γ w ds vs) (h : atI ds i = some d) : ∃ v, atI vs i = some v ∧ Rep Γ w d v := by
  unfold atI at h ⊢
  obtain ⟨j, h1, h2⟩ := Option.bind_eq_some_iff.mp h
  obtain ⟨v, h3, h4⟩ := r.get h2
  exact ⟨v, by rw [r.length, h1]; exact h3, h4⟩
theorem od_ix : OpD Γ B (rIx Γ.K) ixD := by
  intro Wx w ρ z σ H d e d' v u Q S rv ru h q
  unfold ixD at h
  split at h
  · obtain ⟨a, xs, rfl, h1, h2⟩ := rv.list S
    cases ru.int
    obtain ⟨v', h3, h4⟩ := atI_rep h2 h
    exact .inl ⟨a, xs, _, v', rfl, rfl, h1.sq, h3, q.ok S _ h4⟩
  · obtain ⟨a, xs, rfl, h1, h2⟩ := rv.tuple S
    cases ru.int
    obtain ⟨v', h3, h4⟩ := atI_rep h2 h
    exact .inr (.inl ⟨a, xs, _, v', rfl, rfl, h1, h3, q.ok S _ h4⟩)
  · cases rv.str; cases ru.int
    split at h
    · obtain ⟨c, h1, rfl⟩ := Option.map_eq_some_iff.mp h
      exact .inr (.inr ⟨_, _, c, rfl, rfl, by assumption, h1, q.ok S _ (.str _)⟩)
    · cases h
  · split at h
    · rename_i ds hz
      obtain ⟨a, xs, rfl, _, h1, h2⟩ := rv.mobl S hz
      cases ru.int
      obtain ⟨v', h3, h4⟩ := atI_rep h2 h
      exact .inl ⟨a, xs, _, v', rfl, rfl, SqL.of h1, h3, q.ok S _ h4⟩
    · cases h
  · cases h
variable {Wx : WX} {k : Nat} {a b e : Expr} {ma mb : M D} {pos : Pos}
theorem d_ix (hK : X.K = Γ.K) (ha : PE X a (tB Γ B Wx ma)) (hb : PE X b (tB Γ B Wx mb)) (hs : PlainIx b := by intro _ _; rfl) : PE X (.Subscript a b pos) (tD Γ B Wx (mOp2 ixD ma mb)) :=
  pe_weak (pe_ix ix_seq ha hb hs) (by rw [hK]; exact op2_to od_ix)

/-! ### slices -/
def cutL {α : Type} (xs : List α) (lo hi : Option Int) : List α := (xs.drop (HT.sIx xs.length 0 lo)).take (HT.sIx xs.length xs.length hi - HT.sIx xs.length 0 lo)
def tO (m : M (Option Int)) : TO := fun σ H Q => ∃ w ρ z, SI Γ B w ρ z σ H ∧ resTo Γ B Wx w ρ σ H (m ρ z) fun o _ _ H' => Q o H'
theorem o_none : PO X none (tO (Γ := Γ) (B := B) (Wx := Wx) (mRet none)) := ⟨fun pins s σ H Q I ⟨w, ρ, z, S, q⟩ => po_none.run pins s σ H Q I (q.ok S)⟩
def toI : D → Option Int
  | .int i => some i
  | _ => none
theorem toI_some {d : D} {i : Int} (h : toI d = some i) : d = .int i := by
  unfold toI at h
  split at h
  · cases h; rfl
  · cases h
theorem o_some (h : PE X e (tB Γ B Wx ma)) : PO X (some e) (tO (Γ := Γ) (B := B) (Wx := Wx) (mOp1 (fun _ d => (toI d).map some) ma)) := ⟨fun pins s σ H Q I ⟨w, ρ, z, S, q⟩ => (po_some h).run pins s σ H Q I
  ⟨w, ρ, z, S, q.bind.mono fun d w1 z1 H1 _ _ ⟨S1, s1, q1⟩ v rv => by
    obtain ⟨o, ho, q2⟩ := q1.opt
    obtain ⟨i, hi, rfl⟩ := Option.map_eq_some_iff.mp ho
    cases toI_some hi
    cases rv.int
    exact ⟨_, rfl, q2.ok S1⟩⟩⟩
/-- of a tuple or a text -/
def slD (_ : Z) (d : D) (lo hi : Option Int) : Option D := match d with
  | .tup ds => some (.tup (cutL ds lo hi))
  | .str x => if x.length ≤ sizeLine then some (.str (cutS x lo hi)) else none
  | _ => none
def slL (z : Z) (d : D) (lo hi : Option Int) : Option (List D) := match d with
  | .lst ds => some (cutL ds lo hi)
  | .mob n => match z[n]? with
    | some (.lst ds) => some (cutL ds lo hi)
    | _ => none
  | _ => none
def mSl {α : Type} (f : Z → D → Option Int → Option Int → Option α) (m : M D) (lo hi : M (Option Int)) : M α := mBind m fun d => mBind lo fun l => mBind hi fun h => mOpt fun z => f z d l h
theorem cutV_rep {w : W} {ds : List D} {vs : List V} (r : RepL Γ w ds vs) (lo hi : Option Int) : RepL Γ w (cutL ds lo hi) (cutV vs lo hi) := by
  unfold cutL cutV
  rw [r.length]
  exact (r.drop _).take _
theorem cutL_length {α : Type} (xs : List α) (lo hi : Option Int) : (cutL xs lo hi).length ≤ xs.length := by
  unfold cutL
  rw [List.length_take, List.length_drop]
  omega
theorem cutL_whole {α : Type} {xs : List α} {lo hi : Option Int} (h : HT.sIx xs.length 0 lo = 0 ∧ HT.sIx xs.length xs.length hi = xs.length) : cutL xs lo hi = xs := by
  unfold cutL
  rw [h.1, h.2, List.drop_zero, Nat.sub_zero, List.take_length]
variable {lo hi : Option Expr} {ml mh : M (Option Int)} {p2 : Pos}
theorem d_slT (hK : X.K = Γ.K) (he : PE X e (tB Γ B Wx ma)) (hl : PO X lo (tO (Γ := Γ) (B := B) (Wx := Wx) ml)) (hh : PO X hi (tO (Γ := Γ) (B := B) (Wx := Wx) mh)) : PE X (.Subscript e (.Slice lo hi none p2) pos) (tD Γ B Wx (mSl slD ma ml mh)) :=
  pe_weak (pe_slice (SlR.or sl_tupA sl_str) he hl hh) fun σ H Q ⟨w, ρ, z, S, q⟩ => ⟨w, ρ, z, S, q.bind.mono fun d w1 z1 H1 _ _ ⟨S1, s1, q1⟩ v rv => ⟨w1, ρ, z1, S1, q1.bind.mono fun l w2 z2 H2 _ _ ⟨S2, s2, q2⟩ =>
    ⟨w2, ρ, z2, S2, q2.bind.mono fun h w3 z3 H3 _ _ ⟨S3, s3, q3⟩ => by
      obtain ⟨d', hd, q4⟩ := q3.opt
      have rv3 := (rv.step s2).step s3
      unfold slD at hd
      split at hd
      · cases hd
        have rv' := rv3.rep (fun _ => nofun)
        obtain ⟨a, xs, rfl, h1, h2⟩ := rv3.tuple S3
        refine .inl ⟨a, xs, rfl, by rw [hK]; exact h1, fun hw => ?_, fun _ p hp => ?_⟩
        · rw [h2.length] at hw
          rw [cutL_whole hw] at q4
          exact q4.ok S3 _ rv'
        · obtain ⟨S4, s4, r4⟩ := S3.tup (cutV_rep h2 l h) hp
          exact q4 _ _ S4 s4 _ r4
      · cases rv3.str
        split at hd
        · cases hd
          exact .inr ⟨_, rfl, by assumption, q4.ok S3 _ (.str _)⟩
        · cases hd
      · cases hd⟩⟩⟩
/-- of a list: a new list of its own -/
theorem f_slL (hK : X.K = Γ.K) (he : PE X e (tB Γ B Wx ma)) (hl : PO X lo (tO (Γ := Γ) (B := B) (Wx := Wx) ml)) (hh : PO X hi (tO (Γ := Γ) (B := B) (Wx := Wx) mh)) : PE X (.Subscript e (.Slice lo hi none p2) pos) (tF Γ B Wx (mSl slL ma ml mh)) :=
  pe_weak (pe_slice sl_list he hl hh) fun σ H Q ⟨w, ρ, z, S, q⟩ => ⟨w, ρ, z, S, q.bind.mono fun d w1 z1 H1 _ t1 ⟨S1, s1, q1⟩ v rv => ⟨w1, ρ, z1, S1, q1.bind.mono fun l w2 z2 H2 _ t2 ⟨S2, s2, q2⟩ =>
    ⟨w2, ρ, z2, S2, q2.bind.mono fun h w3 z3 H3 _ t3 ⟨S3, s3, q3⟩ => by
      obtain ⟨ds', hd, q4⟩ := q3.opt
      have rv3 := (rv.step s2).step s3
      have fin : ∀ {a : Addr} {xs : List V} {ds : List D}, ds' = cutL ds l h → SqS Γ.K H3 a xs → RepL Γ w3 ds xs → v = .ref a → rSlL X.K v l h H3 Q := fun {a xs ds} e h1 h2 hv => by
        subst e
        refine ⟨a, xs, hv, by rw [hK]; exact h1.sq, fun p hp => ?_⟩
        obtain ⟨S4, s4, r4, r5, r6⟩ := S3.lstO (cutV_rep h2 l h) hp
        have hp0 : H p = none := by
          cases e : H p with
          | none => rfl
          | some o => obtain ⟨o', h'⟩ := ((t1.trans t2).trans t3).y p o e; rw [h'] at hp; cases hp
        exact q4 _ _ S4 s4 p r4 r5 r6 hp0
      unfold slL at hd
      split at hd
      · cases hd
        obtain ⟨a, xs, hv, h1, h2⟩ := rv3.list S3
        exact fin rfl h1 h2 hv
      · split at hd
        · rename_i ds hz
          cases hd
          obtain ⟨a, xs, hv, _, h1, h2⟩ := rv3.mobl S3 hz
          exact fin rfl (SqS.of h1) h2 hv
        · cases hd
      · cases hd⟩⟩⟩
end
end NW
/-! Built-in calls, methods of texts, what is walked, list comprehensions. -/
namespace NW
open PySem PySem.Spec PyProof.Rows L2

section
variable {X : Cx} {Γ : Gam} {B : Bs} {Wx : WX} {k : Nat} {a b e : Expr} {es : List Expr} {m ma mb : M D} {ml : M (List D)} {pos : Pos}
/-! ### calls of built-ins -/
abbrev PR (Γ : Gam) (w : W) (H : Hp) : List D → List V → Prop := Paired (fun d v => RepB Γ w H d v)
abbrev RC := List V → Hp → VK → Prop
def OpC (Γ : Gam) (B : Bs) (r : RC) (f : Z → List D → Option D) : Prop := ∀ {Wx : WX} {w : W} {ρ : En} {z : Z} {σ : Sl} {H : Hp} {ds : List D} {d' : D} {vs : List V} {Q : VK},
  SI Γ B w ρ z σ H → PR Γ w H ds vs → f z ds = some d' → resTo Γ B Wx w ρ σ H (.ok d' z) (fun d w' _ H' => ∀ v, Rep Γ w' d v → Q v H') → r vs H Q
/-- one that makes a new list -/
def OpCF (Γ : Gam) (B : Bs) (r : RC) (f : Z → List D → Option (List D)) : Prop := ∀ {Wx : WX} {w : W} {ρ : En} {z : Z} {σ : Sl} {H : Hp} {ds es : List D} {vs : List V} {Q : VK},
  SI Γ B w ρ z σ H → PR Γ w H ds vs → f z ds = some es → resTo Γ B Wx w ρ σ H (.ok es z) (fun ds w' _ H' => ∀ p, OwnRep Γ w' H' p (.lst ds) → w'.R p = none → p ∉ w'.pl → H p = none → Q (.ref p) H') → r vs H Q
def mCall {α : Type} (f : Z → List D → Option α) (ml : M (List D)) : M α := mBind ml fun ds => mOpt fun z => f z ds
theorem callD_to {r : RC} {f : Z → List D → Option D} (hf : OpC Γ B r f) : ∀ σ H Q, tD Γ B Wx (mCall f ml) σ H Q → tCB r (tBA Γ B Wx ml) σ H Q := fun σ H Q ⟨w, ρ, z, S, q⟩ =>
  ⟨w, ρ, z, S, q.bind.mono fun ds w1 z1 H1 _ _ ⟨S1, s1, q1⟩ vs rvs => by
    obtain ⟨d', hd, q2⟩ := q1.opt
    exact hf S1 rvs hd q2⟩
theorem none_back {w w' : W} {H H' : Hp} (s : Step w H w' H') {p : Addr} (h : H' p = none) : H p = none := by
  cases e : H p with
  | none => rfl
  | some o => obtain ⟨o', h'⟩ := s.y p o e; rw [h'] at h; cases h
theorem callF_to {r : RC} {f : Z → List D → Option (List D)} (hf : OpCF Γ B r f) : ∀ σ H Q, tF Γ B Wx (mCall f ml) σ H Q → tCB r (tBA Γ B Wx ml) σ H Q := fun σ H Q ⟨w, ρ, z, S, q⟩ =>
  ⟨w, ρ, z, S, q.bind.mono fun ds w1 z1 H1 _ t1 ⟨S1, s1, q1⟩ vs rvs => by
    obtain ⟨d', hd, q2⟩ := q1.opt
    exact hf S1 rvs hd (q2.mono fun _ _ _ _ _ _ k p o1 o2 o3 hp => k p o1 o2 o3 (none_back t1 hp))⟩
variable {x : Str} {p : Pos} {id T : String} {r : RC}
theorem d_callB {f : Z → List D → Option D} (hc : CallR X (.builtin id) r) (hf : OpC Γ B r f) (hm : X.mg x = none) (hv : bootBuiltins x = some (.builtin id)) (ha : PA X (e :: es) (tBA Γ B Wx ml)) (hg : Gl X x := by rfl) (hn : x ≠ "__name__" := by decide) (hdb : (x == ("__debug__" : Str)) = false := by decide)
    (he : starEach (e :: es) X.env = (false, eval e X.env) :: starEach es X.env := by rfl) (hpl : (backTo pos (starEach es X.env)).any (·.1) = false := by rfl) : PE X (.Call (.Name x p) (e :: es) [] pos) (tD Γ B Wx (mCall f ml)) := pe_weak (pe_callB hc hg hm hv ha hn hdb he hpl) (callD_to hf)
theorem f_callB {f : Z → List D → Option (List D)} (hc : CallR X (.builtin id) r) (hf : OpCF Γ B r f) (hm : X.mg x = none) (hv : bootBuiltins x = some (.builtin id)) (ha : PA X (e :: es) (tBA Γ B Wx ml)) (hg : Gl X x := by rfl) (hn : x ≠ "__name__" := by decide) (hdb : (x == ("__debug__" : Str)) = false := by decide)
    (he : starEach (e :: es) X.env = (false, eval e X.env) :: starEach es X.env := by rfl) (hpl : (backTo pos (starEach es X.env)).any (·.1) = false := by rfl) : PE X (.Call (.Name x p) (e :: es) [] pos) (tF Γ B Wx (mCall f ml)) := pe_weak (pe_callB hc hg hm hv ha hn hdb he hpl) (callF_to hf)
theorem d_callTy {f : Z → List D → Option D} (hc : CallR X (.type T) r) (hf : OpC Γ B r f) (hm : X.mg x = none) (hv : bootBuiltins x = some (.type T)) (ha : PA X (e :: es) (tBA Γ B Wx ml)) (hg : Gl X x := by rfl) (hn : x ≠ "__name__" := by decide) (hdb : (x == ("__debug__" : Str)) = false := by decide)
    (he : starEach (e :: es) X.env = (false, eval e X.env) :: starEach es X.env := by rfl) (hpl : (backTo pos (starEach es X.env)).any (·.1) = false := by rfl) : PE X (.Call (.Name x p) (e :: es) [] pos) (tD Γ B Wx (mCall f ml)) := pe_weak (pe_callTy hc hg hm hv ha hn hdb he hpl) (callD_to hf)
theorem f_callTy {f : Z → List D → Option (List D)} (hc : CallR X (.type T) r) (hf : OpCF Γ B r f) (hm : X.mg x = none) (hv : bootBuiltins x = some (.type T)) (ha : PA X (e :: es) (tBA Γ B Wx ml)) (hg : Gl X x := by rfl) (hn : x ≠ "__name__" := by decide) (hdb : (x == ("__debug__" : Str)) = false := by decide)
    (he : starEach (e :: es) X.env = (false, eval e X.env) :: starEach es X.env := by rfl) (hpl : (backTo pos (starEach es X.env)).any (·.1) = false := by rfl) : PE X (.Call (.Name x p) (e :: es) [] pos) (tF Γ B Wx (mCall f ml)) := pe_weak (pe_callTy hc hg hm hv ha hn hdb he hpl) (callF_to hf)
theorem pr1 {w : W} {H : Hp} {d : D} {vs : List V} (r : PR Γ w H [d] vs) : ∃ v, vs = [v] ∧ RepB Γ w H d v := by
  cases r with
  | cons h r => cases r; exact ⟨_, rfl, h⟩
theorem pr2 {w : W} {H : Hp} {d d' : D} {vs : List V} (r : PR Γ w H [d, d'] vs) : ∃ v u, vs = [v, u] ∧ RepB Γ w H d v ∧ RepB Γ w H d' u := by
  cases r with
  | cons h r => cases r with
    | cons h' r => cases r; exact ⟨_, _, rfl, h, h'⟩
/-- len -/
def lenD (z : Z) : List D → Option D
  | [.lst ds] => some (.int ds.length)
  | [.tup ds] => some (.int ds.length)
  | [.str x] => if x.length ≤ sizeLine then some (.int x.length) else none
  | [.mob n] => match z[n]? with
    | some (.lst ds) => some (.int ds.length)
    | _ => none
  | _ => none
theorem oc_len : OpC Γ B (fun xs H Q => ∃ x n, xs = [x] ∧ LenV Γ.K x H n ∧ Q (.int n) H) lenD := by
  intro Wx w ρ z σ H ds d' vs Q S rvs h q
  unfold lenD at h
  split at h
  · cases h
    obtain ⟨v, rfl, r⟩ := pr1 rvs
    obtain ⟨a, xs, rfl, h1, h2⟩ := r.list S
    exact ⟨_, _, rfl, .inl ⟨xs, h1.sq, h2.length.symm⟩, q.ok S _ (.int _)⟩
  · cases h
    obtain ⟨v, rfl, r⟩ := pr1 rvs
    obtain ⟨a, xs, rfl, h1, h2⟩ := r.tuple S
    exact ⟨_, _, rfl, .inr ⟨xs, h1, h2.length.symm⟩, q.ok S _ (.int _)⟩
  · obtain ⟨v, rfl, r⟩ := pr1 rvs
    cases r.str
    split at h
    · cases h
      exact ⟨_, _, rfl, ⟨by assumption, rfl⟩, q.ok S _ (.int _)⟩
    · cases h
  · obtain ⟨v, rfl, r⟩ := pr1 rvs
    split at h
    · rename_i ds hz
      cases h
      obtain ⟨a, xs, rfl, _, h1, h2⟩ := r.mobl S hz
      exact ⟨_, _, rfl, .inl ⟨xs, SqL.of h1, h2.length.symm⟩, q.ok S _ (.int _)⟩
    · cases h
  · cases h
theorem cr_len (hK : X.K = Γ.K) : CallR X (.builtin "len") (fun xs H Q => ∃ x n, xs = [x] ∧ LenV Γ.K x H n ∧ Q (.int n) H) := by rw [← hK]; exact call_len
/-- int(n), int(True) -/
def intD (_ : Z) : List D → Option D
  | [.int i] => some (.int i)
  | [.bl b] => some (.int (if b then 1 else 0))
  | _ => none
theorem oc_int : OpC Γ B (fun xs H Q => (∃ i, xs = [.int i] ∧ Q (.int i) H) ∨ ∃ k, xs = [.bl k] ∧ Q (.int (if k then 1 else 0)) H) intD := by
  intro Wx w ρ z σ H ds d' vs Q S rvs h q
  unfold intD at h
  split at h
  · cases h
    obtain ⟨v, rfl, r⟩ := pr1 rvs
    cases r.int
    exact .inl ⟨_, rfl, q.ok S _ (.int _)⟩
  · cases h
    obtain ⟨v, rfl, r⟩ := pr1 rvs
    cases r.bl
    exact .inr ⟨_, rfl, q.ok S _ (.int _)⟩
  · cases h
/-- all, any of a list of truths -/
def blsOf : List D → Option (List Bool)
  | [] => some []
  | .bl b :: r => (blsOf r).map (b :: ·)
  | _ :: _ => none
theorem blsOf_rep {w : W} : ∀ {ds : List D} {vs : List V} {bs : List Bool}, RepL Γ w ds vs → blsOf ds = some bs → vs = bs.map V.bl
  | [], _, _, r, h => by cases r; cases h; rfl
  | d :: ds, _, _, r, h => by
    cases r with
    | cons h1 h2 =>
      unfold blsOf at h
      split at h
      · rename_i e; cases e
      · rename_i e
        cases e
        obtain ⟨bs, h3, rfl⟩ := Option.map_eq_some_iff.mp h
        cases h1
        rw [blsOf_rep h2 h3]; rfl
      · cases h
def allD (f : List Bool → Bool) (_ : Z) : List D → Option D
  | [.lst ds] => (blsOf ds).map fun bs => .bl (f bs)
  | _ => none
theorem oc_bls {f : List Bool → Bool} : OpC Γ B (fun vs H Q => ∃ (a : Addr) (bs : List Bool), vs = [V.ref a] ∧ SqL Γ.K H a (bs.map V.bl) ∧ Q (.bl (f bs)) H) (allD f) := by
  intro Wx w ρ z σ H ds d' vs Q S rvs h q
  unfold allD at h
  split at h
  · obtain ⟨bs, h1, rfl⟩ := Option.map_eq_some_iff.mp h
    obtain ⟨v, rfl, r⟩ := pr1 rvs
    obtain ⟨a, xs, rfl, h3, h4⟩ := r.list S
    cases blsOf_rep h4 h1
    exact ⟨a, bs, rfl, h3.sq, q.ok S _ (.bl _)⟩
  · cases h
theorem cr_allK (hK : X.K = Γ.K) (hc : X.calm = true) : CallR X (.builtin "all") (fun vs H Q => ∃ (a : Addr) (bs : List Bool), vs = [V.ref a] ∧ SqL Γ.K H a (bs.map V.bl) ∧ Q (.bl (bs.all _root_.id)) H) := by rw [← hK]; exact cr_all hc
theorem cr_anyK (hK : X.K = Γ.K) (hc : X.calm = true) : CallR X (.builtin "any") (fun vs H Q => ∃ (a : Addr) (bs : List Bool), vs = [V.ref a] ∧ SqL Γ.K H a (bs.map V.bl) ∧ Q (.bl (bs.any _root_.id)) H) := by rw [← hK]; exact cr_any hc
/-- list(xs), list(t): a new list -/
def listD (z : Z) : List D → Option (List D)
  | [.lst ds] => some ds
  | [.tup ds] => some ds
  | [.mob n] => match z[n]? with
    | some (.lst ds) => some ds
    | _ => none
  | _ => none
theorem oc_list : OpCF Γ B (fun xs H Q => ∃ p ys, xs = [.ref p] ∧ (SqL Γ.K H p ys ∨ SqT Γ.K H p ys) ∧ ∀ l, H l = none → Q (.ref l) (upd H l (.lst ys))) listD := by
  intro Wx w ρ z σ H ds es vs Q S rvs h q
  have fin : ∀ {ys : List V}, RepL Γ w es ys → ∀ l, H l = none → Q (.ref l) (upd H l (.lst ys)) := fun {ys} hr l hl => by
    obtain ⟨S4, s4, r4, r5, r6⟩ := S.lstO hr hl
    exact q _ _ S4 s4 l r4 r5 r6 hl
  unfold listD at h
  split at h
  · cases h
    obtain ⟨v, rfl, r⟩ := pr1 rvs
    obtain ⟨a, xs, rfl, h1, h2⟩ := r.list S
    exact ⟨a, xs, rfl, .inl h1.sq, fin h2⟩
  · cases h
    obtain ⟨v, rfl, r⟩ := pr1 rvs
    obtain ⟨a, xs, rfl, h1, h2⟩ := r.tuple S
    exact ⟨a, xs, rfl, .inr h1, fin h2⟩
  · split at h
    · rename_i ds hz
      cases h
      obtain ⟨v, rfl, r⟩ := pr1 rvs
      obtain ⟨a, xs, rfl, _, h1, h2⟩ := r.mobl S hz
      exact ⟨a, xs, rfl, .inl (SqL.of h1), fin h2⟩
    · cases h
  · cases h
theorem cr_list (hK : X.K = Γ.K) : CallR X (.type "list") (fun xs H Q => ∃ p ys, xs = [.ref p] ∧ (SqL Γ.K H p ys ∨ SqT Γ.K H p ys) ∧ ∀ l, H l = none → Q (.ref l) (upd H l (.lst ys))) := by rw [← hK]; exact call_list_of
/-- tuple(xs), tuple(t) -/
def tupleD (z : Z) : List D → Option D
  | [.lst ds] => some (.tup ds)
  | [.tup ds] => some (.tup ds)
  | [.mob n] => match z[n]? with
    | some (.lst ds) => some (.tup ds)
    | _ => none
  | _ => none
def rTupleD (K : PySem.W.Frag) : RC := fun xs H Q => ∃ p ys, xs = [.ref p] ∧ ((SqL K H p ys ∧ ∀ l, H l = none → Q (.ref l) (upd H l (.tup ys))) ∨ (SqT K H p ys ∧ Q (.ref p) H))
theorem oc_tuple : OpC Γ B (rTupleD Γ.K) tupleD := by
  intro Wx w ρ z σ H ds d' vs Q S rvs h q
  unfold tupleD at h
  split at h
  · cases h
    obtain ⟨v, rfl, r⟩ := pr1 rvs
    obtain ⟨a, xs, rfl, h1, h2⟩ := r.list S
    refine ⟨a, xs, rfl, .inl ⟨h1.sq, fun l hl => ?_⟩⟩
    obtain ⟨S4, s4, r4⟩ := S.tup h2 hl
    exact q _ _ S4 s4 _ r4
  · cases h
    obtain ⟨v, rfl, r⟩ := pr1 rvs
    have r' := r.rep (fun _ => nofun)
    obtain ⟨a, xs, rfl, h1, h2⟩ := r.tuple S
    exact ⟨a, xs, rfl, .inr ⟨h1, q.ok S _ r'⟩⟩
  · split at h
    · rename_i ds hz
      cases h
      obtain ⟨v, rfl, r⟩ := pr1 rvs
      obtain ⟨a, xs, rfl, _, h1, h2⟩ := r.mobl S hz
      refine ⟨a, xs, rfl, .inl ⟨SqL.of h1, fun l hl => ?_⟩⟩
      obtain ⟨S4, s4, r4⟩ := S.tup h2 hl
      exact q _ _ S4 s4 _ r4
    · cases h
  · cases h
theorem cr_tuple (hK : X.K = Γ.K) : CallR X (.type "tuple") (rTupleD Γ.K) := by rw [← hK]; exact call_tuple_of
/-- str(n), str(s) -/
def strD (_ : Z) : List D → Option D
  | [.int i] => if i.natAbs.log2 < 1920 then some (.str (toString i)) else none
  | _ => none
theorem oc_str : OpC Γ B (fun xs H Q => ∃ i, xs = [.int i] ∧ i.natAbs.log2 < 1920 ∧ Q (.str (toString i)) H) strD := by
  intro Wx w ρ z σ H ds d' vs Q S rvs h q
  unfold strD at h
  split at h
  · obtain ⟨rfl, hz⟩ := ite_some h
    obtain ⟨v, rfl, r⟩ := pr1 rvs
    cases r.int
    exact ⟨_, rfl, hz, q.ok S _ (.str _)⟩
  · cases h
/-- repr of data -/
def reprD (_ : Z) : List D → Option D
  | [d] => (toPy d).bind fun p => if p.showable = true ∧ p.hasDict = false ∧ p.depth ≤ 40 ∧ p.shown.length ≤ sizeLine then some (.str p.shown) else none
  | _ => none
def rRepr (K : PySem.W.Frag) : RC := fun xs H Q => ∃ v p, xs = [v] ∧ Dp K H v p ∧ p.showable = true ∧ p.hasDict = false ∧ p.depth ≤ 40 ∧ p.shown.length ≤ sizeLine ∧ Q (.str p.shown) H
theorem cr_repr (V : Dv Γ X Wx k) : CallR X (.builtin "repr") (rRepr Γ.K) := by
  rintro pins s σ H xs us Q I r ⟨v, p, rfl, hd, h1, h2, h3, h4, q⟩
  obtain ⟨u, rfl, ru⟩ := r.one
  rw [← V.hK] at hd
  cases hd with
  | non => cases ru; exact PySem.P.repr_of_none ⟨.str _, H, I.tok _, ⟨_, rfl⟩, q⟩
  | bl b => cases ru; exact PySem.P.repr_of_bool ⟨.str _, H, I.tok _, ⟨_, rfl⟩, q⟩
  | int i => obtain ⟨t, rfl⟩ := ru; exact PySem.P.repr_of_int (of_decide_eq_true h1) ⟨.str _, H, I.tok _, ⟨_, rfl⟩, q⟩
  | str y => obtain ⟨t, rfl⟩ := ru; exact PySem.P.repr_of_str ⟨.str _, H, I.tok _, ⟨_, rfl⟩, q⟩ h4
  | lst g1 g2 =>
    obtain ⟨as, hr⟩ := Dp.reads I _ _ _ (.lst g1 g2) ru
    cases ru
    exact repr_of_reads' hr h1 (PyData.noDict_hsm h2) V.grd (by have := V.room.units; omega) (fun _ _ e => e) (fun h' u tk hk => ⟨.str _, H, I.kept hk, ⟨_, rfl⟩, q⟩) h4
  | tup g1 g2 =>
    obtain ⟨as, hr⟩ := Dp.reads I _ _ _ (.tup g1 g2) ru
    cases ru
    exact repr_of_reads' hr h1 (PyData.noDict_hsm h2) V.grd (by have := V.room.units; omega) (fun _ _ e => e) (fun h' u tk hk => ⟨.str _, H, I.kept hk, ⟨_, rfl⟩, q⟩) h4
theorem oc_repr : OpC Γ B (rRepr Γ.K) reprD := by
  intro Wx w ρ z σ H ds d' vs Q S rvs h q
  unfold reprD at h
  split at h
  · obtain ⟨p, h1, h2⟩ := Option.bind_eq_some_iff.mp h
    obtain ⟨rfl, h3, h4, h5, h6⟩ := ite_some h2
    obtain ⟨v, rfl, r⟩ := pr1 rvs
    exact ⟨v, p, rfl, r.dp rfl S.wi.le h1, h3, h4, h5, h6, q.ok S _ (.str _)⟩
  · cases h

/-! ### methods of texts -/
def strsOf : List D → Option (List Str)
  | [] => some []
  | .str b :: r => (strsOf r).map (b :: ·)
  | _ :: _ => none
theorem strsOf_rep {w : W} : ∀ {ds : List D} {vs : List V} {bs : List Str}, RepL Γ w ds vs → strsOf ds = some bs → vs = bs.map V.str
  | [], _, _, r, h => by cases r; cases h; rfl
  | d :: ds, _, _, r, h => by
    cases r with
    | cons h1 h2 =>
      unfold strsOf at h
      split at h
      · rename_i e; cases e
      · rename_i e
        cases e
        obtain ⟨bs, h3, rfl⟩ := Option.map_eq_some_iff.mp h
        cases h1
        rw [strsOf_rep h2 h3]; rfl
      · cases h
def joinD (_ : Z) : D → D → Option D
  | .str a, .lst ds => (strsOf ds).bind fun ys => if (ys.map (·.length)).sum + ys.length * a.length ≤ 16777216 then some (.str (Txt.join a ys)) else none
  | _, _ => none
def isS (_ : Z) : D → Option D
  | .str a => some (.str a)
  | _ => none
def mJoin (ma m : M D) : M D := mBind (mOp1 isS ma) fun d => mBind m fun d' => mOpt fun z => joinD z d d'
theorem d_join (hK : X.K = Γ.K) (ho : PE X a (tB Γ B Wx ma)) (he : PE X e (tB Γ B Wx m)) {apos : Pos} (hs : starEach [e] X.env = [(false, eval e X.env)] := by rfl) (hbase : attributeBase a "join" X.env (eval a X.env) = eval a X.env := by rfl) (hline : (apos.endLine == pos.line) = true := by rfl) :
    PE X (.Call (.Attribute a "join" apos) [e] [] pos) (tD Γ B Wx (mJoin ma m)) :=
  pe_weak (pe_join ho he hs hbase hline) fun σ H Q ⟨w, ρ, z, S, q⟩ => ⟨w, ρ, z, S, q.bind.bind.mono fun d w1 z1 H1 _ _ ⟨S1, s1, q1⟩ v rv => by
    obtain ⟨d0, hd0, q1⟩ := q1.opt
    unfold isS at hd0
    split at hd0
    · cases hd0
      cases rv.str
      obtain ⟨_, _, q1⟩ := q1.ok S1
      refine ⟨⟨_, rfl⟩, w1, ρ, z1, S1, q1.bind.mono fun d' w2 z2 H2 _ _ ⟨S2, s2, q2⟩ u ru => ?_⟩
      obtain ⟨x, hx, q3⟩ := q2.opt
      unfold joinD at hx
      split at hx
      · rename_i e1 e2
        cases e1
        obtain ⟨ys, h1, h2⟩ := Option.bind_eq_some_iff.mp hx
        obtain ⟨rfl, h3⟩ := ite_some h2
        obtain ⟨p, xs, rfl, h4, h5⟩ := ru.list S2
        cases strsOf_rep h5 h1
        exact ⟨_, p, ys, rfl, rfl, .inl (by rw [hK]; exact h4.sq), h3, q3.ok S2 _ (.str _)⟩
      · cases hx
    · cases hd0⟩
end
end NW
/-! What is walked, targets, list comprehensions, statements, loops. -/
namespace NW
open PySem PySem.Spec PyProof.Rows L2

section
variable {X : Cx} {Γ : Gam} {B : Bs} {Wx : WX} {k : Nat} {a b e tg : Expr} {es : List Expr} {m ma mb : M D} {ml : M (List D)} {pos : Pos}
/-! ### what is walked -/
/-- J gives the items ds in every state of Fut -/
structure ItD (Γ : Gam) (Fut : W → Hp → Prop) (J : It) (ds : List D) : Prop where
  go : ∀ (i : Nat) (w : W) (z : Z) (H : Hp), Fut w H → WI Γ w z H → i < ds.length → J.go i H
  yld : ∀ (i : Nat) (w : W) (z : Z) (H : Hp) (x : V) (H' : Hp) (d : D), Fut w H → WI Γ w z H → ds[i]? = some d → J.yld i H x H' → ∃ w', WI Γ w' z H' ∧ Step w H w' H' ∧ Rep Γ w' d x
  stop : ∀ (w : W) (z : Z) (H : Hp), Fut w H → WI Γ w z H → J.stop ds.length H
/-- shared things: as long as the world grows; borrowed ones: as long as nothing is changed -/
def tDI (Γ : Gam) (B : Bs) (Wx : WX) (m : M (List D)) : TI := fun σ H R => ∃ w ρ z, SI Γ B w ρ z σ H ∧ resTo Γ B Wx w ρ σ H (m ρ z) fun ds w' _ H' => ∀ (J : It) (Fut : W → Hp → Prop), (∀ w1 H1, Ext w' w1 → Fut w1 H1) → ItD Γ Fut J ds → R J H'
def tBI (Γ : Gam) (B : Bs) (Wx : WX) (m : M (List D)) : TI := fun σ H R => ∃ w ρ z, SI Γ B w ρ z σ H ∧ resTo Γ B Wx w ρ σ H (m ρ z) fun ds w' _ H' => ∀ (J : It) (Fut : W → Hp → Prop), (∀ w1 H1, Step w' H' w1 H1 → Fut w1 H1) → ItD Γ Fut J ds → R J H'
theorem pi_weak {t t' : TI} (h : PI X tg e t) (k : ∀ σ H R, t' σ H R → t σ H R) : PI X tg e t' := ⟨fun p s σ H R I q => h.run p s σ H R I (k _ _ _ q)⟩
theorem i_b (h : PI X tg e (tDI Γ B Wx ml)) : PI X tg e (tBI Γ B Wx ml) := pi_weak h fun σ H R ⟨w, ρ, z, S, q⟩ => ⟨w, ρ, z, S, q.mono fun ds w' z' H' _ _ k J Fut hf it => k J Fut (fun w1 H1 s => hf w1 H1 s.ext) it⟩
def iAny (K : PySem.W.Frag) (te : TE) : TI := fun σ H R => te σ H fun x H1 => (∃ a xs, x = .ref a ∧ SqL K H1 a xs ∧ R (Itl K a) H1) ∨ (∃ a xs, x = .ref a ∧ SqT K H1 a xs ∧ R (Itt K a) H1) ∨ ∃ y, x = .str y ∧ R (Its y) H1
theorem pi_any {te : TE} (he : PE X e te) : PI X tg e (iAny X.K te) := by
  refine ⟨fun pins s σ H R I h => thn (he.run pins s σ H _ I h) fun v s1 ⟨x, H1, I1, r1, q1⟩ => ?_⟩
  rcases q1 with ⟨a, xs, rfl, hq, q⟩ | ⟨a, xs, rfl, hq, q⟩ | ⟨y, rfl, q⟩
  · cases r1
    obtain ⟨its, rv, p, hz⟩ := I1.list hq
    exact wpAny_pyIter_list p.isList (pi_one (tk := s1.toks) I1 _ (turn_list a _) ⟨_, Heap.get?_push_size _ rfl, rfl, rfl⟩ q)
  · cases r1
    obtain ⟨its, rv, p, hz⟩ := I1.tuple hq
    exact wpAny_pyIter_tuple (show s1.heap.IsTuple a its.toArray from p) (pi_one (tk := s1.toks) I1 _ (turn_tuple a _) ⟨_, Heap.get?_push_size _ rfl, rfl, rfl⟩ q)
  · obtain ⟨t, rfl⟩ := r1
    cases ha : y.cps.all (· < 128)
    · exact wpAny_pyIter_wide ha (pi_one (tk := s1.toks) I1 _ (turn_str _ y t "str_iterator" (.inr rfl)) ⟨_, Heap.get?_push_size _ rfl, rfl, rfl⟩ q)
    · exact wpAny_pyIter_ascii ha (pi_one (tk := s1.toks) I1 _ (turn_str _ y t "str_ascii_iterator" (.inl rfl)) ⟨_, Heap.get?_push_size _ rfl, rfl, rfl⟩ q)
def sgn (c : Nat) : D := .str ⟨#[c]⟩
def itemsD : D → Option (List D)
  | .lst ds => some ds
  | .tup ds => some ds
  | .str x => some (x.cps.toList.map sgn)
  | _ => none
def mItems (m : M D) : M (List D) := mBind m fun d => mOpt fun _ => itemsD d
theorem it_seqL {Fut : W → Hp → Prop} {ds : List D} {v : V} {a : Addr} (hv : v = .ref a) (r : ∀ w H z, Fut w H → WI Γ w z H → ∃ xs, SqL Γ.K H a xs ∧ RepL Γ w ds xs) (u : ∀ (H : Hp) xs ys, SqL Γ.K H a xs → SqL Γ.K H a ys → True) : ItD Γ Fut (Itl Γ.K a) ds where
  go := fun i w z H f I hi => by
    obtain ⟨xs, h1, h2⟩ := r w H z f I
    have hx : i < xs.length := by rw [h2.length]; exact hi
    exact ⟨xs, xs[i], h1, List.getElem?_eq_getElem hx⟩
  yld := fun i w z H x H' d f I hd y => by
    obtain ⟨rfl, y⟩ := y
    obtain ⟨xs, h1, h2⟩ := r w H' z f I
    obtain ⟨v, h3, h4⟩ := h2.get hd
    rw [y xs h1] at h3
    cases h3
    exact ⟨w, I, Step.refl _ _, h4⟩
  stop := fun w z H f I => by
    obtain ⟨xs, h1, h2⟩ := r w H z f I
    exact ⟨xs, h1, Nat.le_of_eq h2.length⟩
theorem it_seqT {Fut : W → Hp → Prop} {ds : List D} {a : Addr} (r : ∀ w H z, Fut w H → WI Γ w z H → ∃ xs, SqT Γ.K H a xs ∧ RepL Γ w ds xs) : ItD Γ Fut (Itt Γ.K a) ds where
  go := fun i w z H f I hi => by
    obtain ⟨xs, h1, h2⟩ := r w H z f I
    have hx : i < xs.length := by rw [h2.length]; exact hi
    exact ⟨xs, xs[i], h1, List.getElem?_eq_getElem hx⟩
  yld := fun i w z H x H' d f I hd y => by
    obtain ⟨rfl, y⟩ := y
    obtain ⟨xs, h1, h2⟩ := r w H' z f I
    obtain ⟨v, h3, h4⟩ := h2.get hd
    rw [y xs h1] at h3
    cases h3
    exact ⟨w, I, Step.refl _ _, h4⟩
  stop := fun w z H f I => by
    obtain ⟨xs, h1, h2⟩ := r w H z f I
    exact ⟨xs, h1, Nat.le_of_eq h2.length⟩
theorem it_str {Fut : W → Hp → Prop} {x : Str} : ItD Γ Fut (Its x) (x.cps.toList.map sgn) where
  go := fun i w z H f I hi => by
    show i < x.cps.size
    simpa using hi
  yld := fun i w z H v H' d f I hd y => by
    obtain ⟨rfl, c, hc, rfl⟩ := y
    rw [List.getElem?_map, Array.getElem?_toList, hc] at hd
    cases hd
    exact ⟨w, I, Step.refl _ _, .str _⟩
  stop := fun w z H f I => by
    show x.cps.size ≤ _
    simp
theorem i_any (hK : X.K = Γ.K) (h : PE X e (tD Γ B Wx m)) : PI X tg e (tDI Γ B Wx (mItems m)) := pi_weak (pi_any h) fun σ H R ⟨w, ρ, z, S, q⟩ => by
  rw [hK]
  refine ⟨w, ρ, z, S, q.bind.mono fun d w1 z1 H1 _ _ ⟨S1, s1, q1⟩ v rv => ?_⟩
  obtain ⟨ds, hd, q2⟩ := q1.opt
  have q3 := q2.ok S1
  unfold itemsD at hd
  split at hd
  · cases hd
    cases rv with
    | lst h1 h2 =>
      exact .inl ⟨_, _, rfl, (SqS.le S1.wi.le h1).sq, q3 _ (fun w2 H2 => Ext w1 w2) (fun _ _ h => h) (it_seqL (v := .ref _) rfl (fun w2 H2 z2 f I2 => ⟨_, (SqS.le I2.le (SqS.le f.r h1)).sq, h2.ext f⟩) fun _ _ _ _ _ => trivial)⟩
  · cases hd
    cases rv with
    | tup h1 h2 =>
      exact .inr (.inl ⟨_, _, rfl, S1.KT h1, q3 _ (fun w2 H2 => Ext w1 w2) (fun _ _ h => h) (it_seqT fun w2 H2 z2 f I2 => ⟨_, SqT.le I2.le (SqT.le f.r h1), h2.ext f⟩)⟩)
  · cases hd
    cases rv
    exact .inr (.inr ⟨_, rfl, q3 _ (fun w2 H2 => Ext w1 w2) (fun _ _ h => h) it_str⟩)
  · cases hd
/-- a borrowed list -/
theorem i_anyB (hK : X.K = Γ.K) (h : PE X e (tB Γ B Wx m)) : PI X tg e (tBI Γ B Wx (mItems m)) := pi_weak (pi_any h) fun σ H R ⟨w, ρ, z, S, q⟩ => by
  rw [hK]
  refine ⟨w, ρ, z, S, q.bind.mono fun d w1 z1 H1 _ _ ⟨S1, s1, q1⟩ v rv => ?_⟩
  obtain ⟨ds, hd, q2⟩ := q1.opt
  have q3 := q2.ok S1
  have rv0 := rv
  unfold itemsD at hd
  split at hd
  · cases hd
    obtain ⟨a, xs, rfl, h1, h2⟩ := rv.list S1
    refine .inl ⟨_, _, rfl, h1.sq, q3 _ (fun w2 H2 => Step w1 H1 w2 H2) (fun _ _ h => h) (it_seqL (v := .ref _) rfl (fun w2 H2 z2 f I2 => ?_) fun _ _ _ _ _ => trivial)⟩
    have r2 := rv0.step f
    cases r2 with
    | of r2 => cases r2 with
      | lst g1 g2 => exact ⟨_, (SqS.le I2.le g1).sq, g2⟩
    | own g1 _ _ => obtain ⟨ys, g1, g2⟩ := g1; exact ⟨_, SqL.of g1, g2⟩
  · cases hd
    have r' := rv.rep (fun _ => nofun)
    cases r' with
    | tup h1 h2 =>
      exact .inr (.inl ⟨_, _, rfl, S1.KT h1, q3 _ (fun w2 H2 => Step w1 H1 w2 H2) (fun _ _ h => h) (it_seqT fun w2 H2 z2 f I2 => ⟨_, SqT.le I2.le (SqT.le f.r h1), h2.step f⟩)⟩)
  · cases hd
    cases rv.str
    exact .inr (.inr ⟨_, rfl, q3 _ (fun w2 H2 => Step w1 H1 w2 H2) (fun _ _ h => h) it_str⟩)
  · cases hd
/-- range(n), range(a, b) -/
def rngD (lo : Int) (n : Nat) : List D := (List.range n).map fun (i : Nat) => D.int (lo + (i : Int))
theorem it_rng {Fut : W → Hp → Prop} {lo : Int} {n : Nat} : ItD Γ Fut (Itr lo n) (rngD lo n) where
  go := fun i w z H f I hi => by
    show i < n
    simpa [rngD] using hi
  yld := fun i w z H v H' d f I hd y => by
    obtain ⟨rfl, rfl⟩ := y
    unfold rngD at hd
    rw [List.getElem?_map] at hd
    obtain ⟨j, hj, rfl⟩ := Option.map_eq_some_iff.mp hd
    have : j = i := by
      obtain ⟨hl, e⟩ := List.getElem?_eq_some_iff.mp hj
      rw [List.getElem_range] at e
      exact e.symm
    subst this
    exact ⟨w, I, Step.refl _ _, .int _⟩
  stop := fun w z H f I => by
    show n ≤ _
    simp [rngD]
def rng1 (_ : Z) : List D → Option (List D)
  | [.int n] => if n < 2 ^ 62 ∧ -(2 ^ 62) ≤ n then some (rngD 0 n.toNat) else none
  | _ => none
def rng2 (_ : Z) : List D → Option (List D)
  | [.int a, .int b] => if -(2 ^ 62) ≤ a ∧ a < 2 ^ 62 ∧ -(2 ^ 62) ≤ b ∧ b < 2 ^ 62 then some (rngD a (b - a).toNat) else none
  | _ => none
theorem i_range1 {p : Pos} (hm : X.mg "range" = none) (ha : PA X [a] (tBA Γ B Wx ml)) (hg : Gl X "range" := by rfl) (hs : starEach [a] X.env = [(false, eval a X.env)] := by rfl) : PI X tg (.Call (.Name "range" p) [a] [] pos) (tDI Γ B Wx (mCall rng1 ml)) :=
  pi_weak (pi_range1 hg hm ha hs) fun σ H R ⟨w, ρ, z, S, q⟩ => ⟨w, ρ, z, S, q.bind.mono fun ds w1 z1 H1 _ _ ⟨S1, s1, q1⟩ vs rvs => by
    obtain ⟨es, hd, q2⟩ := q1.opt
    unfold rng1 at hd
    split at hd
    · obtain ⟨rfl, h1, h2⟩ := ite_some hd
      obtain ⟨v, rfl, r⟩ := pr1 rvs
      cases r.int
      exact ⟨_, rfl, h2, h1, q2.ok S1 _ (fun _ _ => True) (fun _ _ _ => trivial) it_rng⟩
    · cases hd⟩
theorem i_range2 {p : Pos} (hm : X.mg "range" = none) (ha : PA X [a, b] (tBA Γ B Wx ml)) (hg : Gl X "range" := by rfl) (hs : starEach [a, b] X.env = [(false, eval a X.env), (false, eval b X.env)] := by rfl) (hs2 : starEach [b] X.env = [(false, eval b X.env)] := by rfl) :
    PI X tg (.Call (.Name "range" p) [a, b] [] pos) (tDI Γ B Wx (mCall rng2 ml)) :=
  pi_weak (pi_range2 hg hm ha hs hs2) fun σ H R ⟨w, ρ, z, S, q⟩ => ⟨w, ρ, z, S, q.bind.mono fun ds w1 z1 H1 _ _ ⟨S1, s1, q1⟩ vs rvs => by
    obtain ⟨es, hd, q2⟩ := q1.opt
    unfold rng2 at hd
    split at hd
    · obtain ⟨rfl, h1⟩ := ite_some hd
      obtain ⟨v, u, rfl, r, r'⟩ := pr2 rvs
      cases r.int; cases r'.int
      exact ⟨_, _, rfl, h1, q2.ok S1 _ (fun _ _ => True) (fun _ _ _ => trivial) it_rng⟩
    · cases hd⟩

/-! ### targets -/
/-- a target's mirror: the slots it stores to, the new environment -/
abbrev TgF := D → En → Option En
def gD (Γ : Gam) (B : Bs) (sl : List Nat) (g : TgF) : TG := fun v σ H Q => ∃ w ρ z d, SI Γ B w ρ z σ H ∧ Rep Γ w d v ∧ ∃ ρ', g d ρ = some ρ' ∧ ∀ σ', SI Γ B w ρ' z σ' H → (∀ j, j ∉ sl → σ'[j]? = σ[j]?) → σ'.length = σ.length → Q σ' H
def setE (i : Nat) (d : D) (ρ : En) : Option En := if i < ρ.length then some (ρ.set i (some (.sh d))) else none
theorem SI.set {w : W} {ρ : En} {z : Z} {σ : Sl} {H : Hp} (S : SI Γ B w ρ z σ H) {d : D} {v : V} (r : Rep Γ w d v) {i : Nat} (hi : i < ρ.length) : SI Γ B w (ρ.set i (some (.sh d))) z (σ.set i (some v)) H where
  wi := S.wi
  st := S.st
  len := by rw [List.length_set, List.length_set]; exact S.len
  sh := fun j d' h => by
    by_cases e : i = j
    · subst e
      rw [List.getElem?_set_self hi] at h
      cases h
      exact ⟨v, List.getElem?_set_self (by rw [← S.len]; exact hi), r⟩
    · rw [List.getElem?_set_ne e] at h
      rw [List.getElem?_set_ne e]
      exact S.sh j d' h
  own := fun j o h => by
    by_cases e : i = j
    · subst e
      rw [List.getElem?_set_self hi] at h
      cases h
    · rw [List.getElem?_set_ne e] at h
      rw [List.getElem?_set_ne e]
      exact S.own j o h
  dis := fun j l o u c h1 h2 h3 h4 => by
    by_cases e : i = j
    · subst e; rw [List.getElem?_set_self hi] at h1; cases h1
    · by_cases e' : i = l
      · subst e'; rw [List.getElem?_set_self hi] at h2; cases h2
      · rw [List.getElem?_set_ne e] at h1 h3
        rw [List.getElem?_set_ne e'] at h2 h4
        exact S.dis j l o u c h1 h2 h3 h4
theorem g_name (i : Nat) {x : Str} (nd : X.N.Nodup) (hi : X.N[i]? = some x := by rfl) (hx : Loc X.env.scope x := by first | exact Or.inl rfl | exact Or.inr rfl) (hf : X.fn x = true ∨ X.env.scope.names.lookup x = some .local := by first | exact .inl rfl | exact .inr rfl) : PG X (.Name x pos) (gD Γ B [i] (setE i)) := by
  refine ⟨fun pins s σ H v u Q I r h => (pg_name nd hi hx hf).run pins s σ H v u Q I r ?_⟩
  obtain ⟨w, ρ, z, d, S, rd, ρ', e, q⟩ := h
  unfold setE at e
  obtain ⟨rfl, hl⟩ := ite_some e
  exact q _ (S.set rd hl) (fun j hj => List.getElem?_set_ne (fun e => hj (by simp [e]))) (List.length_set ..)
/-- several targets -/
abbrev TgsF := List D → En → Option En
def gDs (Γ : Gam) (B : Bs) (sl : List Nat) (g : TgsF) : TGs := fun vs σ H Q => ∃ w ρ z ds, SI Γ B w ρ z σ H ∧ RepL Γ w ds vs ∧ ∃ ρ', g ds ρ = some ρ' ∧ ∀ σ', SI Γ B w ρ' z σ' H → (∀ j, j ∉ sl → σ'[j]? = σ[j]?) → σ'.length = σ.length → Q σ' H
def nilT : TgsF := fun ds ρ => match ds with
  | [] => some ρ
  | _ => none
def consT (g : TgF) (h : TgsF) : TgsF := fun ds ρ => match ds with
  | d :: r => (g d ρ).bind fun ρ' => h r ρ'
  | [] => none
theorem gs_nil : PGs X [] (gDs Γ B [] nilT) := by
  refine ⟨fun pins s σ H vs us Q I r h => pgs_nil.run pins s σ H vs us Q I r ?_⟩
  obtain ⟨w, ρ, z, ds, S, rd, ρ', e, q⟩ := h
  unfold nilT at e
  split at e
  · cases e; cases rd
    exact ⟨rfl, q σ S (fun _ _ => rfl) rfl⟩
  · cases e
theorem gs_cons {sl sl' : List Nat} {g : TgF} {gs : TgsF} {es : List Expr} (h1 : PG X e (gD Γ B sl g)) (h2 : PGs X es (gDs Γ B sl' gs)) (hs : (assignEach (e :: es) X.env).map (·.2) = assign e X.env :: (assignEach es X.env).map (·.2) := by rfl) : PGs X (e :: es) (gDs Γ B (sl ++ sl') (consT g gs)) := by
  refine ⟨fun pins s σ H vs us Q I r h => (pgs_cons h1 h2 hs).run pins s σ H vs us Q I r ?_⟩
  obtain ⟨w, ρ, z, ds, S, rd, ρ', e, q⟩ := h
  unfold consT at e
  split at e
  · obtain ⟨ρ1, e1, e2⟩ := Option.bind_eq_some_iff.mp e
    cases rd with
    | cons a b =>
      refine ⟨_, _, rfl, w, ρ, z, _, S, a, ρ1, e1, fun σ1 S1 k1 l1 => ⟨w, ρ1, z, _, S1, b, ρ', e2, fun σ2 S2 k2 l2 => q σ2 S2 (fun j hj => ?_) (l2.trans l1)⟩⟩
      rw [k2 j (fun m => hj (List.mem_append_right _ m)), k1 j (fun m => hj (List.mem_append_left _ m))]
  · cases e
/-- (a, b, ..) = a tuple -/
def tupT (n : Nat) (g : TgsF) : TgF := fun d ρ => match d with
  | .tup ds => if ds.length = n then g ds ρ else none
  | _ => none
theorem g_tup {es : List Expr} {kk n : Nat} {sl : List Nat} {g : TgsF} (hK : X.K = Γ.K) (hc : X.calm = true) (h : PGs X es (gDs Γ B sl g)) (hn : (assignEach es X.env).length = n := by rfl) (hst : (assignEach es X.env).findIdx? (·.1) = none := by rfl) : PG X (.Tuple es kk pos) (gD Γ B sl (tupT n g)) := by
  refine ⟨fun pins s σ H v u Q I r hq => (pg_tup hc h hn hst).run pins s σ H v u Q I r ?_⟩
  obtain ⟨w, ρ, z, d, S, rd, ρ', e, q⟩ := hq
  unfold tupT at e
  split at e
  · split at e
    · cases rd with
      | tup h1 h2 => exact ⟨_, _, rfl, by rw [hK]; exact S.KT h1, by rw [h2.length]; assumption, w, ρ, z, _, S, h2, ρ', e, q⟩
    · cases e
  · cases e
end
end NW
/-! List comprehensions, statements, loops. -/
namespace NW
open PySem PySem.Spec PyProof.Rows L2

section
variable {X : Cx} {Γ : Gam} {B : Bs} {Wx : WX} {k : Nat} {a b e tg : Expr} {es : List Expr} {m ma mb : M D} {ml : M (List D)} {pos : Pos}
/-- no exception may leave -/
abbrev Wx0 : WX := fun _ _ _ _ => False
theorem resTo.wx {α : Type} {Wx Wx' : WX} {w : W} {ρ : En} {σ : Sl} {H : Hp} {r : Res α} {Q : α → W → Z → Hp → Prop} (h : resTo Γ B Wx w ρ σ H r Q) (hn : ∀ x z, r ≠ .exc x z) : resTo Γ B Wx' w ρ σ H r Q := by
  cases r with
  | ok a z => exact h
  | exc x z => exact absurd rfl (hn x z)
  | bad => exact h

/-! ### [elt for target in iter if test] -/
def wipeE (ρ : En) : List Nat → En
  | [] => ρ
  | v :: vs => (wipeE ρ vs).set v none
theorem wipeE_length (ρ : En) : ∀ vs, (wipeE ρ vs).length = ρ.length
  | [] => rfl
  | v :: vs => by unfold wipeE; rw [List.length_set, wipeE_length ρ vs]
theorem wipeE_some {ρ : En} {i : Nat} {x : DV} : ∀ {vs : List Nat}, (wipeE ρ vs)[i]? = some (some x) → ρ[i]? = some (some x) ∧ i ∉ vs
  | [], h => ⟨h, by simp⟩
  | v :: vs, h => by
    unfold wipeE at h
    by_cases hi : v = i
    · subst hi
      by_cases hv : v < (wipeE ρ vs).length
      · rw [List.getElem?_set_self hv] at h; cases h
      · rw [List.getElem?_eq_none (by simpa using hv)] at h; cases h
    · rw [List.getElem?_set_ne hi] at h
      obtain ⟨h1, h2⟩ := wipeE_some h
      exact ⟨h1, by simp only [List.mem_cons, not_or]; exact ⟨fun e => hi e.symm, h2⟩⟩
theorem wipe_get {σ : Sl} {i : Nat} : ∀ {vs : List Nat}, i ∉ vs → (wipe σ vs)[i]? = σ[i]?
  | [], _ => rfl
  | v :: vs, h => by
    unfold wipe
    simp only [List.mem_cons, not_or] at h
    rw [List.getElem?_set_ne (Ne.symm h.1)]
    exact wipe_get h.2
theorem SI.wipe {w : W} {ρ : En} {z : Z} {σ : Sl} {H : Hp} (S : SI Γ B w ρ z σ H) (vs : List Nat) : SI Γ B w (wipeE ρ vs) z (wipe σ vs) H where
  wi := S.wi
  st := S.st
  len := by rw [wipeE_length, wipe_length]; exact S.len
  sh := fun i d h => by
    obtain ⟨h1, h2⟩ := wipeE_some h
    rw [wipe_get h2]
    exact S.sh i d h1
  own := fun i o h => by
    obtain ⟨h1, h2⟩ := wipeE_some h
    rw [wipe_get h2]
    exact S.own i o h1
  dis := fun i j o u c h1 h2 h3 h4 => by
    obtain ⟨g1, k1⟩ := wipeE_some h1
    obtain ⟨g2, k2⟩ := wipeE_some h2
    rw [wipe_get k1] at h3
    rw [wipe_get k2] at h4
    exact S.dis i j o u c g1 g2 h3 h4
theorem wipe_back {σ σ' : Sl} {sl vs : List Nat} (hs : ∀ j ∈ sl, j ∈ vs) (hl : σ'.length = σ.length) (h : ∀ j, j ∉ sl → σ'[j]? = σ[j]?) : wipe σ' vs = wipe σ vs := by
  have gen : ∀ (τ : Sl) (us : List Nat) (i : Nat), (L2.wipe τ us)[i]? = if i ∈ us ∧ i < τ.length then some none else τ[i]? := by
    intro τ us
    induction us with
    | nil => intro i; simp [L2.wipe]
    | cons u us ih =>
      intro i
      unfold L2.wipe
      by_cases e : u = i
      · subst e
        by_cases hu : u < τ.length
        · rw [List.getElem?_set_self (by rw [L2.wipe_length]; exact hu)]
          simp [hu]
        · rw [List.getElem?_eq_none (by rw [List.length_set, L2.wipe_length]; omega)]
          simp [hu]
      · rw [List.getElem?_set_ne e, ih i]
        have : i ≠ u := fun q => e q.symm
        simp [this]
  apply List.ext_getElem?
  intro i
  rw [gen, gen, hl]
  by_cases hi : i ∈ vs
  · by_cases hlt : i < σ.length
    · simp [hi, hlt]
    · simp only [hi, hlt, and_false, if_false]
      rw [List.getElem?_eq_none (by omega), List.getElem?_eq_none (by omega)]
  · simp only [hi, false_and, if_false]
    exact h i (fun m => hi (hs i m))
/-- the block, item by item -/
def lcGo (g : TgF) (mt : M Bool) (me : M D) (ρ : En) : List D → List D → Z → Res (List D)
  | [], acc, z => .ok acc z
  | d :: ds, acc, z => match g d ρ with
    | none => .bad
    | some ρ1 => match mt ρ1 z with
      | .ok false z1 => lcGo g mt me ρ ds acc z1
      | .ok true z1 => match me ρ1 z1 with
        | .ok y z2 => if acc.length < sizeLine then lcGo g mt me ρ ds (acc ++ [y]) z2 else .bad
        | _ => .bad
      | _ => .bad
def mLc (it : M (List D)) (g : TgF) (mt : M Bool) (me : M D) (vs : List Nat) : M (List D) := fun ρ z => (it ρ z).bind fun ds z1 => lcGo g mt me (wipeE ρ vs) ds [] z1
theorem pts_yes : PTs X [] (tDT Γ B Wx (mRet true)) := pts_weak pts_nil fun σ H Q ⟨w, ρ, z, S, q⟩ => q.ok S
theorem pts_if {c : Expr} {mt : M Bool} (h : PT X c (tDT Γ B Wx mt)) : PTs X [c] (tDT Γ B Wx mt) := pts_one h
/-- what stands outside of the world is changed -/
theorem WI.mut {w : W} {z : Z} {H : Hp} (I : WI Γ w z H) {p : Addr} {o : HO} (h1 : w.R p = none) (h2 : p ∉ w.pl) : WI Γ w z (upd H p o) := by
  refine ⟨fun a u h => ?_, I.len, fun n mo h => ?_, I.nd⟩
  · rw [upd_ne (ne_of_none h h1)]; exact I.le _ _ h
  · obtain ⟨a, g1, g2, g3⟩ := I.st n mo h
    have ha : a ≠ p := fun e => h2 (e ▸ List.mem_of_getElem? g1)
    exact ⟨a, g1, g2, g3.keep (fun _ _ h => h) (fun _ _ h => h) fun u hu => by rw [upd_ne ha]; exact hu⟩
theorem SI.mut {w : W} {ρ : En} {z : Z} {σ : Sl} {H : Hp} (S : SI Γ B w ρ z σ H) {p : Addr} {o : HO} (h1 : w.R p = none) (h2 : p ∉ w.pl) (h3 : ∀ (i : Nat) (u : OV), ρ[i]? = some (some (.own u)) → σ[i]? ≠ some (some (.ref p))) (h4 : B.H p = none) : SI Γ B w ρ z σ (upd H p o) where
  wi := S.wi.mut h1 h2
  st := ⟨S.st.r, S.st.t, fun a u h k => by rw [upd_ne (ne_of_none h h4)]; exact S.st.k a u h k, S.st.f, S.st.n, fun a u h => by
    by_cases e : a = p
    · subst e; exact ⟨o, upd_same⟩
    · rw [upd_ne e]; exact S.st.y a u h⟩
  len := S.len
  sh := S.sh
  own := fun i u h => by
    obtain ⟨a, g1, g2, g3, g4, g5⟩ := S.own i u h
    have ne : a ≠ p := fun e => h3 i u h (e ▸ g1)
    refine ⟨a, g1, ?_, g3, g4, g5⟩
    cases u with
    | lst es => obtain ⟨ys, k1, k2⟩ := g2; exact ⟨ys, by rw [upd_ne ne]; exact k1, k2⟩
  dis := S.dis
theorem Step.mut {w w1 : W} {H H1 : Hp} (s : Step w H w1 H1) {p : Addr} {o : HO} (hp : H p = none) : Step w H w1 (upd H1 p o) :=
  ⟨s.r, s.t, fun a u h k => by rw [upd_ne (ne_of_none h hp)]; exact s.k a u h k, s.f, s.n, fun a u h => by rw [upd_ne (ne_of_none h hp)]; exact s.y a u h⟩
variable {iter elt : Expr} {ifs : List Expr} {scope : Scope} {own : List (Str × Nat)} {mi : M (List D)} {g : TgF} {sl : List Nat} {mt : M Bool} {me : M D}
theorem lc_to {vs : List Nat} (hsl : ∀ j ∈ sl, j ∈ vs) : ∀ σ H Q, tF Γ B Wx (mLc mi g mt me vs) σ H Q → tLc (tBI Γ B Wx mi) (gD Γ B sl g) (tDT Γ B Wx0 mt) (tD Γ B Wx0 me) vs σ H Q := fun σ H Q ⟨w, ρ, z, S, q⟩ => by
  refine ⟨w, ρ, z, S, q.bind.mono fun ds w1 z1 H1 _ s1 ⟨S1, _, q1⟩ J Fut hf it => fun L0 hD => ?_⟩
  -- the new list
  obtain ⟨n1, n2⟩ := S1.notOwn (w' := w1) hD
  obtain ⟨S2, s2, o2, r2, t2⟩ := S1.lstO (ds := []) (vs := []) .nil hD
  have hD0 : H L0 = none := none_back s1 hD
  -- the state ahead of the i-th item
  let P : Nat → Hp → Prop := fun i H3 => ∃ w3 z3 acc, SI Γ B w3 (wipeE ρ vs) z3 (wipe σ vs) H3 ∧ Step w1 H1 w3 H3 ∧ OwnRep Γ w3 H3 L0 (.lst acc) ∧ w3.R L0 = none ∧ L0 ∉ w3.pl ∧
    (∀ es zf, lcGo g mt me (wipeE ρ vs) (ds.drop i) acc z3 = .ok es zf → ∀ w4 H4, SI Γ B w4 ρ zf σ H4 → Step w1 H1 w4 H4 → OwnRep Γ w4 H4 L0 (.lst es) → w4.R L0 = none → L0 ∉ w4.pl → Q (.ref L0) H4) ∧ (∃ es zf, lcGo g mt me (wipeE ρ vs) (ds.drop i) acc z3 = .ok es zf)
  have q1' : ∃ es zf, lcGo g mt me (wipeE ρ vs) ds [] z1 = .ok es zf := by
    cases hr : lcGo g mt me (wipeE ρ vs) ds [] z1 with
    | ok es zf => exact ⟨es, zf, rfl⟩
    | exc x zf =>
      exfalso
      have : ∀ (l acc : List D) (z : Z) x zf, lcGo g mt me (wipeE ρ vs) l acc z ≠ .exc x zf := by
        intro l
        induction l with
        | nil => intro acc z x zf h; cases h
        | cons d l ih =>
          intro acc z x zf h
          unfold lcGo at h
          split at h
          · cases h
          · split at h
            · exact ih _ _ _ _ h
            · split at h
              · split at h
                · exact ih _ _ _ _ h
                · cases h
              · cases h
            · cases h
      exact this _ _ _ _ _ hr
    | bad => rw [hr] at q1; exact q1.elim
  refine ⟨fun i n H3 => n = ds.length - i ∧ i ≤ ds.length ∧ P i H3, ⟨ds.length, by simp, Nat.zero_le _, w1, z1, [], S2.wipe vs, s2, o2, r2, t2, fun es zf hr w4 H4 S4 s4 o4 r4 t4 => ?_, by simpa using q1'⟩, ?_⟩
  · rw [List.drop_zero] at hr
    rw [hr] at q1
    exact q1 w4 H4 S4 s4 L0 o4 r4 t4 hD0
  · rintro i n H3 ⟨rfl, hi, w3, z3, acc, S3, s3, o3, r3, t3, fin, es, zf, hr⟩
    have F3 := hf w3 H3 s3
    by_cases hlt : i < ds.length
    · refine .inr ⟨it.go i w3 z3 H3 F3 S3.wi hlt, fun H' => P (i + 1) H', fun H' p' => ⟨ds.length - (i + 1), by omega, rfl, hlt, p'⟩, fun x H' y => ?_⟩
      obtain ⟨w4, I4, s4, r4⟩ := it.yld i w3 z3 H3 x H' ds[i] F3 S3.wi (List.getElem?_eq_getElem hlt) y
      rw [List.drop_eq_getElem_cons hlt] at hr fin
      have S4 := S3.carry I4 s4
      have o4 := o3.step s4 t3
      have s14 := s3.trans s4
      obtain ⟨u3, hu3⟩ := o3.there
      have r4' : w4.R L0 = none := s4.f _ _ hu3 r3
      have t4' : L0 ∉ w4.pl := fun hm => by
        rcases s4.n _ hm with h | h
        · exact t3 h
        · rw [hu3] at h; cases h
      unfold lcGo at hr fin
      cases hg1 : g ds[i] (wipeE ρ vs) with
      | none => rw [hg1] at hr; cases hr
      | some ρ1 =>
        rw [hg1] at hr fin
        dsimp only at hr fin
        refine ⟨w4, wipeE ρ vs, z3, ds[i], S4, r4, ρ1, hg1, fun σ' S5 k5 l5 => ⟨?_, ?_⟩⟩
        · exact wipe_back hsl l5 (fun j hj => k5 j hj) |>.trans (by
            apply wipe_back (sl := vs) (fun j h => h) (wipe_length σ vs) fun j hj => wipe_get hj)
        · refine ⟨w4, ρ1, z3, S5, ?_⟩
          cases ht1 : mt ρ1 z3 with
          | exc x zz => rw [ht1] at hr; cases hr
          | bad => rw [ht1] at hr; cases hr
          | ok b z5 =>
            rw [ht1] at hr fin
            intro w6 H6 S6 s6
            have o6 := o4.step s6 t4'
            obtain ⟨u4, hu4⟩ := o4.there
            have r6' : w6.R L0 = none := s6.f _ _ hu4 r4'
            have t6' : L0 ∉ w6.pl := fun hm => by
              rcases s6.n _ hm with h | h
              · exact t4' h
              · rw [hu4] at h; cases h
            have s16 := s14.trans s6
            have back : ∀ {w7 : W} {z7 : Z} {H7 : Hp}, SI Γ B w7 ρ1 z7 σ' H7 → Step w1 H1 w7 H7 → SI Γ B w7 (wipeE ρ vs) z7 (wipe σ vs) H7 := fun {w7 z7 H7} S7 s7 => ((S1.wipe vs).carry S7.wi s7)
            cases b with
            | false =>
              refine iteF ?_
              dsimp only at hr fin
              exact ⟨w6, z5, acc, back S6 s16, s16, o6, r6', t6', fin, es, zf, hr⟩
            | true =>
              refine iteT ⟨w6, ρ1, z5, S6, ?_⟩
              dsimp only at hr fin
              cases he1 : me ρ1 z5 with
              | exc x zz => rw [he1] at hr; cases hr
              | bad => rw [he1] at hr; cases hr
              | ok yv z6 =>
                rw [he1] at hr fin
                dsimp only at hr fin
                intro w7 H7 S7 s7 v rv
                obtain ⟨xs, hx, rx⟩ := o6.step s7 t6'
                obtain ⟨u6, hu6⟩ := o6.there
                have r7' : w7.R L0 = none := s7.f _ _ hu6 r6'
                have t7' : L0 ∉ w7.pl := fun hm => by
                  rcases s7.n _ hm with h | h
                  · exact t6' h
                  · rw [hu6] at h; cases h
                have s17 := s16.trans s7
                by_cases hz : acc.length < sizeLine
                · rw [if_pos hz] at hr fin
                  refine ⟨xs, hx, by rw [rx.length]; exact hz, w7, z6, acc ++ [yv], ?_, s17.mut hD, ⟨_, upd_same, rx.append (.cons rv .nil)⟩, r7', t7', fin, es, zf, hr⟩
                  exact (back S7 s17).mut r7' t7' (fun i u h e => by
                    obtain ⟨h1, h2⟩ := wipeE_some h
                    rw [wipe_get h2] at e
                    exact n1 i u h1 e) n2
                · rw [if_neg hz] at hr; cases hr
    · have e : i = ds.length := by omega
      subst e
      refine .inl ⟨it.stop w3 z3 H3 F3 S3.wi, ?_⟩
      rw [List.drop_length] at fin
      exact fin acc z3 rfl w3 H3 (S1.carry S3.wi s3) s3 o3 r3 t3
theorem f_lc (hc : X.calm = true) (nd : X.N.Nodup) (hi : PI X tg iter (tBI Γ B Wx mi)) (ok : BlkOk X.N X.env.scope scope own)
    (hg : ∀ (s : Shared) (H : Hp) (C : Addr) (cl : List (Str × Addr)) (fp : List Addr), PG (X.blk s H scope (compEnvC scope cl C X.env) fp) tg (gD Γ B sl g)) (ht : ∀ (s : Shared) (H : Hp) (C : Addr) (cl : List (Str × Addr)) (fp : List Addr), PTs (X.blk s H scope (compEnvC scope cl C X.env) fp) ifs (tDT Γ B Wx0 mt))
    (he : ∀ (s : Shared) (H : Hp) (C : Addr) (cl : List (Str × Addr)) (fp : List Addr), PE (X.blk s H scope (compEnvC scope cl C X.env) fp) elt (tD Γ B Wx0 me)) (hsl : ∀ j ∈ sl, j ∈ own.map (·.2) := by decide) (hs : ∀ x, foldedSetIterable iter X.env x = pure x := by intro _; rfl) :
    PE X (.ListComp elt [⟨tg, iter, ifs, 0⟩] scope pos) (tF Γ B Wx (mLc mi g mt me (own.map (·.2)))) := pe_weak (pe_lc hc nd hi ok hg ht he hs) (lc_to hsl)
end
end NW
/-! Statements. -/
namespace NW
open PySem PySem.Spec PyProof.Rows L2

section
variable {X : Cx} {Γ : Gam} {B : Bs} {Wx : WX} {RT : RTT} {k : Nat} {a b e tg : Expr} {es : List Expr} {m ma mb : M D} {ml : M (List D)} {pos : Pos} {st : Stmt} {rest sts : List Stmt} {ms mt mu : MS}
abbrev DS (X : Cx) (Γ : Gam) (B : Bs) (Wx : WX) (RT : RTT) (st : Stmt) (ms : MS) : Prop := PS X st (tDS Γ B Wx RT ms)
abbrev DSs (X : Cx) (Γ : Gam) (B : Bs) (Wx : WX) (RT : RTT) (st : List Stmt) (ms : MS) : Prop := PSs X st (tDS Γ B Wx RT ms)
def sNx : MS := fun ρ z => .nx ρ z
def SR.then (r : SR) (b : MS) : SR := match r with
  | .nx ρ z => b ρ z
  | .rt d z => .rt d z
  | .bk ρ z => .bk ρ z
  | .ct ρ z => .ct ρ z
  | .exc x ρ z => .exc x ρ z
  | .bad => .bad
def sSeq (a b : MS) : MS := fun ρ z => (a ρ z).then b
theorem srTo.ext {w w' : W} {D : Ends} {r : SR} (h : srTo Γ B Wx RT w D r) (x : Ext w w') : srTo Γ B Wx RT w' D r := by
  cases r with
  | nx ρ z => exact fun σ w1 H1 S y => h σ w1 H1 S (x.trans y)
  | rt d z => exact h
  | bk ρ z => exact fun σ w1 H1 S y => h σ w1 H1 S (x.trans y)
  | ct ρ z => exact fun σ w1 H1 S y => h σ w1 H1 S (x.trans y)
  | exc x ρ z => exact h
  | bad => exact h
theorem srTo.mono {w : W} {D D' : Ends} {r : SR} (h : srTo Γ B Wx RT w D r) (h1 : ∀ ρ z σ w' H', SI Γ B w' ρ z σ H' → Ext w w' → D.nx σ H' → D'.nx σ H') (h2 : ∀ v H, D.rt v H → D'.rt v H) (h3 : ∀ ρ z σ w' H', SI Γ B w' ρ z σ H' → Ext w w' → D.bk σ H' → D'.bk σ H')
    (h4 : ∀ ρ z σ w' H', SI Γ B w' ρ z σ H' → Ext w w' → D.ct σ H' → D'.ct σ H') : srTo Γ B Wx RT w D' r := by
  cases r with
  | nx ρ z => exact fun σ w1 H1 S y => h1 _ _ _ _ _ S y (h σ w1 H1 S y)
  | rt d z => exact fun v w1 H1 I s r => h2 _ _ (h v w1 H1 I s r)
  | bk ρ z => exact fun σ w1 H1 S y => h3 _ _ _ _ _ S y (h σ w1 H1 S y)
  | ct ρ z => exact fun σ w1 H1 S y => h4 _ _ _ _ _ S y (h σ w1 H1 S y)
  | exc x ρ z => exact h
  | bad => exact h
theorem s_nil : DSs X Γ B Wx RT [] sNx := pss_weak pss_nil fun D σ H ⟨w, ρ, z, S, q⟩ => q σ w H S (.refl w)
theorem s_cons (h1 : DS X Γ B Wx RT st ms) (h2 : DSs X Γ B Wx RT rest mt) : DSs X Γ B Wx RT (st :: rest) (sSeq ms mt) := pss_weak (pss_cons h1 h2) fun D σ H ⟨w, ρ, z, S, q⟩ => ⟨w, ρ, z, S, by
  unfold sSeq at q
  cases e : ms ρ z with
  | nx ρ1 z1 =>
    rw [e] at q
    exact fun σ1 w1 H1 S1 x => ⟨w1, ρ1, z1, S1, srTo.ext (r := mt ρ1 z1) q x⟩
  | rt d z1 => rw [e] at q; exact q
  | bk ρ1 z1 => rw [e] at q; exact q
  | ct ρ1 z1 => rw [e] at q; exact q
  | exc x ρ1 z1 => rw [e] at q; exact q
  | bad => rw [e] at q; exact q⟩
theorem s_one (h1 : DS X Γ B Wx RT st ms) : DSs X Γ B Wx RT [st] ms := pss_one h1
/-- an expression, then a statement's end -/
def Res.to {α : Type} (r : Res α) (ρ : En) (f : α → Z → SR) : SR := match r with
  | .ok a z => f a z
  | .exc x z => .exc x ρ z
  | .bad => .bad
theorem srTo.to {α : Type} {w : W} {D : Ends} {r : Res α} {ρ : En} {f : α → Z → SR} {σ : Sl} {H : Hp} (h : srTo Γ B Wx RT w D (r.to ρ f)) :
    resTo Γ B Wx w ρ σ H r fun a w1 z1 H1 => SI Γ B w1 ρ z1 σ H1 ∧ Step w H w1 H1 ∧ srTo Γ B Wx RT w1 D (f a z1) := by
  cases r with
  | ok a z => exact fun w1 H1 S s => ⟨S, s, srTo.ext (r := f a z) h s.ext⟩
  | exc x z => exact fun cls dd w1 H1 S s r => h cls dd σ w1 H1 S r
  | bad => exact h
def sExpr (m : M D) : MS := fun ρ z => (m ρ z).to ρ fun _ z1 => .nx ρ z1
theorem s_expr (h : PE X e (tB Γ B Wx m)) (hs : swapsWith e none pos.line X.env = pure false := by rfl) : DS X Γ B Wx RT (.Expr e pos) (sExpr m) := ps_weak (ps_expr h hs) fun D σ H ⟨w, ρ, z, S, q⟩ =>
  ⟨w, ρ, z, S, q.to.mono fun d w1 z1 H1 _ _ ⟨S1, s1, q1⟩ v _ => q1 σ w1 H1 S1 (.refl _)⟩
theorem s_doc {x : Str} {j : Nat} {p : Pos} : DS X Γ B Wx RT (.Expr (.Constant (.str x) j p) pos) sNx := ps_weak ps_doc fun D σ H ⟨w, ρ, z, S, q⟩ => q σ w H S (.refl w)
def sRet (m : M D) : MS := fun ρ z => (m ρ z).to ρ fun d z1 => .rt d z1
theorem s_ret (h : PE X e (tD Γ B Wx m)) : DS X Γ B Wx (RTn Γ) (.Return (some e) pos) (sRet m) := ps_weak (ps_ret h) fun D σ H ⟨w, ρ, z, S, q⟩ =>
  ⟨w, ρ, z, S, q.to.mono fun d w1 z1 H1 _ _ ⟨S1, s1, q1⟩ v r => q1 v w1 H1 S1.wi S1.st r⟩
theorem s_retN : DS X Γ B Wx (RTn Γ) (.Return none pos) (fun _ z => .rt .non z) := ps_weak ps_retN fun D σ H ⟨w, ρ, z, S, q⟩ => q .non w H S.wi S.st .non
/-- a new list is handed back -/
def sRetF (m : M (List D)) : MS := fun ρ z => (m ρ z).to ρ fun ds z1 => .rt (.lst ds) z1
theorem s_retF (h : PE X e (tF Γ B Wx ml)) : DS X Γ B Wx (RTf Γ B) (.Return (some e) pos) (sRetF ml) := ps_weak (ps_ret h) fun D σ H ⟨w, ρ, z, S, q⟩ =>
  ⟨w, ρ, z, S, q.to.mono fun ds w1 z1 H1 _ _ ⟨S1, s1, q1⟩ p o1 o2 o3 hp => q1 _ w1 H1 S1.wi S1.st ⟨ds, p, rfl, rfl, o1, o2, o3, (S.notOwn (w' := w) hp).2⟩⟩
theorem s_pass : DS X Γ B Wx RT (.Pass pos) sNx := ps_weak ps_pass fun D σ H ⟨w, ρ, z, S, q⟩ => q σ w H S (.refl w)
theorem s_break : DS X Γ B Wx RT (.Break pos) (fun ρ z => .bk ρ z) := ps_weak ps_break fun D σ H ⟨w, ρ, z, S, q⟩ => q σ w H S (.refl w)
theorem s_cont : DS X Γ B Wx RT (.Continue pos) (fun ρ z => .ct ρ z) := ps_weak ps_continue fun D σ H ⟨w, ρ, z, S, q⟩ => q σ w H S (.refl w)
def sIf (c : M Bool) (a b : MS) : MS := fun ρ z => (c ρ z).to ρ fun k z1 => if k = true then a ρ z1 else b ρ z1
theorem s_if {c : Expr} {mc : M Bool} {as bs : List Stmt} (hc : PT X c (tDT Γ B Wx mc)) (ha : DSs X Γ B Wx RT as ms) (hb : DSs X Γ B Wx RT bs mt) : DS X Γ B Wx RT (.If c as bs pos) (sIf mc ms mt) := ps_weak (ps_if hc ha hb) fun D σ H ⟨w, ρ, z, S, q⟩ =>
  ⟨w, ρ, z, S, q.to.mono fun k w1 z1 H1 _ _ ⟨S1, s1, q1⟩ => by
    cases k with
    | true => exact iteT ⟨w1, ρ, z1, S1, q1⟩
    | false => exact iteF ⟨w1, ρ, z1, S1, q1⟩⟩
/-! ### stores -/
def sTo (g : TgF) (d : D) (ρ : En) (z : Z) : SR := match g d ρ with
  | some ρ' => .nx ρ' z
  | none => .bad
def sAsg (g : TgF) (m : M D) : MS := fun ρ z => (m ρ z).to ρ fun d z1 => sTo g d ρ z1
theorem s_asg {sl : List Nat} {g : TgF} (h : PE X e (tD Γ B Wx m)) (hg : PG X tg (gD Γ B sl g)) (hs : swapsWithSole [tg] e pos.line X.env = pure false := by rfl) (hw : swappedStores [tg] e X.env = pure none := by rfl)
    (h1 : (assignEach [tg] X.env).map (·.2) = [assign tg X.env] := by rfl) : DS X Γ B Wx RT (.Assign [tg] e pos) (sAsg g m) := ps_weak (ps_asg h hg hs hw h1) fun D σ H ⟨w, ρ, z, S, q⟩ =>
  ⟨w, ρ, z, S, q.to.mono fun d w1 z1 H1 _ _ ⟨S1, s1, q1⟩ v rv => by
    unfold sTo at q1
    cases e : g d ρ with
    | none => rw [e] at q1; exact q1.elim
    | some ρ' => rw [e] at q1; exact ⟨w1, ρ, z1, d, S1, rv, ρ', e, fun σ' S' _ _ => q1 σ' w1 H1 S' (.refl _)⟩⟩
/-- a new list, owned by the slot -/
def setO (i : Nat) (o : OV) (ρ : En) : Option En := if i < ρ.length then some (ρ.set i (some (.own o))) else none
theorem SI.setOwn {w : W} {ρ : En} {z : Z} {σ : Sl} {H : Hp} (S : SI Γ B w ρ z σ H) {o : OV} {p : Addr} (r : OwnRep Γ w H p o) (h1 : w.R p = none) (h2 : p ∉ w.pl) (h3 : B.H p = none) (h4 : ∀ (j : Nat) (u : OV), ρ[j]? = some (some (.own u)) → σ[j]? ≠ some (some (.ref p))) {i : Nat} (hi : i < ρ.length) : SI Γ B w (ρ.set i (some (.own o))) z (σ.set i (some (.ref p))) H where
  wi := S.wi
  st := S.st
  len := by rw [List.length_set, List.length_set]; exact S.len
  sh := fun j d' h => by
    by_cases e : i = j
    · subst e
      rw [List.getElem?_set_self hi] at h
      cases h
    · rw [List.getElem?_set_ne e] at h
      rw [List.getElem?_set_ne e]
      exact S.sh j d' h
  own := fun j u h => by
    by_cases e : i = j
    · subst e
      rw [List.getElem?_set_self hi] at h
      cases h
      exact ⟨p, List.getElem?_set_self (by rw [← S.len]; exact hi), r, h1, h2, h3⟩
    · rw [List.getElem?_set_ne e] at h
      rw [List.getElem?_set_ne e]
      exact S.own j u h
  dis := fun j l u v c g1 g2 g3 g4 => by
    have hs : i < σ.length := by rw [← S.len]; exact hi
    by_cases e : i = j
    · by_cases e' : i = l
      · exact e.symm.trans e'
      · subst e
        rw [List.getElem?_set_self hs] at g3
        cases g3
        rw [List.getElem?_set_ne e'] at g2 g4
        exact absurd g4 (h4 l v g2)
    · by_cases e' : i = l
      · subst e'
        rw [List.getElem?_set_self hs] at g4
        cases g4
        rw [List.getElem?_set_ne e] at g1 g3
        exact absurd g3 (h4 j u g1)
      · rw [List.getElem?_set_ne e] at g1 g3
        rw [List.getElem?_set_ne e'] at g2 g4
        exact S.dis j l u v c g1 g2 g3 g4
def sOwn (i : Nat) (m : M (List D)) : MS := fun ρ z => (m ρ z).to ρ fun ds z1 => match setO i (.lst ds) ρ with
  | some ρ' => .nx ρ' z1
  | none => .bad
theorem own_to {i : Nat} {D : Ends} {σ : Sl} {H : Hp} : tDS Γ B Wx RT (sOwn i ml) D σ H → tF Γ B Wx ml σ H fun x H1 => D.nx (σ.set i (some x)) H1 := fun ⟨w, ρ, z, S, q⟩ =>
  ⟨w, ρ, z, S, q.to.mono fun ds w1 z1 H1 _ _ ⟨S1, s1, q1⟩ p o1 o2 o3 hp => by
    cases e : setO i (.lst ds) ρ with
    | none => rw [e] at q1; exact q1.elim
    | some ρ' =>
      rw [e] at q1
      unfold setO at e
      obtain ⟨rfl, hl⟩ := ite_some e
      obtain ⟨n1, n2⟩ := S.notOwn (w' := w) hp
      exact q1 _ w1 H1 (S1.setOwn o1 o2 o3 n2 n1 hl) (.refl _)⟩
theorem asg_to {i : Nat} {D : Ends} {σ : Sl} {H : Hp} : tDS Γ B Wx RT (sAsg (setE i) m) D σ H → tD Γ B Wx m σ H fun x H1 => D.nx (σ.set i (some x)) H1 := fun ⟨w, ρ, z, S, q⟩ =>
  ⟨w, ρ, z, S, q.to.mono fun d w1 z1 H1 _ _ ⟨S1, s1, q1⟩ v rv => by
    unfold sTo at q1
    cases e : setE i d ρ with
    | none => rw [e] at q1; exact q1.elim
    | some ρ' =>
      rw [e] at q1
      unfold setE at e
      obtain ⟨rfl, hl⟩ := ite_some e
      exact q1 _ w1 H1 (S1.set rv hl) (.refl _)⟩
theorem s_own (i : Nat) {x : Str} {p : Pos} (nd : X.N.Nodup) (h : PE X e (tF Γ B Wx ml)) (hi : X.N[i]? = some x := by rfl) (hx : Loc X.env.scope x := by first | exact Or.inl rfl | exact Or.inr rfl) (hf : X.fn x = true ∨ X.env.scope.names.lookup x = some .local := by first | exact .inl rfl | exact .inr rfl)
    (hs : swapsWithSole [.Name x p] e pos.line X.env = pure false := by rfl) (hw : swappedStores [.Name x p] e X.env = pure none := by rfl) : DS X Γ B Wx RT (.Assign [.Name x p] e pos) (sOwn i ml) := ps_weak (ps_asg h (pg_name nd hi hx hf) hs hw) fun D σ H q => own_to q
/-- an owned list is shared from here on (no statement of the text) -/
def frz (i : Nat) (ρ : En) : Option En := match ρ[i]? with
  | some (some (.own (.lst ds))) => some (ρ.set i (some (.sh (.lst ds))))
  | _ => none
def sFrz (i : Nat) (ms : MS) : MS := fun ρ z => match frz i ρ with
  | some ρ' => ms ρ' z
  | none => .bad
theorem s_frz (i : Nat) (h : DSs X Γ B Wx RT sts ms) : DSs X Γ B Wx RT sts (sFrz i ms) := pss_weak h fun D σ H ⟨w, ρ, z, S, q⟩ => by
  unfold sFrz at q
  cases e : frz i ρ with
  | none => rw [e] at q; exact q.elim
  | some ρ' =>
    rw [e] at q
    unfold frz at e
    split at e
    · rename_i ds he
      cases e
      obtain ⟨p, g1, g2, g3, g4, g5⟩ := S.own _ _ he
      have hi : i < ρ.length := (List.getElem?_eq_some_iff.mp he).1
      -- the slot forgotten, the list frozen, the slot shared
      have S1 : SI Γ B w (ρ.set i none) z σ H := by
        refine ⟨S.wi, S.st, by rw [List.length_set]; exact S.len, fun j d h => ?_, fun j o h => ?_, fun j l u v c k1 k2 k3 k4 => ?_⟩
        · by_cases e : i = j
          · subst e; rw [List.getElem?_set_self hi] at h; cases h
          · rw [List.getElem?_set_ne e] at h; exact S.sh j d h
        · by_cases e : i = j
          · subst e; rw [List.getElem?_set_self hi] at h; cases h
          · rw [List.getElem?_set_ne e] at h; exact S.own j o h
        · by_cases e : i = j
          · subst e; rw [List.getElem?_set_self hi] at k1; cases k1
          · by_cases e' : i = l
            · subst e'; rw [List.getElem?_set_self hi] at k2; cases k2
            · rw [List.getElem?_set_ne e] at k1
              rw [List.getElem?_set_ne e'] at k2
              exact S.dis j l u v c k1 k2 k3 k4
      obtain ⟨w2, S2, mono, r, e1, e2, e3⟩ := S1.frozen g2 g3 g4 (fun j u h hj => by
        by_cases e : i = j
        · subst e; rw [List.getElem?_set_self hi] at h; cases h
        · rw [List.getElem?_set_ne e] at h
          exact e (S.dis i j _ _ p he h g1 hj)) (.inl g5)
      have S3 := S2.set r (i := i) (by rw [List.length_set]; exact hi)
      rw [List.set_set] at S3
      have hσ : σ.set i (some (.ref p)) = σ := by
        apply List.ext_getElem?
        intro j
        by_cases e : i = j
        · subst e
          rw [List.getElem?_set_self (by rw [← S.len]; exact hi), g1]
        · rw [List.getElem?_set_ne e]
      rw [hσ] at S3
      exact ⟨w2, _, z, S3, srTo.ext (r := ms _ z) q ⟨e2, fun n a h => by rw [e1]; exact h⟩⟩
    · cases e

/-! ### loops -/
def forGo (g : TgF) (body : MS) : List D → En → Z → SR
  | [], ρ, z => .nx ρ z
  | d :: ds, ρ, z => match g d ρ with
    | none => .bad
    | some ρ1 => match body ρ1 z with
      | .nx ρ2 z2 => forGo g body ds ρ2 z2
      | .ct ρ2 z2 => forGo g body ds ρ2 z2
      | .bk ρ2 z2 => .nx ρ2 z2
      | .rt d z2 => .rt d z2
      | .exc x ρ2 z2 => .exc x ρ2 z2
      | .bad => .bad
def sFor (it : M (List D)) (g : TgF) (body : MS) : MS := fun ρ z => (it ρ z).to ρ fun ds z1 => forGo g body ds ρ z1
theorem s_for {iter : Expr} {body : List Stmt} {mi : M (List D)} {sl : List Nat} {g : TgF} {mb : MS} (hp : PassesOwn (model X.prog X.w) X.A X.env X.xe) (hc : X.calm = true) (hi : PI X tg iter (tDI Γ B Wx mi)) (hg : PG X tg (gD Γ B sl g)) (hb : DSs X Γ B Wx RT body mb)
    (hs : ∀ x, foldedSetIterable iter X.env x = pure x := by intro _; rfl) : DS X Γ B Wx RT (.For tg iter body [] pos) (sFor mi g mb) := ps_weak (ps_for hp hc hi hg hb hs) fun D σ H ⟨w, ρ, z, S, q⟩ => by
  refine ⟨w, ρ, z, S, q.to.mono fun ds w1 z1 H1 _ _ ⟨S1, s1, q1⟩ J Fut hf it => ?_⟩
  let P : Nat → Sl → Hp → Prop := fun i σ3 H3 => ∃ w3 ρ3 z3, SI Γ B w3 ρ3 z3 σ3 H3 ∧ Ext w1 w3 ∧ srTo Γ B Wx RT w3 D (forGo g mb (ds.drop i) ρ3 z3)
  refine ⟨fun i n σ3 H3 => n = ds.length - i ∧ i ≤ ds.length ∧ P i σ3 H3, ⟨ds.length, by simp, Nat.zero_le _, w1, ρ, z1, S1, .refl _, q1⟩, ?_⟩
  rintro i n σ3 H3 ⟨rfl, hi, w3, ρ3, z3, S3, x3, q3⟩
  have F3 := hf w3 H3 x3
  by_cases hlt : i < ds.length
  · refine .inr ⟨it.go i w3 z3 H3 F3 S3.wi hlt, fun σ' H' => P (i + 1) σ' H', fun σ' H' p' => ⟨ds.length - (i + 1), by omega, rfl, hlt, p'⟩, fun x H' y => ?_⟩
    obtain ⟨w4, I4, s4, r4⟩ := it.yld i w3 z3 H3 x H' ds[i] F3 S3.wi (List.getElem?_eq_getElem hlt) y
    rw [List.drop_eq_getElem_cons hlt] at q3
    unfold forGo at q3
    cases hg1 : g ds[i] ρ3 with
    | none => rw [hg1] at q3; exact q3.elim
    | some ρ4 =>
      rw [hg1] at q3
      dsimp only at q3
      have x4 : Ext w1 w4 := x3.trans s4.ext
      refine ⟨w4, ρ3, z3, ds[i], S3.carry I4 s4, r4, ρ4, hg1, fun σ5 S5 _ _ => ⟨w4, ρ4, z3, S5, ?_⟩⟩
      cases hb1 : mb ρ4 z3 with
      | nx ρ6 z6 =>
        rw [hb1] at q3
        exact fun σ6 w6 H6 S6 x6 => ⟨w6, ρ6, z6, S6, x4.trans x6, srTo.ext (r := forGo g mb (ds.drop (i + 1)) ρ6 z6) q3 (s4.ext.trans x6)⟩
      | ct ρ6 z6 =>
        rw [hb1] at q3
        exact fun σ6 w6 H6 S6 x6 => ⟨w6, ρ6, z6, S6, x4.trans x6, srTo.ext (r := forGo g mb (ds.drop (i + 1)) ρ6 z6) q3 (s4.ext.trans x6)⟩
      | bk ρ6 z6 =>
        rw [hb1] at q3
        exact fun σ6 w6 H6 S6 x6 => q3 σ6 w6 H6 S6 (s4.ext.trans x6)
      | rt d6 z6 => rw [hb1] at q3; exact q3
      | exc x6 ρ6 z6 => rw [hb1] at q3; exact q3
      | bad => rw [hb1] at q3; exact q3
  · have e : i = ds.length := by omega
    subst e
    refine .inl ⟨it.stop w3 z3 H3 F3 S3.wi, ?_⟩
    rw [List.drop_length] at q3
    exact q3 σ3 w3 H3 S3 (.refl _)
/-! ### name = [.. for ..] on one line, the name a local that is no cell -/
section
variable {iter elt : Expr} {ifs : List Expr} {scope : Scope} {own : List (Str × Nat)} {mi : M (List D)} {g : TgF} {sl : List Nat} {mt : M Bool} {me : M D} {y : Str} {py spos : Pos}
theorem s_asgLc (i : Nat) (hc : X.calm = true) (nd : X.N.Nodup) (hi : PI X tg iter (tBI Γ B Wx mi)) (ok : BlkOk X.N X.env.scope scope own)
    (hg : ∀ (s : Shared) (H : Hp) (C : Addr) (cl : List (Str × Addr)) (fp : List Addr), PG (X.blk s H scope (compEnvC scope cl C X.env) fp) tg (gD Γ B sl g)) (ht : ∀ (s : Shared) (H : Hp) (C : Addr) (cl : List (Str × Addr)) (fp : List Addr), PTs (X.blk s H scope (compEnvC scope cl C X.env) fp) ifs (tDT Γ B Wx0 mt))
    (he : ∀ (s : Shared) (H : Hp) (C : Addr) (cl : List (Str × Addr)) (fp : List Addr), PE (X.blk s H scope (compEnvC scope cl C X.env) fp) elt (tD Γ B Wx0 me))
    (hsw : swapsWith (.ListComp elt [⟨tg, iter, ifs, 0⟩] scope pos) (some (.Name y py)) spos.line X.env = pure true) (hy : X.N[i]? = some y := by rfl) (hyl : X.env.scope.names.lookup y = some .local := by rfl) (hsl : ∀ j ∈ sl, j ∈ own.map (·.2) := by decide) (hs : ∀ x, foldedSetIterable iter X.env x = pure x := by intro _; rfl) :
    DS X Γ B Wx RT (.Assign [.Name y py] (.ListComp elt [⟨tg, iter, ifs, 0⟩] scope pos) spos) (sAsg (setE i) (mFz (mLc mi g mt me (own.map (·.2))))) :=
  ps_weak (ps_setLc hc nd hy hyl hsw hi ok hg ht he hs) fun D σ H q => lc_to hsl _ _ _ (fz_to _ _ _ (asg_to q))
theorem s_ownLc (i : Nat) (hc : X.calm = true) (nd : X.N.Nodup) (hi : PI X tg iter (tBI Γ B Wx mi)) (ok : BlkOk X.N X.env.scope scope own)
    (hg : ∀ (s : Shared) (H : Hp) (C : Addr) (cl : List (Str × Addr)) (fp : List Addr), PG (X.blk s H scope (compEnvC scope cl C X.env) fp) tg (gD Γ B sl g)) (ht : ∀ (s : Shared) (H : Hp) (C : Addr) (cl : List (Str × Addr)) (fp : List Addr), PTs (X.blk s H scope (compEnvC scope cl C X.env) fp) ifs (tDT Γ B Wx0 mt))
    (he : ∀ (s : Shared) (H : Hp) (C : Addr) (cl : List (Str × Addr)) (fp : List Addr), PE (X.blk s H scope (compEnvC scope cl C X.env) fp) elt (tD Γ B Wx0 me))
    (hsw : swapsWith (.ListComp elt [⟨tg, iter, ifs, 0⟩] scope pos) (some (.Name y py)) spos.line X.env = pure true) (hy : X.N[i]? = some y := by rfl) (hyl : X.env.scope.names.lookup y = some .local := by rfl) (hsl : ∀ j ∈ sl, j ∈ own.map (·.2) := by decide) (hs : ∀ x, foldedSetIterable iter X.env x = pure x := by intro _; rfl) :
    DS X Γ B Wx RT (.Assign [.Name y py] (.ListComp elt [⟨tg, iter, ifs, 0⟩] scope pos) spos) (sOwn i (mLc mi g mt me (own.map (·.2)))) :=
  ps_weak (ps_setLc hc nd hy hyl hsw hi ok hg ht he hs) fun D σ H q => lc_to hsl _ _ _ (own_to q)
end
end
end NW
/-! Defs and their calls. -/
namespace NW
open PySem PySem.Spec PyProof.Rows L2

/-- a def's promise where no repr runs around the call -/
structure FnG (P : Program) (w : World) (K : PySem.W.Frag) (mg : Str → Option Value) (base : Heap) (k : Nat) (f : Addr) (fd : FuncData) (ps : List Str) (sp : Sp) : Prop where
  len : ∀ vs H Q E, sp vs H Q E → vs.length = ps.length
  run : ∀ (A : Around) (outer : List Env) (s : Shared) (H : Hp) (args : Args) (us : List Value) (vs : List V) (Q : VK) (E : XK), Room k A → A.guards = some [] → Env0 P w K mg base A outer s H → BindsTo s fd args (ps.zip us) → Vals vs us → sp vs H Q E →
    codeAny (model P w) A (.call (.ref f) args) (CR (L2.CX P w) outer P w H s Q E) s
theorem FnG.mono {P : Program} {w : World} {K : PySem.W.Frag} {mg : Str → Option Value} {base : Heap} {j k : Nat} {f : Addr} {fd : FuncData} {ps : List Str} {sp : Sp} (F : FnG P w K mg base j f fd ps sp) (h : j ≤ k) : FnG P w K mg base k f fd ps sp :=
  ⟨F.len, fun A outer s H args us vs Q E hr => F.run A outer s H args us vs Q E (hr.mono h)⟩
theorem FnG.imp {P : Program} {w : World} {K : PySem.W.Frag} {mg : Str → Option Value} {base : Heap} {k : Nat} {f : Addr} {fd : FuncData} {ps : List Str} {sp sp' : Sp} (F : FnG P w K mg base k f fd ps sp)
    (h : ∀ vs H Q E, sp' vs H Q E → sp vs H Q E) : FnG P w K mg base k f fd ps sp' :=
  ⟨fun vs H Q E q => F.len vs H Q E (h _ _ _ _ q), fun A outer s H args us vs Q E hr hg he hb hv hs => F.run A outer s H args us vs Q E hr hg he hb hv (h _ _ _ _ hs)⟩
theorem FnOk.toG {P : Program} {w : World} {K : PySem.W.Frag} {mg : Str → Option Value} {base : Heap} {k : Nat} {f : Addr} {fd : FuncData} {ps : List Str} {sp : Sp} (F : FnOk P w K mg base (L2.CX P w) k f fd ps sp) : FnG P w K mg base k f fd ps sp :=
  ⟨F.len, fun A outer s H args us vs Q E hr _ => F.run A outer s H args us vs Q E hr⟩
/-- by its body -/
theorem fnG_of {P : Program} {w : World} {K : PySem.W.Frag} {mg : Str → Option Value} {base : Heap} {k : Nat} {f : Addr} {name qual : Str} {params : Arguments} {body : List Stmt} {scope : Scope} {dV kV doc pm cdv ct oc : Value} {an od : Option Addr}
    {osl : Array (Option Value)} {N ps : List Str} {sp : Sp} (lk : K.lookup f = some ⟨oc, od, .func (PySem.W.fnOf name qual params body scope dV kV doc pm an cdv ct), osl⟩) (hcd : PySem.W.codeIn K cdv qual = true) (S : FnScope N ps scope)
    (len : ∀ vs H Q E, sp vs H Q E → vs.length = ps.length)
    (hbody : ∀ (A : Around) (outer : List Env) (s : Shared) (H : Hp) (vs : List V) (Q : VK) (E : XK), Room k (A.deeper (envOfC qual scope s.heap.objs.size f cdv)) → A.guards = some [] → sp vs H Q E →
      ∃ t, PSs (cxOf (L2.CX P w) P w K mg base N qual scope f cdv A outer s H E) body t ∧ t { nx := fun _ H' => Q .non H', rt := Q } (start N vs) H) :
    FnG P w K mg base (k + 1) f (PySem.W.fnOf name qual params body scope dV kV doc pm an cdv ct) ps sp := by
  refine ⟨len, fun A outer s H args us vs Q E hr hg e0 hb r hsp => ?_⟩
  have hl := len _ _ _ _ hsp
  have KX : K.In s.heap := e0.mod.kin.keeps fun b o e => (e0.bs b o e).1
  have lim : s.heap.NoLimit := e0.mod.nolimit.keeps fun b o e => (e0.bs b o e).1
  refine codeAny_call_function hr.depth (KX _ _ lk) rfl S.co S.gen rfl (PySem.W.codeRec_of KX hcd) (hb _ _ _ _ (wpAny_newFunctionEnv_cells S.kind (fun ⟨n, v⟩ hy => ?_) fun env he s1 x => ?_))
  · rcases S.par n (List.of_mem_zip hy).1 with q | q
    · exact .inl q
    · exact .inr ⟨q, PySem.W.cellsFrom_some _ _ _ (.inl q)⟩
  subst he
  refine ⟨lim.keeps x.toInCall.keep, codeAny_func ?_⟩
  obtain ⟨t, ht, hq⟩ := hbody A outer s H vs Q E (hr.deeper _) hg hsp
  have I := inv_start (CX := L2.CX P w) (E := E) S hr.hd e0 hl r x
  refine wpAny_mono (ht.run [] s1 (start N vs) H _ I hq) (fun fl s' hs => ?_) fun e s' hs => hs
  cases fl with
  | ret u =>
    obtain ⟨v, σ', H', J, rv, q⟩ := hs
    exact ⟨v, H', J.os, J.bare, J.base, J.hok, rv, q⟩
  | next =>
    obtain ⟨σ', H', J, q⟩ := hs
    exact ⟨V.non, H', J.os, J.bare, J.base, J.hok, (rfl : RelV V.non Value.none), q⟩
  | brk => obtain ⟨_, _, _, q⟩ := hs; exact False.elim q
  | cont => obtain ⟨_, _, _, q⟩ := hs; exact False.elim q

section
variable {Γ : Gam}
/-- a call's end, by the mirror -/
def fnTo (Γ : Gam) (RT : RTT) (w : W) (H : Hp) (r : Res D) (Q : VK) (E : XK) : Prop := match r with
  | .ok d z => ∀ v w' H', WI Γ w' z H' → Step w H w' H' → RT w' H' d v → Q v H'
  | .exc x z => ∀ cls dd w' H', WI Γ w' z H' → Step w H w' H' → RepX Γ w' x cls dd H' → E cls dd H'
  | .bad => False
/-- hands back data -/
def spD (Γ : Gam) (n : Nat) (F : FM) : Sp := fun vs H Q E => vs.length = n ∧ ∃ w z ds, WI Γ w z H ∧ RepL Γ w ds vs ∧ fnTo Γ (RTn Γ) w H (F ds z) Q E
/-- hands back a new list -/
def spF (Γ : Gam) (n : Nat) (F : FM) : Sp := fun vs H Q E => vs.length = n ∧ ∃ w z ds, WI Γ w z H ∧ RepL Γ w ds vs ∧ fnTo Γ (RTf Γ ⟨w, H⟩) w H (F ds z) Q E
def startE (n : Nat) (ds : List D) : En := ds.map (fun d => some (.sh d)) ++ List.replicate (n - ds.length) none
def endR (r : SR) : Res D := match r with
  | .nx _ z => .ok .non z
  | .rt d z => .ok d z
  | .exc x _ z => .exc x z
  | _ => .bad
/-- .. of a def that hands back a new list -/
def endRF (r : SR) : Res D := match r with
  | .rt d z => .ok d z
  | .exc x _ z => .exc x z
  | _ => .bad
def runBF (n : Nat) (ms : MS) : FM := fun ds z => endRF (ms (startE n ds) z)
def runB (n : Nat) (ms : MS) : FM := fun ds z => endR (ms (startE n ds) z)
theorem SI.start {w : W} {z : Z} {H : Hp} {N : List Str} {ds : List D} {vs : List V} (I : WI Γ w z H) (r : RepL Γ w ds vs) : SI Γ ⟨w, H⟩ w (startE N.length ds) z (start N vs) H where
  wi := I
  st := .refl _ _
  len := by unfold startE L2.start; simp [r.length]
  sh := fun i d h => by
    unfold startE at h
    by_cases hi : i < ds.length
    · rw [List.getElem?_append_left (by simpa using hi), List.getElem?_map] at h
      obtain ⟨d', h1, h2⟩ := Option.map_eq_some_iff.mp h
      cases h2
      obtain ⟨v, h3, h4⟩ := r.get h1
      refine ⟨v, ?_, h4⟩
      unfold L2.start
      rw [List.getElem?_append_left (by rw [List.length_map, r.length]; exact hi), List.getElem?_map, h3]
      rfl
    · rw [List.getElem?_append_right (by simpa using hi), List.getElem?_replicate] at h
      split at h <;> cases h
  own := fun i o h => by
    unfold startE at h
    by_cases hi : i < ds.length
    · rw [List.getElem?_append_left (by simpa using hi), List.getElem?_map] at h
      obtain ⟨d', h1, h2⟩ := Option.map_eq_some_iff.mp h
      cases h2
    · rw [List.getElem?_append_right (by simpa using hi), List.getElem?_replicate] at h
      split at h <;> cases h
  dis := fun i j o u c h => by
    intro h2
    unfold startE at h
    by_cases hi : i < ds.length
    · rw [List.getElem?_append_left (by simpa using hi), List.getElem?_map] at h
      obtain ⟨d', h1, h2⟩ := Option.map_eq_some_iff.mp h
      cases h2
    · rw [List.getElem?_append_right (by simpa using hi), List.getElem?_replicate] at h
      split at h <;> cases h
variable {P : Program} {w : World} {K : PySem.W.Frag} {mg : Str → Option Value} {base : Heap}
abbrev WxE (E : XK) : WX := fun cls dd _ H => E cls dd H
theorem body_to {RT : RTT} {w0 : W} {H : Hp} {ms : MS} {ρ : En} {z : Z} {Q : VK} {E : XK} (h : fnTo Γ RT w0 H (endR (ms ρ z)) Q E) (hn : ∀ w' H' , RT w' H' .non .non) : srTo Γ ⟨w0, H⟩ (WxE E) RT w0 { nx := fun _ H' => Q .non H', rt := Q } (ms ρ z) := by
  cases e : ms ρ z with
  | nx ρ' z' => rw [e] at h; exact fun σ w' H' S _ => h .non w' H' S.wi S.st (hn _ _)
  | rt d z' => rw [e] at h; exact fun v w' H' I s r => h v w' H' I s r
  | bk ρ' z' => rw [e] at h; exact h.elim
  | ct ρ' z' => rw [e] at h; exact h.elim
  | exc x ρ' z' => rw [e] at h; exact fun cls dd σ w' H' S r => h cls dd w' H' S.wi S.st r
  | bad => rw [e] at h; exact h
/-- what a body's derivation is given -/
abbrev CxF (P : Program) (w : World) (K : PySem.W.Frag) (mg : Str → Option Value) (base : Heap) (N : List Str) (qual : Str) (st : Stmt) (f : Addr) (cdv : Value) (A : Around) (outer : List Env) (s : Shared) (H : Hp) (E : XK) : Cx :=
  cxOf (L2.CX P w) P w K mg base N qual (defScope st) f cdv A outer s H E
theorem fn_d {x qual : Str} {st : Stmt} {f : Addr} {fd : FuncData} {N ps : List Str} {k : Nat} {ms : MS} {cls : Nat → Addr} (F : Fun K x qual st f fd) (S : FnScope N ps (defScope st))
    (hbody : ∀ (cdv : Value) (A : Around) (outer : List Env) (s : Shared) (H : Hp) (E : XK) (B : Bs), Dv ⟨K, cls⟩ (CxF P w K mg base N qual st f cdv A outer s H E) (WxE E) k → PassesOwn (model P w) (CxF P w K mg base N qual st f cdv A outer s H E).A (CxF P w K mg base N qual st f cdv A outer s H E).env (CxF P w K mg base N qual st f cdv A outer s H E).xe →
      DSs (CxF P w K mg base N qual st f cdv A outer s H E) ⟨K, cls⟩ B (WxE E) (RTn ⟨K, cls⟩) (defBody st) ms) : FnG P w K mg base (k + 1) f fd ps (spD ⟨K, cls⟩ ps.length (runB N.length ms)) := by
  obtain ⟨oc, od, kV, doc, pm, an, cdv, ct, osl, rfl, lk, hcd⟩ := F.ex
  refine fnG_of lk hcd S (fun vs H Q E h => h.1) fun A outer s H vs Q E hr hg hsp => ?_
  obtain ⟨hl, w0, z, ds, I, r, h⟩ := hsp
  refine ⟨_, hbody cdv A outer s H E ⟨w0, H⟩ ⟨rfl, rfl, S.nd, hr, hg, takes_of rfl rfl rfl rfl⟩ (passes_of rfl), w0, _, z, SI.start I r, body_to h fun _ _ => .non⟩
theorem fn_f {x qual : Str} {st : Stmt} {f : Addr} {fd : FuncData} {N ps : List Str} {k : Nat} {ms : MS} {cls : Nat → Addr} (F : Fun K x qual st f fd) (S : FnScope N ps (defScope st))
    (hbody : ∀ (cdv : Value) (A : Around) (outer : List Env) (s : Shared) (H : Hp) (E : XK) (B : Bs), Dv ⟨K, cls⟩ (CxF P w K mg base N qual st f cdv A outer s H E) (WxE E) k → PassesOwn (model P w) (CxF P w K mg base N qual st f cdv A outer s H E).A (CxF P w K mg base N qual st f cdv A outer s H E).env (CxF P w K mg base N qual st f cdv A outer s H E).xe →
      DSs (CxF P w K mg base N qual st f cdv A outer s H E) ⟨K, cls⟩ B (WxE E) (RTf ⟨K, cls⟩ B) (defBody st) ms) : FnG P w K mg base (k + 1) f fd ps (spF ⟨K, cls⟩ ps.length (runBF N.length ms)) := by
  obtain ⟨oc, od, kV, doc, pm, an, cdv, ct, osl, rfl, lk, hcd⟩ := F.ex
  refine fnG_of lk hcd S (fun vs H Q E h => h.1) fun A outer s H vs Q E hr hg hsp => ?_
  obtain ⟨hl, w0, z, ds, I, r, h⟩ := hsp
  refine ⟨_, hbody cdv A outer s H E ⟨w0, H⟩ ⟨rfl, rfl, S.nd, hr, hg, takes_of rfl rfl rfl rfl⟩ (passes_of rfl), w0, _, z, SI.start I r, ?_⟩
  have h' : fnTo ⟨K, cls⟩ (RTf ⟨K, cls⟩ ⟨w0, H⟩) w0 H (endRF (ms (startE N.length ds) z)) Q E := h
  cases e : ms (startE N.length ds) z with
  | nx ρ' z' => rw [e] at h'; exact h'.elim
  | rt d z' => rw [e] at h'; exact fun v w' H' I s r => h' v w' H' I s r
  | bk ρ' z' => rw [e] at h'; exact h'.elim
  | ct ρ' z' => rw [e] at h'; exact h'.elim
  | exc x ρ' z' => rw [e] at h'; exact fun cls dd σ w' H' S r => h' cls dd w' H' S.wi S.st r
  | bad => rw [e] at h'; exact h'
end

section
variable {Γ : Gam} {P : Program} {w : World} {K : PySem.W.Frag} {mg : Str → Option Value} {base : Heap}
theorem fn_dn {x qual : Str} {st : Stmt} {f : Addr} {fd : FuncData} {k n : Nat} {F0 : FM} {cls : Nat → Addr} (N ps : List Str) (ms : MS) (F : Fun K x qual st f fd) (S : FnScope N ps (defScope st)) (hF : F0 = runB N.length ms) (hn : n = ps.length)
    (hbody : ∀ (cdv : Value) (A : Around) (outer : List Env) (s : Shared) (H : Hp) (E : XK) (B : Bs), Dv ⟨K, cls⟩ (CxF P w K mg base N qual st f cdv A outer s H E) (WxE E) k → PassesOwn (model P w) (CxF P w K mg base N qual st f cdv A outer s H E).A (CxF P w K mg base N qual st f cdv A outer s H E).env (CxF P w K mg base N qual st f cdv A outer s H E).xe →
      DSs (CxF P w K mg base N qual st f cdv A outer s H E) ⟨K, cls⟩ B (WxE E) (RTn ⟨K, cls⟩) (defBody st) ms) : FnG P w K mg base (k + 1) f fd ps (spD ⟨K, cls⟩ n F0) := by
  subst hF hn
  exact fn_d F S hbody
theorem fn_fn {x qual : Str} {st : Stmt} {f : Addr} {fd : FuncData} {k n : Nat} {F0 : FM} {cls : Nat → Addr} (N ps : List Str) (ms : MS) (F : Fun K x qual st f fd) (S : FnScope N ps (defScope st)) (hF : F0 = runBF N.length ms) (hn : n = ps.length)
    (hbody : ∀ (cdv : Value) (A : Around) (outer : List Env) (s : Shared) (H : Hp) (E : XK) (B : Bs), Dv ⟨K, cls⟩ (CxF P w K mg base N qual st f cdv A outer s H E) (WxE E) k → PassesOwn (model P w) (CxF P w K mg base N qual st f cdv A outer s H E).A (CxF P w K mg base N qual st f cdv A outer s H E).env (CxF P w K mg base N qual st f cdv A outer s H E).xe →
      DSs (CxF P w K mg base N qual st f cdv A outer s H E) ⟨K, cls⟩ B (WxE E) (RTf ⟨K, cls⟩ B) (defBody st) ms) : FnG P w K mg base (k + 1) f fd ps (spF ⟨K, cls⟩ n F0) := by
  subst hF hn
  exact fn_f F S hbody
end
/-! ### calls -/
section
variable {X : Cx} {Γ : Gam} {B : Bs} {Wx : WX} {k j : Nat} {a b e : Expr} {es : List Expr} {m ma mb : M D} {ml : M (List D)} {pos : Pos} {f : Addr} {fd : FuncData} {ps : List Str} {F : FM}
theorem hu64 (V : Dv Γ X Wx k) : X.A.units + 64 < cLine := V.room.units
theorem Dv.blk {s : Shared} {H : Hp} {scope : Scope} {cenv : Env} {fp : List Addr} (V : Dv Γ X Wx k) : Dv Γ (X.blk s H scope cenv fp) Wx0 k := ⟨V.hK, V.calm, V.nd, V.room, V.grd, takes0⟩
theorem run_fnG {sp : Sp} {dvs : List V} {ds : List Value} {E : XK} {pins : List (Addr × Obj)} {σ : Sl} {H : Hp} {s : Shared} {Q : VK} {us : List Value} {vs : List V} (G : FnG X.prog X.w X.K X.mg X.base k f fd ps sp) (hr : Room k X.A) (hg : X.A.guards = some []) (hb : Binds X.K fd ps ds) (hd : Vals dvs ds) (hx : PassesAt (L2.CX X.prog X.w) X σ E)
    (I : Inv X pins σ H s) (r : Vals vs us) (h : sp (vs ++ dvs) H Q E) : wpAny (model X.prog X.w) X.A (call (.ref f) us) (EP X pins σ Q) X.xe s := by
  have r2 : Vals (vs ++ dvs) (us ++ ds) := r.append hd
  have hl : (us ++ ds).length = ps.length := by rw [← r2.length]; exact G.len _ _ _ _ h
  refine wpAny_call (codeAny_mono (G.run X.A X.stack s H ⟨us, []⟩ (us ++ ds) (vs ++ dvs) Q E hr hg I.env0 (hb s us I.kIn hl) r2 h) fun r s' hq => ?_)
  cases r with
  | error e => exact hx pins H s e s' I hq
  | ok fl =>
    cases fl with
    | ret u => exact I.after hq
    | next => exact False.elim hq
    | brk => exact False.elim hq
    | cont => exact False.elim hq
def mApp (n : Nat) (F : FM) (ml : M (List D)) : M D := mBind ml fun ds _ z => if ds.length = n then F ds z else .bad
def itemsL : D → Option (List D)
  | .lst ds => some ds
  | _ => none
/-- the arguments are there: the def's promise from the mirror's rest -/
theorem app_to {w : W} {ρ : En} {z : Z} {σ : Sl} {H : Hp} {ds : List D} {vs : List V} {Q : VK} {n : Nat} (S : SI Γ B w ρ z σ H) (r : RepL Γ w ds vs) (q : resTo Γ B Wx w ρ σ H (if ds.length = n then F ds z else .bad) fun d w' _ H' => ∀ v, Rep Γ w' d v → Q v H') : spD Γ n F vs H Q (fun cls dd H' => Wx cls dd σ H') := by
  split at q
  · refine ⟨r.length.trans (by assumption), w, z, ds, S.wi, r, ?_⟩
    cases e : F ds z with
    | ok d z1 => rw [e] at q; exact fun v w' H' I s rv => q w' H' (S.carry I s) s v rv
    | exc x z1 => rw [e] at q; exact fun cls dd w' H' I s rx => q cls dd w' H' (S.carry I s) s rx
    | bad => rw [e] at q; exact q
  · exact q.elim
theorem appF_to {w : W} {ρ : En} {z : Z} {σ : Sl} {H : Hp} {ds : List D} {vs : List V} {Q : VK} {n : Nat} (S : SI Γ B w ρ z σ H) (r : RepL Γ w ds vs)
    (q : resTo Γ B Wx w ρ σ H ((if ds.length = n then F ds z else .bad).bind fun d z1 => mOpt (fun _ => itemsL d) ρ z1) fun ds w' _ H' => ∀ p, OwnRep Γ w' H' p (.lst ds) → w'.R p = none → p ∉ w'.pl → H p = none → Q (.ref p) H') : spF Γ n F vs H Q (fun cls dd H' => Wx cls dd σ H') := by
  split at q
  · refine ⟨r.length.trans (by assumption), w, z, ds, S.wi, r, ?_⟩
    cases e : F ds z with
    | ok d z1 =>
      rw [e] at q
      obtain ⟨es, he, q⟩ := resTo.opt (f := fun _ => itemsL d) (ρ := ρ) (z := z1) q
      rintro v w' H' I s ⟨ds', p, rfl, rfl, o1, o2, o3, o4⟩
      cases he
      exact q w' H' (S.carry I s) s p o1 o2 o3 o4
    | exc x z1 => rw [e] at q; exact fun cls dd w' H' I s rx => q cls dd w' H' (S.carry I s) s rx
    | bad => rw [e] at q; exact q
  · exact q.elim
variable {x : Str} {p : Pos}
theorem call_args {sp : Sp} {n : Nat} {te : TE} (V : Dv Γ X Wx j) (G : FnG X.prog X.w X.K X.mg X.base k f fd ps sp) (hm : X.mg x = some (.ref f)) (hkp : PySem.W.keepIn X.K (.ref f) = true) (hb : Binds X.K fd ps []) {ta : TA} (ha : PA X (e :: es) ta)
    (h : ∀ σ H Q, te σ H Q → ta σ H fun vs H1 => sp vs H1 Q (fun cls dd H' => Wx cls dd σ H')) (hj : k ≤ j) (hg : Gl X x) (hdb : (x == ("__debug__" : Str)) = false)
    (he : starEach (e :: es) X.env = (false, eval e X.env) :: starEach es X.env) (hpl : (backTo pos (starEach es X.env)).any (·.1) = false) : PE X (.Call (.Name x p) (e :: es) [] pos) te := by
  refine ⟨fun pins s σ H Q I q => ?_⟩
  refine wpAny_Call_Name_kw (ld_glob I hg hm ?_ hdb)
  refine PySem.W.callWith_K (h₀ := X.base) I.ok.mod.kin hkp (thn (ha.run pos pins s σ H _ I (h σ H Q q)) fun us s1 ⟨vs, H1, I1, r, q1⟩ => ⟨I1.kIn, ?_⟩) he hpl
  refine run_fnG (dvs := []) G (V.room.mono hj) V.grd hb .nil (passAt V.tk σ) I1 r ?_
  rw [List.append_nil]
  exact q1
theorem d_call {n : Nat} (V : Dv Γ X Wx j) (G : FnG X.prog X.w X.K X.mg X.base k f fd ps (spD Γ n F)) (hm : X.mg x = some (.ref f)) (hkp : PySem.W.keepIn X.K (.ref f) = true) (hb : Binds X.K fd ps []) (ha : PA X (e :: es) (tDA Γ B Wx ml)) (hj : k ≤ j := by decide) (hg : Gl X x := by rfl) (hdb : (x == ("__debug__" : Str)) = false := by decide)
    (he : starEach (e :: es) X.env = (false, eval e X.env) :: starEach es X.env := by rfl) (hpl : (backTo pos (starEach es X.env)).any (·.1) = false := by rfl) : PE X (.Call (.Name x p) (e :: es) [] pos) (tD Γ B Wx (mApp n F ml)) :=
  call_args (n := 0) V G hm hkp hb ha (fun σ H Q ⟨w, ρ, z, S, q⟩ => ⟨w, ρ, z, S, q.bind.mono fun ds w1 z1 H1 _ _ ⟨S1, s1, q1⟩ vs rvs => app_to S1 rvs q1⟩) hj hg hdb he hpl
/-- a def that hands back a new list -/
def mAppF (n : Nat) (F : FM) (ml : M (List D)) : M (List D) := mBind ml fun ds ρ z => (if ds.length = n then F ds z else .bad).bind fun d z1 => mOpt (fun _ => itemsL d) ρ z1
theorem f_call {n : Nat} (V : Dv Γ X Wx j) (G : FnG X.prog X.w X.K X.mg X.base k f fd ps (spF Γ n F)) (hm : X.mg x = some (.ref f)) (hkp : PySem.W.keepIn X.K (.ref f) = true) (hb : Binds X.K fd ps []) (ha : PA X (e :: es) (tDA Γ B Wx ml)) (hj : k ≤ j := by decide) (hg : Gl X x := by rfl) (hdb : (x == ("__debug__" : Str)) = false := by decide)
    (he : starEach (e :: es) X.env = (false, eval e X.env) :: starEach es X.env := by rfl) (hpl : (backTo pos (starEach es X.env)).any (·.1) = false := by rfl) : PE X (.Call (.Name x p) (e :: es) [] pos) (tF Γ B Wx (mAppF n F ml)) :=
  call_args (n := 0) V G hm hkp hb ha (fun σ H Q ⟨w, ρ, z, S, q⟩ => ⟨w, ρ, z, S, q.bind.mono fun ds w1 z1 H1 _ t1 ⟨S1, s1, q1⟩ vs rvs => appF_to S1 rvs (q1.mono fun _ _ _ _ _ _ k p o1 o2 o3 o4 => k p o1 o2 o3 (none_back t1 o4))⟩) hj hg hdb he hpl
end
end NW
/-! The store's lists; a law's end. -/
namespace NW
open PySem PySem.Spec PyProof.Rows L2

section
variable {X : Cx} {Γ : Gam} {B : Bs} {Wx : WX} {RT : RTT} {k j : Nat} {a b e : Expr} {es : List Expr} {m ma mb : M D} {ml : M (List D)} {pos : Pos}
/-! ### a new list goes into the store -/
theorem WI.alloc {w : W} {z : Z} {H : Hp} (I : WI Γ w z H) {p : Addr} {mo : MO} (h1 : w.R p = none) (h2 : p ∉ w.pl) (h3 : ObRep Γ w H p mo) : WI Γ ⟨w.R, w.pl ++ [p]⟩ (z ++ [mo]) H := by
  have up : ∀ (n : Nat) (a : Addr), w.pl[n]? = some a → (w.pl ++ [p])[n]? = some a := fun n a h => by
    rw [List.getElem?_append_left (List.getElem?_eq_some_iff.mp h).1]; exact h
  refine ⟨I.le, by simp [I.len], fun n mo' h => ?_, ?_⟩
  · by_cases hn : n < z.length
    · rw [List.getElem?_append_left hn] at h
      obtain ⟨a, g1, g2, g3⟩ := I.st n mo' h
      exact ⟨a, up n a g1, g2, g3.keep (fun _ _ h => h) up fun _ h => h⟩
    · rw [List.getElem?_append_right (by omega)] at h
      have hn0 : n - z.length = 0 := by
        have := (List.getElem?_eq_some_iff.mp h).1
        simp at this
        omega
      rw [hn0] at h
      cases h
      refine ⟨p, ?_, h1, h3.keep (fun _ _ h => h) up fun _ h => h⟩
      show (w.pl ++ [p])[n]? = some p
      rw [List.getElem?_append_right (by rw [I.len]; omega), I.len, hn0]
      rfl
  · rw [List.nodup_append]
    exact ⟨I.nd, by simp, fun a ha b hb e => h2 (by simp at hb; subst hb; subst e; exact ha)⟩
def sMob (i : Nat) (m : M (List D)) : MS := fun ρ z => (m ρ z).to ρ fun ds z1 => match setE i (.mob z1.length) ρ with
  | some ρ' => .nx ρ' (z1 ++ [.lst ds])
  | none => .bad
theorem s_mob (i : Nat) {x : Str} {p : Pos} (nd : X.N.Nodup) (h : PE X e (tF Γ B Wx ml)) (hi : X.N[i]? = some x := by rfl) (hx : Loc X.env.scope x := by first | exact Or.inl rfl | exact Or.inr rfl) (hf : X.fn x = true ∨ X.env.scope.names.lookup x = some .local := by first | exact .inl rfl | exact .inr rfl)
    (hs : swapsWithSole [.Name x p] e pos.line X.env = pure false := by rfl) (hw : swappedStores [.Name x p] e X.env = pure none := by rfl) : DS X Γ B Wx RT (.Assign [.Name x p] e pos) (sMob i ml) := ps_weak (ps_asg h (pg_name nd hi hx hf) hs hw) fun D σ H ⟨w, ρ, z, S, q⟩ =>
  ⟨w, ρ, z, S, q.to.mono fun ds w1 z1 H1 _ t1 ⟨S1, s1, q1⟩ p o1 o2 o3 hp => by
    cases e : setE i (.mob z1.length) ρ with
    | none => rw [e] at q1; exact q1.elim
    | some ρ' =>
      rw [e] at q1
      unfold setE at e
      obtain ⟨rfl, hl⟩ := ite_some e
      obtain ⟨n1, n2⟩ := S.notOwn (w' := w) hp
      obtain ⟨xs, o1, o4⟩ := o1
      have up : ∀ (n : Nat) (a : Addr), w1.pl[n]? = some a → (w1.pl ++ [p])[n]? = some a := fun n a h => by
        rw [List.getElem?_append_left (List.getElem?_eq_some_iff.mp h).1]; exact h
      have I2 : WI Γ ⟨w1.R, w1.pl ++ [p]⟩ (z1 ++ [.lst ds]) H1 := S1.wi.alloc o2 o3 ⟨xs, o1, o4⟩
      have s2 : Step w H ⟨w1.R, w1.pl ++ [p]⟩ H1 := ⟨t1.r, fun n a h => up n a (t1.t n a h), t1.k, t1.f, fun a h => by
        rcases List.mem_append.mp h with h | h
        · exact t1.n a h
        · simp at h; subst h; exact .inr hp, t1.y⟩
      have S2 := S.carry I2 s2
      have r2 : Rep Γ ⟨w1.R, w1.pl ++ [p]⟩ (.mob z1.length) (.ref p) := .mob (by
        show (w1.pl ++ [p])[z1.length]? = some p
        rw [← S1.wi.len, List.getElem?_append_right (Nat.le_refl _)]; simp)
      exact q1 _ _ H1 (S2.set r2 hl) ⟨fun _ _ h => h, up⟩⟩
/-- o[i] = e, o a list of the store -/
def setM (z : Z) (o i v : D) : Option Z := match o, i with
  | .mob n, .int c => match z[n]? with
    | some (.lst ds) => (ixN ds.length c).map fun j => z.set n (.lst (ds.set j v))
    | _ => none
  | _, _ => none
def sSetM (mv mo mi : M D) : MS := fun ρ z => (mv ρ z).to ρ fun v z1 => (mo ρ z1).to ρ fun o z2 => (mi ρ z2).to ρ fun i z3 => match setM z3 o i v with
  | some z4 => .nx ρ z4
  | none => .bad
theorem WI.setMob {w : W} {z : Z} {H : Hp} (I : WI Γ w z H) {n : Nat} {p : Addr} {ds ds' : List D} {xs' : List V} (hz : z[n]? = some (.lst ds)) (hp : w.pl[n]? = some p) (r : RepL Γ w ds' xs') : WI Γ w (z.set n (.lst ds')) (upd H p (.lst xs')) ∧ Step w H w (upd H p (.lst xs')) := by
  have hpm : p ∈ w.pl := List.mem_of_getElem? hp
  obtain ⟨u, hu, hR⟩ := I.th hpm
  have hnz : n < z.length := (List.getElem?_eq_some_iff.mp hz).1
  refine ⟨⟨fun a o h => ?_, by rw [List.length_set]; exact I.len, fun l mo h => ?_, I.nd⟩, ⟨fun _ _ h => h, fun _ _ h => h, fun a o h k => ?_, fun _ _ _ h => h, fun _ h => .inl h, fun a o h => ?_⟩⟩
  · rw [upd_ne (ne_of_none h hR)]; exact I.le a o h
  · by_cases e : n = l
    · subst e
      rw [List.getElem?_set_self hnz] at h
      cases h
      exact ⟨p, hp, hR, xs', upd_same, r⟩
    · rw [List.getElem?_set_ne e] at h
      obtain ⟨c, g1, g2, g3⟩ := I.st l mo h
      have ne : c ≠ p := fun q => by
        subst q
        obtain ⟨l1, e1⟩ := List.getElem?_eq_some_iff.mp hp
        obtain ⟨l2, e2⟩ := List.getElem?_eq_some_iff.mp g1
        exact e ((List.getElem_inj I.nd).mp (e1.trans e2.symm))
      exact ⟨c, g1, g2, g3.keep (fun _ _ h => h) (fun _ _ h => h) fun o ho => by rw [upd_ne ne]; exact ho⟩
  · rw [upd_ne (fun q : a = p => k (by rw [q]; exact hpm))]; exact h
  · by_cases e : a = p
    · subst e; exact ⟨_, upd_same⟩
    · exact ⟨o, by rw [upd_ne e]; exact h⟩
theorem s_setM {o i : Expr} {mo mi : M D} {tpos : Pos} (he : PE X e (tD Γ B Wx m)) (ho : PE X o (tD Γ B Wx mo)) (hi : PE X i (tD Γ B Wx mi))
    (hsub : ∀ v, assign (.Subscript o i tpos) X.env v = (do
      let ov ← holding [v] (eval o X.env)
      let iv ← holding [v, ov] (eval i X.env)
      standAt tpos
      holding [v, ov, iv] (setItem ov iv v)
      release [v, ov, iv] []) := by intro _; rfl)
    (hs : swapsWithSole [.Subscript o i tpos] e pos.line X.env = pure false := by rfl) (hw : swappedStores [.Subscript o i tpos] e X.env = pure none := by rfl) : DS X Γ B Wx RT (.Assign [.Subscript o i tpos] e pos) (sSetM m mo mi) :=
  ps_weak (ps_asg he (pg_sub ho hi set_list hsub) hs hw) fun D σ H ⟨w, ρ, z, S, q⟩ => ⟨w, ρ, z, S, q.to.mono fun v w1 z1 H1 _ _ ⟨S1, s1, q1⟩ vv rv =>
    ⟨w1, ρ, z1, S1, q1.to.mono fun ov w2 z2 H2 _ _ ⟨S2, s2, q2⟩ vo ro => ⟨w2, ρ, z2, S2, q2.to.mono fun iv w3 z3 H3 _ _ ⟨S3, s3, q3⟩ vi ri => by
      cases e : setM z3 ov iv v with
      | none => rw [e] at q3; exact q3.elim
      | some z4 =>
        rw [e] at q3
        unfold setM at e
        split at e
        · split at e
          · rename_i ds hz
            obtain ⟨j, hj, rfl⟩ := Option.map_eq_some_iff.mp e
            obtain ⟨p, xs, rfl, g1, g2, g3⟩ := (RepB.of (ro.step s3)).mobl S3 hz
            cases ri
            refine ⟨p, xs, _, j, rfl, rfl, g2, by rw [g3.length]; exact hj, ?_⟩
            obtain ⟨I4, s4⟩ := S3.wi.setMob hz g1 (g3.set j ((rv.step s2).step s3))
            exact q3 σ w3 _ (S3.carry I4 s4) (.refl _)
          · cases e
        · cases e⟩⟩⟩
end

/-! ### a law's end -/
theorem law_end {P : Program} {w : World} {K : PySem.W.Frag} {mg mb : Str → Option Value} {k : Nat} {fa a : Addr} {fd : FuncData} {x : Str} {sp : Sp} {s₁ : Shared} {vs : List Value} {ns : List Int}
    (KX : K.In s₁.heap) (hns : s₁.heap.Ns mainGlobals mg) (hb : s₁.heap.Ns builtinsNs mb) (hbb : ∀ x : Str, x ≠ "__name__" → mb x = bootBuiltins x) (hlim : s₁.heap.NoLimit) (hg : s₁.gens = #[])
    (ha : s₁.heap.get? a = some { cls := .type "list", data := .seq vs.toArray }) (hi : IntsAre vs ns) (hl : ns.length ≤ sizeLine) (hr : Room k callerA)
    (F : ∀ base : Heap, K.In base → base.Ns mainGlobals mg → FnG P w K mg base k fa fd [x] sp) (hbind : ∀ (s : Shared) (u : Value), BindsTo s fd ⟨[u], []⟩ [(x, u)])
    (hsp : ∀ H : Hp, SqS K H a (ns.map V.int) → (∀ b, H b ≠ none → ∃ o, H b = some (.frz o (.lst (ns.map V.int)))) → sp [.ref a] H (fun v _ => v = .bl true) fun _ _ _ => False) :
    codeAny (model P w) callerA (.call (.ref fa) ⟨[.ref a], []⟩) (fun r s' => r = .ok (.ret (.bool true)) ∧ OldK s₁.heap s'.heap ∧ s'.os = s₁.os ∧ AllBare s'.gens) s₁ := by
  have rv := vals_ints hi
  have lenV := hi.length
  -- one H for both: what is written is not tracked
  obtain ⟨H, hOnly, hS, hok, hK⟩ : ∃ H : Hp, (∀ b, H b ≠ none → b = a ∧ H b = some (.frz { cls := .type "list", data := .seq vs.toArray } (.lst (ns.map V.int)))) ∧ SqS K H a (ns.map V.int) ∧ HOk P w H s₁.heap ∧ (H a ≠ none → K.lookup a = none) := by
    cases hk : K.lookup a with
    | some o =>
      have e := KX a o hk
      rw [ha] at e
      cases e
      exact ⟨fun _ => none, fun b h => absurd rfl h, .inr ⟨_, _, hk, by rw [List.size_toArray, lenV]; exact hl, by simpa using rv⟩, fun b u z => (by cases (show (none : Option HO) = some u from z)), fun h => absurd rfl h⟩
    | none =>
      let ob : HO := .frz { cls := .type "list", data := .seq vs.toArray } (.lst (ns.map V.int))
      have at_a : (fun b => if b = a then some ob else none : Hp) a = some ob := if_pos rfl
      refine ⟨fun b => if b = a then some ob else none, fun b h => ?_, .inl (.inr ⟨_, at_a⟩), fun b u z => ?_, fun _ => rfl⟩
      · by_cases e : b = a
        · exact ⟨e, if_pos e⟩
        · exact absurd (if_neg e) h
      · by_cases e : b = a
        · subst e
          rw [at_a] at z
          cases z
          exact ⟨ha, by rw [List.length_map]; exact hl, vs, _, rv, ha⟩
        · have : (none : Option HO) = some u := (if_neg e).symm.trans z
          cases this
  have free : ∀ {b : Addr} {o : Obj}, s₁.heap.get? b = some o → H b = none → (hidT s₁.heap H).get? b = some o := fun e n => hidT_get e n
  have nsK : ∀ {b : Addr} {m : Str → Option Value}, s₁.heap.Ns b m → (hidT s₁.heap H).Ns b m := by
    rintro b m ⟨o, es, ep, e, d, r⟩
    refine ⟨o, es, ep, free e ?_, d, r⟩
    cases q : H b with
    | none => rfl
    | some u =>
      obtain ⟨rfl, _⟩ := hOnly b (by rw [q]; simp)
      rw [ha] at e
      cases e
      cases (show Data.seq vs.toArray _ = Data.dict es ep from d)
  have hKb : K.In (hidT s₁.heap H) := fun b o e => free (KX b o e) (by
    cases q : H b with
    | none => rfl
    | some u =>
      obtain ⟨rfl, _⟩ := hOnly b (by rw [q]; simp)
      rw [hK (by rw [q]; simp)] at e
      cases e)
  obtain ⟨mc, lim1, lim2⟩ := hlim
  have e0 : Env0 P w K mg (hidT s₁.heap H) callerA [] s₁ H :=
    ⟨rfl, ⟨hKb, nsK hns, ⟨mb, nsK hb, hbb⟩, ⟨mc, nsK lim1, lim2⟩⟩, fun b o e => of_hidT e, Nat.le_of_eq (hidT_size _ _), trivial, fun b hb => absurd (show b ∈ ([] : List Addr) from hb) (by simp), hok, .of_eq hg⟩
  have run := (F _ hKb (nsK hns)).run callerA [] s₁ H ⟨[.ref a], []⟩ [.ref a] [.ref a] _ _ hr rfl e0 (hbind s₁ (.ref a)) (.cons rfl .nil) (hsp H hS fun b h => ⟨_, (hOnly b h).2⟩)
  refine codeAny_mono run fun r s' h => ?_
  cases r with
  | error e =>
    obtain ⟨_, _, _, _, _, _, _, _, _, _, _, _, z⟩ := h
    exact z.elim
  | ok fl =>
    cases fl with
    | next => exact False.elim h
    | brk => exact False.elim h
    | cont => exact False.elim h
    | ret u =>
      obtain ⟨v, H', os, bare, un, hok', r', q⟩ := h
      cases (show v = .bl true from q)
      obtain rfl : u = Value.bool true := r'
      refine ⟨rfl, OldK.of_keep fun b o e => ?_, os, bare⟩
      cases q : H b with
      | none => exact un.keep b o e q (by intro z; exact absurd (show b ∈ ([] : List Addr) from z) (by simp)) (by simp)
      | some u =>
        obtain ⟨_, z⟩ := hOnly b (by rw [q]; simp)
        obtain ⟨e1, _⟩ := hok b _ z
        obtain ⟨e2, _⟩ := hok' b _ (un.frzs b _ _ z)
        rw [e] at e1
        cases e1
        exact e2
theorem walk_ofG {l : PySem.W.OpenLaw} {n k : Nat} {q : Program} {loose : List Str} {XP : (Str → Option Value) → Heap → Prop} {YP : World → Heap → Prop} {d : DefRec} {K : Params → PySem.W.Frag} {sp : World → Sp} {x : Str}
    (hn : l.most = some n) (hn2 : n ≤ sizeLine) (hdf : d.params.defaults = []) (hr : Room k callerA) (hY : ∀ (w : World) (h : Heap), YP w h → (K w.params).In h)
    (F : ∀ (w : World) (mg : Str → Option Value) (fa : Addr) (h : Heap), (K w.params).In h → h.Ns mainGlobals mg → mg d.name = some (.ref fa) →
      ∃ fd : FuncData, (∀ (s : Shared) (u : Value), BindsTo s fd ⟨[u], []⟩ [(x, u)]) ∧ ∀ base : Heap, (K w.params).In base → base.Ns mainGlobals mg → FnG l.prog w (K w.params) mg base k fa fd [x] (sp w))
    (hsp : ∀ (w : World) (H : Hp) (a : Addr) (ns : List Int), ns.length ≤ n → SqS (K w.params) H a (ns.map V.int) → (∀ b, H b ≠ none → ∃ o, H b = some (.frz o (.lst (ns.map V.int)))) → sp w [.ref a] H (fun v _ => v = .bl true) fun _ _ _ => False) :
    PySem.W.WalkO q loose XP YP l.row.toRowW d [] (fun f vs => PySem.call f vs) := by
  refine Att.attach_call hn hdf fun w s₀ s₁ mg mb fa o pm cd doc a vs ns G Y ho hd hcd hmg hobj hints hlen hg => ?_
  have KX := hY w _ Y
  obtain ⟨fd, hb, hF⟩ := F w mg fa _ KX G.T.g hmg
  exact law_end KX G.T.g G.T.b G.T.builtins G.T.nolimit hg hobj hints (Nat.le_trans hlen hn2) hr hF hb fun H h1 h2 => hsp w H a ns hlen h1 h2
/-- a law's promise: True, for every list of at most so many ints -/
theorem repL_ints {Γ : Gam} {w : W} : ∀ ns : List Int, RepL Γ w (ns.map D.int) (ns.map V.int)
  | [] => .nil
  | n :: ns => .cons (.int n) (repL_ints ns)
theorem law_sp {Γ : Gam} {F : FM} {H : Hp} {a : Addr} {ns : List Int} (hF : ∃ z', F [.lst (ns.map .int)] [] = .ok (.bl true) z') (h1 : SqS Γ.K H a (ns.map V.int)) (h2 : ∀ b, H b ≠ none → ∃ o, H b = some (.frz o (.lst (ns.map V.int)))) : spD Γ 1 F [.ref a] H (fun v _ => v = .bl true) (fun _ _ _ => False) := by
  obtain ⟨z', hF⟩ := hF
  refine ⟨rfl, ⟨H, []⟩, [], [.lst (ns.map .int)], ⟨fun _ _ h => h, rfl, fun n mo h => (by simp at h), .nil⟩, .cons (.lst h1 (repL_ints ns)) .nil, ?_⟩
  rw [hF]
  intro v w' H' _ _ r
  cases r
  rfl
end NW
/-! Short words for the printed derivations. -/
namespace NW
open PySem PySem.Spec PyProof.Rows L2
section
variable {X : Cx} {Γ : Gam} {B : Bs} {Wx : WX} {RT : RTT} {k j : Nat} {a b e tg : Expr} {es : List Expr} {m ma mb : M D} {ml : M (List D)} {pos : Pos}
/-- is, is not of truths -/
def isBB (_ : Z) : D → D → Option Bool
  | .bl a, .bl b => some (decide (a = b))
  | _, _ => none
theorem ob_isB : OpB Γ B rIsB isBB := by
  intro w ρ z σ H d e k v u Q S rv ru h q
  unfold isBB at h
  split at h
  · cases h
    cases rv.bl; cases ru.bl
    exact ⟨_, _, rfl, rfl, q⟩
  · cases h
/-- a constant of the module -/
theorem d_globS {x c : Str} (hm : ∃ t, X.mg x = some (.str c t)) (hg : Gl X x := by rfl) (hd : (x == ("__debug__" : Str)) = false := by decide) : PE X (.Name x pos) (tD Γ B Wx (mRet (.str c))) :=
  let ⟨t, hm⟩ := hm
  d_glob (fun _ => .str c) hm ⟨t, rfl⟩ hg hd
theorem d_globI {x : Str} {c : Int} (hm : ∃ t, X.mg x = some (.int c t)) (hg : Gl X x := by rfl) (hd : (x == ("__debug__" : Str)) = false := by decide) : PE X (.Name x pos) (tD Γ B Wx (mRet (.int c))) :=
  let ⟨t, hm⟩ := hm
  d_glob (fun _ => .int c) hm ⟨t, rfl⟩ hg hd
end

/-- a def of the text, as it stands behind the top -/
structure Dn (K : PySem.W.Frag) (mg : Str → Option Value) (x qual : Str) (st : Stmt) (ps : List Str) where
  f : Addr
  fd : FuncData
  F : Fun K x qual st f fd
  m : mg x = some (.ref f)
  b : Binds K fd ps []
def dn_mk {K : PySem.W.Frag} {h : Heap} {mg : Str → Option Value} (X : K.In h) (G : h.Ns mainGlobals mg) {x qual : Str} {st : Stmt} {ps : List Str} {f : Addr} {oc kV doc pm cdv ct : Value} {od an : Option Addr} {osl : Array (Option Value)}
    (ha : PySem.W.nsIn K mainGlobals x = some (some (.ref f))) (l : K.lookup f = some ⟨oc, od, .func (PySem.W.fnOf x qual (defArgs st) (defBody st) (defScope st) .none kV doc pm an cdv ct), osl⟩) (c : PySem.W.codeIn K cdv qual = true) (kp : PySem.W.keepIn K (.ref f) = true)
    (hb : ∀ (kV doc pm : Value) (an : Option Addr) (cdv ct : Value) (us : List Value), us.length = ps.length → bindArgs (PySem.W.fnOf x qual (defArgs st) (defBody st) (defScope st) .none kV doc pm an cdv ct) ⟨us, []⟩ = pure (ps.zip us)) : Dn K mg x qual st ps :=
  ⟨f, _, fun_mk l c kp, PySem.W.mg_of X G ha, (fun_mk (st := st) l c kp).binds hb⟩
end NW
/-! The mirrors reckoned: plain Lean. -/
namespace NW
open PySem PySem.Spec PyProof.Rows L2
section
variable {α β : Type} {ρ : En} {z : Z}
def ofO (o : Option α) (z : Z) : Res α := match o with
  | some a => .ok a z
  | none => .bad
@[simp] theorem ofO_some (a : α) : ofO (some a) z = .ok a z := rfl
@[simp] theorem ofO_none : ofO (none : Option α) z = .bad := rfl
@[simp] theorem rb_ok (a : α) (f : α → Z → Res β) : (Res.ok a z).bind f = f a z := rfl
@[simp] theorem rb_exc (x : XD) (f : α → Z → Res β) : (Res.exc x z : Res α).bind f = .exc x z := rfl
@[simp] theorem rb_bad (f : α → Z → Res β) : (Res.bad : Res α).bind f = .bad := rfl
@[simp] theorem ap_ret (a : α) : mRet a ρ z = .ok a z := rfl
@[simp] theorem ap_bind (m : M α) (f : α → M β) : mBind m f ρ z = (m ρ z).bind fun a z1 => f a ρ z1 := rfl
@[simp] theorem ap_opt (f : Z → Option α) : mOpt f ρ z = ofO (f z) z := by unfold mOpt ofO; cases f z <;> rfl
def varO (o : Option (Option DV)) (z : Z) : Res D := match o with
  | some (some (.sh d)) => .ok d z
  | _ => .bad
@[simp] theorem varO_sh (d : D) : varO (some (some (.sh d))) z = .ok d z := rfl
@[simp] theorem ap_var (i : Nat) : mVar i ρ z = varO ρ[i]? z := rfl
def ownO (o : Option (Option DV)) (z : Z) : Res D := match o with
  | some (some (.own (.lst ds))) => .ok (.lst ds) z
  | _ => .bad
@[simp] theorem ownO_own (ds : List D) : ownO (some (some (.own (.lst ds)))) z = .ok (.lst ds) z := rfl
@[simp] theorem ap_own (i : Nat) : mOwn i ρ z = ownO ρ[i]? z := rfl
@[simp] theorem ap_op2 (f : Z → D → D → Option α) (a b : M D) : mOp2 f a b ρ z = (a ρ z).bind fun x z1 => (b ρ z1).bind fun y z2 => ofO (f z2 x y) z2 := by simp [mOp2]
@[simp] theorem ap_op1 (f : Z → D → Option α) (a : M D) : mOp1 f a ρ z = (a ρ z).bind fun x z1 => ofO (f z1 x) z1 := by simp [mOp1]
@[simp] theorem ap_if (c : M Bool) (a b : M α) : mIf c a b ρ z = (c ρ z).bind fun k z1 => if k = true then a ρ z1 else b ρ z1 := by
  simp only [mIf, ap_bind, mif_app]
@[simp] theorem ap_not (c : M Bool) : mNot c ρ z = (c ρ z).bind fun k z1 => .ok (!k) z1 := rfl
@[simp] theorem ap_and (a b : M Bool) : mAnd a b ρ z = (a ρ z).bind fun k z1 => if k = true then b ρ z1 else .ok false z1 := by
  simp only [mAnd, ap_bind, mif_app]; rfl
@[simp] theorem ap_or (a b : M Bool) : mOr a b ρ z = (a ρ z).bind fun k z1 => if k = true then .ok true z1 else b ρ z1 := by
  simp only [mOr, ap_bind, mif_app]; rfl
@[simp] theorem ap_bl (a : M Bool) : mBl a ρ z = (a ρ z).bind fun k z1 => .ok (.bl k) z1 := rfl
@[simp] theorem ap_nil : (mNil : M (List α)) ρ z = .ok [] z := rfl
@[simp] theorem ap_cons (a : M α) (r : M (List α)) : mCons a r ρ z = (a ρ z).bind fun x z1 => (r ρ z1).bind fun xs z2 => .ok (x :: xs) z2 := rfl
@[simp] theorem ap_map (f : α → β) (a : M α) : mMap f a ρ z = (a ρ z).bind fun x z1 => .ok (f x) z1 := rfl
@[simp] theorem ap_fz (m : M (List D)) : mFz m ρ z = (m ρ z).bind fun x z1 => .ok (.lst x) z1 := rfl
@[simp] theorem ap_chain (f g : Z → D → D → Option Bool) (a b c : M D) : mChain f g a b c ρ z = (a ρ z).bind fun x z1 => (b ρ z1).bind fun y z2 => (ofO (f z2 x y) z2).bind fun k z3 => if k = true then (c ρ z3).bind fun y' z4 => ofO (g z4 y y') z4 else .ok false z3 := by
  simp only [mChain, ap_bind, ap_opt, mif_app, ap_ret]
@[simp] theorem ap_test (m : M D) : mTest m ρ z = (m ρ z).bind fun d z1 => ofO (toB d) z1 := by simp [mTest]
@[simp] theorem ap_andV (a b : M D) : mAndV a b ρ z = (a ρ z).bind fun d z1 => (ofO (toB d) z1).bind fun k z2 => if k = true then b ρ z2 else .ok (.bl false) z2 := by
  simp only [mAndV, ap_bind, ap_opt, mif_app, ap_ret]
@[simp] theorem ap_orV (a b : M D) : mOrV a b ρ z = (a ρ z).bind fun d z1 => (ofO (toB d) z1).bind fun k z2 => if k = true then .ok (.bl true) z2 else b ρ z2 := by
  simp only [mOrV, ap_bind, ap_opt, mif_app, ap_ret]
@[simp] theorem ap_notV (a : M D) : mNotV a ρ z = (a ρ z).bind fun d z1 => (ofO (toB d) z1).bind fun k z2 => .ok (.bl (!k)) z2 := by
  simp only [mNotV, ap_bind, ap_opt, ap_ret]
@[simp] theorem toB_bl (b : Bool) : toB (.bl b) = some b := rfl
@[simp] theorem toI_int (b : Int) : toI (.int b) = some b := rfl
@[simp] theorem ap_tup (ml : M (List D)) : mTup ml ρ z = (ml ρ z).bind fun ds z1 => ofO ((fit ds).map .tup) z1 := by simp [mTup]
@[simp] theorem ap_lst (ml : M (List D)) : mLst ml ρ z = (ml ρ z).bind fun ds z1 => ofO (fit ds) z1 := by simp [mLst]
@[simp] theorem ap_sl (f : Z → D → Option Int → Option Int → Option α) (m : M D) (lo hi : M (Option Int)) : mSl f m lo hi ρ z = (m ρ z).bind fun d z1 => (lo ρ z1).bind fun l z2 => (hi ρ z2).bind fun h z3 => ofO (f z3 d l h) z3 := by simp [mSl]
@[simp] theorem ap_call (f : Z → List D → Option α) (ml : M (List D)) : mCall f ml ρ z = (ml ρ z).bind fun ds z1 => ofO (f z1 ds) z1 := by simp [mCall]
@[simp] theorem ap_join (a m : M D) : mJoin a m ρ z = (a ρ z).bind fun d0 z0 => (ofO (isS z0 d0) z0).bind fun d z1 => (m ρ z1).bind fun d' z2 => ofO (joinD z2 d d') z2 := by
  simp only [mJoin, ap_bind, ap_op1, ap_opt]
  cases a ρ z <;> rfl
@[simp] theorem ap_items (m : M D) : mItems m ρ z = (m ρ z).bind fun d z1 => ofO (itemsD d) z1 := by simp [mItems]
@[simp] theorem ap_app (n : Nat) (F : FM) (ml : M (List D)) : mApp n F ml ρ z = (ml ρ z).bind fun ds z1 => if ds.length = n then F ds z1 else .bad := rfl
@[simp] theorem ap_appF (n : Nat) (F : FM) (ml : M (List D)) : mAppF n F ml ρ z = (ml ρ z).bind fun ds z1 => (if ds.length = n then F ds z1 else .bad).bind fun d z2 => ofO (itemsL d) z2 := by simp [mAppF]
@[simp] theorem ap_lc (it : M (List D)) (g : TgF) (mt : M Bool) (me : M D) (vs : List Nat) : mLc it g mt me vs ρ z = (it ρ z).bind fun ds z1 => lcGo g mt me (wipeE ρ vs) ds [] z1 := rfl
/-! statements -/
@[simp] theorem to_ok (a : α) (f : α → Z → SR) : (Res.ok a z).to ρ f = f a z := rfl
@[simp] theorem to_exc (x : XD) (f : α → Z → SR) : (Res.exc x z : Res α).to ρ f = .exc x ρ z := rfl
@[simp] theorem to_bad (f : α → Z → SR) : (Res.bad : Res α).to ρ f = .bad := rfl
@[simp] theorem th_nx (b : MS) : (SR.nx ρ z).then b = b ρ z := rfl
@[simp] theorem th_rt (d : D) (b : MS) : (SR.rt d z).then b = .rt d z := rfl
@[simp] theorem th_bk (b : MS) : (SR.bk ρ z).then b = .bk ρ z := rfl
@[simp] theorem th_ct (b : MS) : (SR.ct ρ z).then b = .ct ρ z := rfl
@[simp] theorem th_exc (x : XD) (b : MS) : (SR.exc x ρ z).then b = .exc x ρ z := rfl
@[simp] theorem th_bad (b : MS) : SR.bad.then b = .bad := rfl
@[simp] theorem ap_nx : sNx ρ z = .nx ρ z := rfl
@[simp] theorem ap_seq (a b : MS) : sSeq a b ρ z = (a ρ z).then b := rfl
@[simp] theorem ap_expr (m : M D) : sExpr m ρ z = (m ρ z).to ρ fun _ z1 => .nx ρ z1 := rfl
@[simp] theorem ap_sret (m : M D) : sRet m ρ z = (m ρ z).to ρ fun d z1 => .rt d z1 := rfl
@[simp] theorem ap_retF (m : M (List D)) : sRetF m ρ z = (m ρ z).to ρ fun d z1 => .rt (.lst d) z1 := rfl
@[simp] theorem ap_sif (c : M Bool) (a b : MS) : sIf c a b ρ z = (c ρ z).to ρ fun k z1 => if k = true then a ρ z1 else b ρ z1 := rfl
def nxO (o : Option En) (z : Z) : SR := match o with
  | some ρ' => .nx ρ' z
  | none => .bad
@[simp] theorem nxO_some : nxO (some ρ) z = .nx ρ z := rfl
@[simp] theorem ap_asg (g : TgF) (m : M D) : sAsg g m ρ z = (m ρ z).to ρ fun d z1 => nxO (g d ρ) z1 := rfl
@[simp] theorem ap_sown (i : Nat) (m : M (List D)) : sOwn i m ρ z = (m ρ z).to ρ fun ds z1 => nxO (setO i (.lst ds) ρ) z1 := rfl
@[simp] theorem ap_frz (i : Nat) (ms : MS) : sFrz i ms ρ z = (nxO (frz i ρ) z).then ms := by
  unfold sFrz nxO; cases frz i ρ <;> rfl
@[simp] theorem ap_mob (i : Nat) (m : M (List D)) : sMob i m ρ z = (m ρ z).to ρ fun ds z1 => nxO (setE i (.mob z1.length) ρ) (z1 ++ [.lst ds]) := rfl
def nxZ (o : Option Z) (ρ : En) : SR := match o with
  | some z => .nx ρ z
  | none => .bad
@[simp] theorem nxZ_some : nxZ (some z) ρ = .nx ρ z := rfl
@[simp] theorem ap_setM (mv mo mi : M D) : sSetM mv mo mi ρ z = (mv ρ z).to ρ fun v z1 => (mo ρ z1).to ρ fun o z2 => (mi ρ z2).to ρ fun i z3 => nxZ (setM z3 o i v) ρ := rfl
@[simp] theorem ap_for (it : M (List D)) (g : TgF) (body : MS) : sFor it g body ρ z = (it ρ z).to ρ fun ds z1 => forGo g body ds ρ z1 := rfl
@[simp] theorem endR_nx : endR (.nx ρ z) = .ok .non z := rfl
@[simp] theorem endR_rt (d : D) : endR (.rt d z) = .ok d z := rfl
@[simp] theorem endR_exc (x : XD) : endR (.exc x ρ z) = .exc x z := rfl
@[simp] theorem endRF_rt (d : D) : endRF (.rt d z) = .ok d z := rfl
@[simp] theorem setE_in (i : Nat) (d : D) (h : i < ρ.length) : setE i d ρ = some (ρ.set i (some (.sh d))) := if_pos h
@[simp] theorem setO_in (i : Nat) (o : OV) (h : i < ρ.length) : setO i o ρ = some (ρ.set i (some (.own o))) := if_pos h
@[simp] theorem fit_in (ds : List D) (h : ds.length ≤ sizeLine) : fit ds = some ds := if_pos h
@[simp] theorem itemsL_lst (ds : List D) : itemsL (.lst ds) = some ds := rfl
@[simp] theorem itemsD_lst (ds : List D) : itemsD (.lst ds) = some ds := rfl
@[simp] theorem itemsD_tup (ds : List D) : itemsD (.tup ds) = some ds := rfl
@[simp] theorem itemsD_str (x : Str) : itemsD (.str x) = some (x.cps.toList.map sgn) := rfl
@[simp] theorem isS_str (x : Str) : isS z (.str x) = some (.str x) := rfl
@[simp] theorem add_int (a b : Int) : addD z (.int a) (.int b) = some (.int (a + b)) := rfl
@[simp] theorem i2_int (f : Int → Int → Option D) (a b : Int) : int2 f z (.int a) (.int b) = f a b := rfl
@[simp] theorem cI_int (p : Int → Int → Bool) (a b : Int) : cmpI p z (.int a) (.int b) = some (p a b) := rfl
@[simp] theorem eq_int' (a b : Int) : eqD z (.int a) (.int b) = some (decide (a = b)) := rfl
@[simp] theorem eq_str' (a b : Str) : eqD z (.str a) (.str b) = some (decide (a = b)) := rfl
@[simp] theorem eq_bl' (a b : Bool) : eqD z (.bl a) (.bl b) = some (decide (a = b)) := rfl
@[simp] theorem is_bl (a b : Bool) : isBB z (.bl a) (.bl b) = some (decide (a = b)) := rfl
@[simp] theorem len_lst (ds : List D) : lenD z [.lst ds] = some (.int ds.length) := rfl
@[simp] theorem len_tup (ds : List D) : lenD z [.tup ds] = some (.int ds.length) := rfl
@[simp] theorem len_strD (x : Str) (h : x.length ≤ sizeLine) : lenD z [.str x] = some (.int x.length) := if_pos h
@[simp] theorem int_int (a : Int) : intD z [.int a] = some (.int a) := rfl
@[simp] theorem list_lst (ds : List D) : listD z [.lst ds] = some ds := rfl
@[simp] theorem list_tup (ds : List D) : listD z [.tup ds] = some ds := rfl
@[simp] theorem ix_lst (ds : List D) (i : Int) : ixD z (.lst ds) (.int i) = atI ds i := rfl
@[simp] theorem ix_tupD (ds : List D) (i : Int) : ixD z (.tup ds) (.int i) = atI ds i := rfl
@[simp] theorem tru_bl (b : Bool) : truD z (.bl b) = some b := rfl
@[simp] theorem sl_lst (ds : List D) (l h : Option Int) : slL z (.lst ds) l h = some (cutL ds l h) := rfl
@[simp] theorem sl_tupD (ds : List D) (l h : Option Int) : slD z (.tup ds) l h = some (.tup (cutL ds l h)) := rfl
@[simp] theorem sl_strD (x : Str) (l h : Option Int) (hx : x.length ≤ sizeLine) : slD z (.str x) l h = some (.str (cutS x l h)) := if_pos hx
end
theorem subI_eq (a b : Int) : subI a b = some (.int (a - b)) := rfl
theorem mulI_l {a b : Int} (h : -(2 ^ 64) < a ∧ a < 2 ^ 64) : mulI a b = some (.int (a * b)) := if_pos (.inl h)
theorem mulI_r {a b : Int} (h : -(2 ^ 64) < b ∧ b < 2 ^ 64) : mulI a b = some (.int (a * b)) := if_pos (.inr h)
theorem modI_p {a b : Int} (h : 0 < b) : modI a b = some (.int (a % b)) := if_pos h
theorem divI_p {a b : Int} (h : 0 < b) (h2 : b < 1073741824) : divI a b = some (.int (a / b)) := if_pos ⟨h, h2⟩
theorem powI_p {a b : Int} (h : 0 ≤ b) (h2 : b ≤ 1000000) (h3 : a.natAbs < 2 ^ 64) : powI a b = some (.int (a ^ b.toNat)) := if_pos ⟨h, h2, h3⟩
theorem atI_ofNat {α : Type} (xs : List α) (n : Nat) (h : n < xs.length) : atI xs (n : Int) = some xs[n] := atI_nat (List.getElem?_eq_getElem h)
theorem atI_nn {α : Type} (xs : List α) (i : Int) (h : 0 ≤ i) (h2 : i < xs.length) : atI xs i = xs[i.toNat]? := by
  obtain ⟨n, rfl⟩ := Int.eq_ofNat_of_zero_le h
  rw [atI_ofNat xs n (by omega)]
  simp
/-- the source of draws -/
def SrcOk (mo : MO) : Prop := ∃ (cells : List Int) (a b c d : Int), mo = .lst [.lst (cells.map .int), .int a, .int b, .int c, .int d] ∧ 0 ≤ a
end NW
/-! Loops of the mirrors, by what holds. -/
namespace NW
open PySem PySem.Spec PyProof.Rows L2
/-- a comprehension that draws: P of the store, E of each item -/
theorem lcGo_inv {P : Z → Prop} {E : D → Prop} {g : TgF} {mt : M Bool} {me : M D} {ρ : En} : ∀ (ds acc : List D) (z : Z), P z → (∀ y ∈ acc, E y) → acc.length + ds.length ≤ sizeLine →
    (∀ d ∈ ds, ∀ z, P z → ∃ ρ1, g d ρ = some ρ1 ∧ ∃ b z1, mt ρ1 z = .ok b z1 ∧ P z1 ∧ (b = true → ∃ y z2, me ρ1 z1 = .ok y z2 ∧ P z2 ∧ E y)) →
    ∃ ys z', lcGo g mt me ρ ds acc z = .ok ys z' ∧ P z' ∧ (∀ y ∈ ys, E y) ∧ ys.length ≤ acc.length + ds.length
  | [], acc, z, hp, ha, _, _ => ⟨acc, z, rfl, hp, ha, by simp⟩
  | d :: ds, acc, z, hp, ha, hl, h => by
    obtain ⟨ρ1, e1, b, z1, e2, hp1, h2⟩ := h d (by simp) z hp
    simp only [List.length_cons] at hl
    unfold lcGo
    rw [e1]
    dsimp only
    rw [e2]
    cases b with
    | false =>
      obtain ⟨ys, z', r1, r2, r3, r4⟩ := lcGo_inv ds acc z1 hp1 ha (by omega) fun d hd => h d (by simp [hd])
      exact ⟨ys, z', r1, r2, r3, by simp only [List.length_cons]; omega⟩
    | true =>
      obtain ⟨y, z2, e3, hp2, hy⟩ := h2 rfl
      dsimp only
      rw [e3]
      dsimp only
      rw [if_pos (by omega)]
      obtain ⟨ys, z', r1, r2, r3, r4⟩ := lcGo_inv ds (acc ++ [y]) z2 hp2 (fun x hx => by
        rcases List.mem_append.mp hx with hx | hx
        · exact ha x hx
        · simp at hx; subst hx; exact hy) (by simp; omega) fun d hd => h d (by simp [hd])
      exact ⟨ys, z', r1, r2, r3, by simp at r4 ⊢; omega⟩
/-- .. every item once -/
theorem lcGo_all {P : Z → Prop} {E : D → Prop} {g : TgF} {me : M D} {ρ : En} : ∀ (ds acc : List D) (z : Z), P z → (∀ y ∈ acc, E y) → acc.length + ds.length ≤ sizeLine →
    (∀ d ∈ ds, ∀ z, P z → ∃ ρ1, g d ρ = some ρ1 ∧ ∃ y z2, me ρ1 z = .ok y z2 ∧ P z2 ∧ E y) →
    ∃ ys z', lcGo g (mRet true) me ρ ds acc z = .ok ys z' ∧ P z' ∧ (∀ y ∈ ys, E y) ∧ ys.length = acc.length + ds.length
  | [], acc, z, hp, ha, _, _ => ⟨acc, z, rfl, hp, ha, by simp⟩
  | d :: ds, acc, z, hp, ha, hl, h => by
    obtain ⟨ρ1, e1, y, z2, e3, hp2, hy⟩ := h d (by simp) z hp
    simp only [List.length_cons] at hl
    unfold lcGo
    rw [e1]
    dsimp only [mRet]
    rw [e3]
    dsimp only
    rw [if_pos (by omega)]
    obtain ⟨ys, z', r1, r2, r3, r4⟩ := lcGo_all ds (acc ++ [y]) z2 hp2 (fun x hx => by
      rcases List.mem_append.mp hx with hx | hx
      · exact ha x hx
      · simp at hx; subst hx; exact hy) (by simp; omega) fun d hd => h d (by simp [hd])
    exact ⟨ys, z', r1, r2, r3, by simp at r4 ⊢; omega⟩
/-- one that draws nothing -/
theorem lcGo_map {g : TgF} {me : M D} {ρ : En} (f : D → D) : ∀ (ds acc : List D) (z : Z), acc.length + ds.length ≤ sizeLine →
    (∀ d ∈ ds, ∃ ρ1, g d ρ = some ρ1 ∧ me ρ1 z = .ok (f d) z) → lcGo g (mRet true) me ρ ds acc z = .ok (acc ++ ds.map f) z
  | [], acc, z, _, _ => by simp [lcGo]
  | d :: ds, acc, z, hl, h => by
    obtain ⟨ρ1, e1, e3⟩ := h d (by simp)
    simp only [List.length_cons] at hl
    unfold lcGo
    rw [e1]
    dsimp only [mRet]
    rw [e3]
    dsimp only
    rw [if_pos (by omega)]
    have := lcGo_map f ds (acc ++ [f d]) z (by simp; omega) fun d hd => h d (by simp [hd])
    rw [this]
    simp
/-- a for that keeps on -/
theorem forGo_inv {I : En → Z → Prop} {g : TgF} {body : MS} : ∀ (ds : List D) (ρ : En) (z : Z), I ρ z → (∀ d ∈ ds, ∀ ρ z, I ρ z → ∃ ρ1, g d ρ = some ρ1 ∧ ∃ ρ2 z2, body ρ1 z = .nx ρ2 z2 ∧ I ρ2 z2) → ∃ ρ' z', forGo g body ds ρ z = .nx ρ' z' ∧ I ρ' z'
  | [], ρ, z, h, _ => ⟨ρ, z, rfl, h⟩
  | d :: ds, ρ, z, h, k => by
    obtain ⟨ρ1, e1, ρ2, z2, e2, h2⟩ := k d (by simp) ρ z h
    obtain ⟨ρ', z', e3, h3⟩ := forGo_inv ds ρ2 z2 h2 fun d hd => k d (by simp [hd])
    refine ⟨ρ', z', ?_, h3⟩
    unfold forGo
    rw [e1]
    dsimp only
    rw [e2]
    exact e3
/-- by the turn -/
theorem forGo_ix {I : Nat → En → Z → Prop} {g : TgF} {body : MS} (all : List D) : ∀ (ds : List D) (n : Nat) (ρ : En) (z : Z), n + ds.length = all.length → all.drop n = ds → I n ρ z →
    (∀ i d, all[i]? = some d → ∀ ρ z, I i ρ z → ∃ ρ1, g d ρ = some ρ1 ∧ ∃ ρ2 z2, body ρ1 z = .nx ρ2 z2 ∧ I (i + 1) ρ2 z2) → ∃ ρ' z', forGo g body ds ρ z = .nx ρ' z' ∧ I all.length ρ' z'
  | [], n, ρ, z, hl, _, h, _ => ⟨ρ, z, rfl, by simp at hl; subst hl; exact h⟩
  | d :: ds, n, ρ, z, hl, hd, h, k => by
    have e0 : all[n]? = some d := by
      have := congrArg (fun l => l[0]?) hd
      simpa [List.getElem?_drop] using this
    obtain ⟨ρ1, e1, ρ2, z2, e2, h2⟩ := k n d e0 ρ z h
    obtain ⟨ρ', z', e3, h3⟩ := forGo_ix all ds (n + 1) ρ2 z2 (by simp at hl; omega) (by rw [← List.drop_drop, hd]; rfl) h2 k
    refine ⟨ρ', z', ?_, h3⟩
    unfold forGo
    rw [e1]
    dsimp only
    rw [e2]
    exact e3
theorem len_rng (lo : Int) (n : Nat) : (rngD lo n).length = n := by simp [rngD]
theorem len_cps (x : Str) : x.length = x.cps.toList.length := by simp [Str.length]
theorem cps_ext {x y : Str} (h : x.cps = y.cps) : x = y := by cases x; cases y; simp_all
theorem strsOf_of {E : Str → Prop} : ∀ {ys : List D}, (∀ y ∈ ys, ∃ x, y = .str x ∧ E x) → ∃ xs, strsOf ys = some xs ∧ xs.length = ys.length ∧ ∀ x ∈ xs, E x
  | [], _ => ⟨[], rfl, rfl, by simp⟩
  | y :: ys, h => by
    obtain ⟨x, rfl, hx⟩ := h y (by simp)
    obtain ⟨xs, e, l, k⟩ := strsOf_of (ys := ys) fun y hy => h y (by simp [hy])
    exact ⟨x :: xs, by simp [strsOf, e], by simp [l], by simpa [hx] using k⟩
theorem blsOf_map {α : Type} (f : α → Bool) : ∀ l : List α, blsOf (l.map fun a => .bl (f a)) = some (l.map f)
  | [] => rfl
  | a :: l => by simp [blsOf, blsOf_map f l]
theorem reprD_bl (z : Z) (b : Bool) : reprD z [.bl b] = some (.str (PyData.shown (.bool b))) := by
  unfold reprD
  cases b <;> (simp [toPy, PyData.showable, PyData.hasDict, PyData.depth, PyData.shown]; decide)
end NW
set_option maxHeartbeats 4000000
namespace K01
open PySem PySem.Spec PyProof.Rows L2 NW
def top (i : Nat) : Stmt := PySem.Challenge.pw_noughtwire_k01_names_of_letters.main.body.getD i (.Pass ⟨0, 0, 0, 0⟩)
abbrev st__law_source : Stmt := top 5
abbrev st__law_draw : Stmt := top 6
abbrev st__law_of : Stmt := top 7
abbrev st__law_same : Stmt := top 8
abbrev st__law_is_name : Stmt := top 9
abbrev st_is_name : Stmt := top 3
abbrev st_law : Stmt := top 10
/-! the mirrors -/
def m__law_source : MS := (sSeq (sAsg (setE 1) (mRet (.int 5786)))
    (sSeq (sFor (mItems (mFz (mSl slL (mVar 0) (mRet none) (mOp1 (fun _ d => (toI d).map some) (mRet (.int 63)))))) (setE 2) (sAsg (setE 1) (mOp2 (int2 modI) (mCall intD (mCons (mOp2 addD (mOp2 addD (mOp2 (int2 mulI) (mVar 1) (mRet (.int 48491))) (mOp2 (int2 modI) (mCall intD (mCons (mVar 2) mNil)) (mRet (.int 2147483477)))) (mRet (.int 37))) mNil)) (mRet (.int 2147483579)))))
    (sRetF (mLst (mCons (mFz (mCall listD (mCons (mFz (mSl slL (mVar 0) (mRet none) (mOp1 (fun _ d => (toI d).map some) (mRet (.int 63))))) mNil))) (mCons (mRet (.int 0)) (mCons (mRet (.int 0)) (mCons (mVar 1) (mCons (mRet (.int 0)) mNil)))))))))
def F__law_source : FM := runBF 3 m__law_source
def m__law_draw : MS := (sSeq (sIf (mAnd (mOp2 ltI (mOp2 ixD (mVar 0) (mRet (.int 2))) (mVar 1)) (mOp2 ltI (mOp2 ixD (mVar 0) (mRet (.int 1))) (mCall lenD (mCons (mOp2 ixD (mVar 0) (mRet (.int 0))) mNil)))) (sSeq (sAsg (setE 2) (mOp2 ixD (mOp2 ixD (mVar 0) (mRet (.int 0))) (mOp2 ixD (mVar 0) (mRet (.int 1)))))
    (sSeq (sSetM (mOp2 addD (mOp2 ixD (mVar 0) (mRet (.int 1))) (mRet (.int 1))) (mVar 0) (mRet (.int 1)))
    (sSeq (sSetM (mOp2 (int2 modI) (mCall intD (mCons (mOp2 addD (mOp2 addD (mOp2 (int2 mulI) (mOp2 ixD (mVar 0) (mRet (.int 3))) (mRet (.int 49031))) (mOp2 (int2 modI) (mCall intD (mCons (mVar 2) mNil)) (mRet (.int 2147483543)))) (mRet (.int 23))) mNil)) (mRet (.int 2147483549))) (mVar 0) (mRet (.int 3)))
    (sSetM (mIf (mOp2 geI (mVar 2) (mOp2 (int2 powI) (mRet (.int 10)) (mRet (.int 18)))) (mVar 2) (mRet (.int 0))) (mVar 0) (mRet (.int 2)))))) sNx)
    (sSeq (sIf (mOp2 geI (mOp2 ixD (mVar 0) (mRet (.int 2))) (mVar 1)) (sSeq (sAsg (setE 3) (mOp2 (int2 modI) (mCall intD (mCons (mOp2 ixD (mVar 0) (mRet (.int 2))) mNil)) (mVar 1)))
    (sSeq (sSetM (mOp2 (int2 divI) (mOp2 ixD (mVar 0) (mRet (.int 2))) (mVar 1)) (mVar 0) (mRet (.int 2)))
    (sRet (mVar 3)))) sNx)
    (sSeq (sSetM (mOp2 addD (mOp2 ixD (mVar 0) (mRet (.int 4))) (mRet (.int 1))) (mVar 0) (mRet (.int 4)))
    (sSeq (sAsg (setE 4) (mOp2 (int2 modI) (mCall intD (mCons (mOp2 addD (mOp2 ixD (mVar 0) (mRet (.int 3))) (mOp2 (int2 mulI) (mOp2 ixD (mVar 0) (mRet (.int 4))) (mRet (.int 8663)))) mNil)) (mRet (.int 2147483579))))
    (sSeq (sAsg (setE 5) (mOp2 (int2 mulI) (mOp2 (int2 modI) (mCall intD (mCons (mOp2 (int2 mulI) (mVar 4) (mVar 4)) mNil)) (mRet (.int 2147483543))) (mOp2 addD (mOp2 (int2 modI) (mCall intD (mCons (mVar 4) mNil)) (mRet (.int 39989))) (mRet (.int 5)))))
    (sSeq (sSetM (mOp2 (int2 modI) (mCall intD (mCons (mOp2 addD (mOp2 addD (mVar 5) (mOp2 (int2 mulI) (mRet (.int 30697)) (mVar 4))) (mRet (.int 1013))) mNil)) (mRet (.int 2147483549))) (mVar 0) (mRet (.int 3)))
    (sRet (mOp2 (int2 modI) (mCall intD (mCons (mOp2 addD (mOp2 (int2 divI) (mOp2 ixD (mVar 0) (mRet (.int 3))) (mRet (.int 67))) (mOp2 (int2 mulI) (mOp2 (int2 modI) (mCall intD (mCons (mOp2 ixD (mVar 0) (mRet (.int 3))) mNil)) (mRet (.int 8999))) (mRet (.int 43)))) mNil)) (mVar 1)))))))))
def F__law_draw : FM := runB 6 m__law_draw
def m__law_of : MS := (sRet (mOp2 ixD (mVar 1) (mApp 2 F__law_draw (mCons (mVar 0) (mCons (mCall lenD (mCons (mVar 1) mNil)) mNil)))))
def F__law_of : FM := runB 2 m__law_of
def m__law_same : MS := (sRet (mBl (mOp2 eqD (mCall reprD (mCons (mVar 0) mNil)) (mCall reprD (mCons (mVar 1) mNil)))))
def F__law_same : FM := runB 2 m__law_same
def m__law_is_name : MS := (sRet (mAndV (mMap .bl (mChain leI leI (mRet (.int 1)) (mCall lenD (mCons (mVar 0) mNil)) (mRet (.int 8)))) (mCall (allD (·.all id)) (mCons (mFz (mLc (mItems (mVar 0)) (setE 1) (mRet true) (mBl (mOp2 inS (mVar 1) (mRet (.str "abcdefghijklmnopqrstuvwxyz")))) [1])) mNil))))
def F__law_is_name : FM := runB 2 m__law_is_name
def m_is_name : MS := (sRet (mAndV (mMap .bl (mChain leI leI (mRet (.int 1)) (mCall lenD (mCons (mVar 0) mNil)) (mRet (.int 8)))) (mCall (allD (·.all id)) (mCons (mFz (mLc (mItems (mVar 0)) (setE 1) (mRet true) (mBl (mOp2 inS (mVar 1) (mRet (.str "abcdefghijklmnopqrstuvwxyz")))) [1])) mNil))))
def F_is_name : FM := runB 2 m_is_name
def m_law : MS := (sSeq (sMob 1 (mAppF 1 F__law_source (mCons (mVar 0) mNil)))
    (sSeq (sFor (mCall rng1 (mCons (mRet (.int 6)) mNil)) (setE 2) (sSeq (sAsg (setE 3) (mJoin (mRet (.str "")) (mFz (mLc (mCall rng1 (mCons (mApp 2 F__law_draw (mCons (mVar 1) (mCons (mRet (.int 14)) mNil))) mNil)) (setE 5) (mRet true) (mApp 2 F__law_of (mCons (mVar 1) (mCons (mRet (.str "abcdefghijklmnopqrstuvwxyz")) mNil))) [5]))))
    (sSeq (sAsg (setE 4) (mApp 2 F__law_draw (mCons (mVar 1) (mCons (mOp2 addD (mCall lenD (mCons (mVar 3) mNil)) (mRet (.int 1))) mNil))))
    (sSeq (sIf (mOp2 eqD (mApp 2 F__law_draw (mCons (mVar 1) (mCons (mRet (.int 2)) mNil))) (mRet (.int 0))) (sAsg (setE 3) (mOp2 addD (mOp2 addD (mSl slD (mVar 3) (mRet none) (mOp1 (fun _ d => (toI d).map some) (mVar 4))) (mApp 2 F__law_of (mCons (mVar 1) (mCons (mFz (mLst (mCons (mRet (.str "A")) (mCons (mRet (.str "Z")) (mCons (mRet (.str "0")) (mCons (mRet (.str "9")) (mCons (mRet (.str "-")) (mCons (mRet (.str " ")) (mCons (mRet (.str ",")) (mCons (mRet (.str "_")) (mCons (mRet (.str ";")) (mCons (mRet (.str "\n")) mNil)))))))))))) mNil)))) (mSl slD (mVar 3) (mOp1 (fun _ d => (toI d).map some) (mVar 4)) (mRet none)))) sNx)
    (sIf (mNot (mOp1 truD (mApp 2 F__law_same (mCons (mApp 1 F_is_name (mCons (mVar 3) mNil)) (mCons (mApp 1 F__law_is_name (mCons (mVar 3) mNil)) mNil))))) (sRet (mRet (.bl false))) sNx)))))
    (sRet (mAndV (mBl (mOp2 isBB (mApp 1 F_is_name (mCons (mRet (.str "")) mNil)) (mRet (.bl false)))) (mAndV (mBl (mOp2 isBB (mApp 1 F_is_name (mCons (mRet (.str "abcdefgh")) mNil)) (mRet (.bl true)))) (mBl (mOp2 isBB (mApp 1 F_is_name (mCons (mRet (.str "abcdefghi")) mNil)) (mRet (.bl false)))))))))
def F_law : FM := runB 6 m_law
end K01
set_option maxHeartbeats 4000000
namespace K01
open PySem PySem.Spec PyProof.Rows L2 NW
/-- what the top has left -/
structure Tx (K : PySem.W.Frag) (mg : Str → Option Value) where
  d__law_source : Dn K mg "_law_source" "_law_source" st__law_source ["_law_script"]
  d__law_draw : Dn K mg "_law_draw" "_law_draw" st__law_draw ["_law_src", "_law_many"]
  d__law_of : Dn K mg "_law_of" "_law_of" st__law_of ["_law_src", "_law_some"]
  d__law_same : Dn K mg "_law_same" "_law_same" st__law_same ["_law_found", "_law_due"]
  d__law_is_name : Dn K mg "_law_is_name" "_law_is_name" st__law_is_name ["_law_text"]
  d_is_name : Dn K mg "is_name" "is_name" st_is_name ["text"]
  d_law : Dn K mg "law" "law" st_law ["_law_script"]
  b_all : mg "all" = none
  b_int : mg "int" = none
  b_len : mg "len" = none
  b_list : mg "list" = none
  b_range : mg "range" = none
  b_repr : mg "repr" = none
  c_LETTERS : ∃ t, mg "LETTERS" = some (.str "abcdefghijklmnopqrstuvwxyz" t)
  c_MOST_SIGNS : ∃ t, mg "MOST_SIGNS" = some (.int 8 t)
section
variable {P : Program} {w : World} {K : PySem.W.Frag} {mg : Str → Option Value} {base : Heap} {cls : Nat → Addr}
theorem sc__law_source : FnScope ["_law_script", "_law_seed", "_law_cell"] ["_law_script"] (defScope st__law_source) := ⟨rfl, rfl, rfl, by decide +kernel, rfl, by decide +kernel, by decide +kernel⟩
theorem ok__law_source (T : Tx K mg) : FnG P w K mg base 1 T.d__law_source.f T.d__law_source.fd ["_law_script"] (spF ⟨K, cls⟩ 1 F__law_source) :=
  fn_fn (k := 0) ["_law_script", "_law_seed", "_law_cell"] ["_law_script"] m__law_source T.d__law_source.F sc__law_source rfl rfl fun cdv A outer s H E B V po =>
    (s_cons (s_asg d_int (g_name 1 V.nd))
    (s_cons (s_for po V.calm (i_any V.hK (d_f (f_slL V.hK (de_b (d_var 0)) o_none (o_some (de_b d_int))))) (g_name 2 V.nd) (s_one (s_asg (d_bin op_mod od_mod (de_b (d_callTy call_int1 oc_int T.b_int (by decide +kernel) (ba_cons (de_b (d_bin (op_addD V.hK) od_add (de_b (d_bin (op_addD V.hK) od_add (de_b (d_bin op_mul od_mul (de_b (d_var 1)) (de_b d_int))) (de_b (d_bin op_mod od_mod (de_b (d_callTy call_int1 oc_int T.b_int (by decide +kernel) (ba_cons (de_b (d_var 2)) ba_nil))) (de_b d_int))))) (de_b d_int))) ba_nil))) (de_b d_int)) (g_name 1 V.nd))))
    (s_one (s_retF (f_lst (a_cons (d_f (f_callTy (cr_list V.hK) oc_list T.b_list (by decide +kernel) (ba_cons (de_b (d_f (f_slL V.hK (de_b (d_var 0)) o_none (o_some (de_b d_int))))) ba_nil))) (a_cons d_int (a_cons d_int (a_cons (d_var 1) (a_cons d_int a_nil))))))))))
theorem sc__law_draw : FnScope ["_law_src", "_law_many", "_law_cell", "_law_digit", "_law_root", "_law_grown"] ["_law_src", "_law_many"] (defScope st__law_draw) := ⟨rfl, rfl, rfl, by decide +kernel, rfl, by decide +kernel, by decide +kernel⟩
theorem ok__law_draw (T : Tx K mg) : FnG P w K mg base 1 T.d__law_draw.f T.d__law_draw.fd ["_law_src", "_law_many"] (spD ⟨K, cls⟩ 2 F__law_draw) :=
  fn_dn (k := 0) ["_law_src", "_law_many", "_law_cell", "_law_digit", "_law_root", "_law_grown"] ["_law_src", "_law_many"] m__law_draw T.d__law_draw.F sc__law_draw rfl rfl fun cdv A outer s H E B V po =>
    (s_cons (s_if (PW.pt (w_and (t_cmp op_lt ob_I (de_b (d_ix V.hK (de_b (d_var 0)) (de_b d_int))) (de_b (d_var 1)) (nomark _)) (w_and1 (t_cmp op_lt ob_I (de_b (d_ix V.hK (de_b (d_var 0)) (de_b d_int))) (de_b (d_callB (cr_len V.hK) oc_len T.b_len (by decide +kernel) (ba_cons (de_b (d_ix V.hK (de_b (d_var 0)) (de_b d_int))) ba_nil))) (nomark _))))) (s_cons (s_asg (d_ix V.hK (de_b (d_ix V.hK (de_b (d_var 0)) (de_b d_int))) (de_b (d_ix V.hK (de_b (d_var 0)) (de_b d_int)))) (g_name 2 V.nd))
    (s_cons (s_setM (d_bin (op_addD V.hK) od_add (de_b (d_ix V.hK (de_b (d_var 0)) (de_b d_int))) (de_b d_int)) (d_var 0) d_int)
    (s_cons (s_setM (d_bin op_mod od_mod (de_b (d_callTy call_int1 oc_int T.b_int (by decide +kernel) (ba_cons (de_b (d_bin (op_addD V.hK) od_add (de_b (d_bin (op_addD V.hK) od_add (de_b (d_bin op_mul od_mul (de_b (d_ix V.hK (de_b (d_var 0)) (de_b d_int))) (de_b d_int))) (de_b (d_bin op_mod od_mod (de_b (d_callTy call_int1 oc_int T.b_int (by decide +kernel) (ba_cons (de_b (d_var 2)) ba_nil))) (de_b d_int))))) (de_b d_int))) ba_nil))) (de_b d_int)) (d_var 0) d_int)
    (s_one (s_setM (d_ifx (t_cmp op_ge ob_I (de_b (d_var 2)) (de_b (d_bin op_pow od_pow (de_b d_int) (de_b d_int))) (nomark _)) (d_var 2) d_int) (d_var 0) d_int))))) s_nil)
    (s_cons (s_if (t_cmp op_ge ob_I (de_b (d_ix V.hK (de_b (d_var 0)) (de_b d_int))) (de_b (d_var 1)) (nomark _)) (s_cons (s_asg (d_bin op_mod od_mod (de_b (d_callTy call_int1 oc_int T.b_int (by decide +kernel) (ba_cons (de_b (d_ix V.hK (de_b (d_var 0)) (de_b d_int))) ba_nil))) (de_b (d_var 1))) (g_name 3 V.nd))
    (s_cons (s_setM (d_bin op_fdiv od_div (de_b (d_ix V.hK (de_b (d_var 0)) (de_b d_int))) (de_b (d_var 1))) (d_var 0) d_int)
    (s_one (s_ret (d_var 3))))) s_nil)
    (s_cons (s_setM (d_bin (op_addD V.hK) od_add (de_b (d_ix V.hK (de_b (d_var 0)) (de_b d_int))) (de_b d_int)) (d_var 0) d_int)
    (s_cons (s_asg (d_bin op_mod od_mod (de_b (d_callTy call_int1 oc_int T.b_int (by decide +kernel) (ba_cons (de_b (d_bin (op_addD V.hK) od_add (de_b (d_ix V.hK (de_b (d_var 0)) (de_b d_int))) (de_b (d_bin op_mul od_mul (de_b (d_ix V.hK (de_b (d_var 0)) (de_b d_int))) (de_b d_int))))) ba_nil))) (de_b d_int)) (g_name 4 V.nd))
    (s_cons (s_asg (d_bin op_mul od_mul (de_b (d_bin op_mod od_mod (de_b (d_callTy call_int1 oc_int T.b_int (by decide +kernel) (ba_cons (de_b (d_bin op_mul od_mul (de_b (d_var 4)) (de_b (d_var 4)))) ba_nil))) (de_b d_int))) (de_b (d_bin (op_addD V.hK) od_add (de_b (d_bin op_mod od_mod (de_b (d_callTy call_int1 oc_int T.b_int (by decide +kernel) (ba_cons (de_b (d_var 4)) ba_nil))) (de_b d_int))) (de_b d_int)))) (g_name 5 V.nd))
    (s_cons (s_setM (d_bin op_mod od_mod (de_b (d_callTy call_int1 oc_int T.b_int (by decide +kernel) (ba_cons (de_b (d_bin (op_addD V.hK) od_add (de_b (d_bin (op_addD V.hK) od_add (de_b (d_var 5)) (de_b (d_bin op_mul od_mul (de_b d_int) (de_b (d_var 4)))))) (de_b d_int))) ba_nil))) (de_b d_int)) (d_var 0) d_int)
    (s_one (s_ret (d_bin op_mod od_mod (de_b (d_callTy call_int1 oc_int T.b_int (by decide +kernel) (ba_cons (de_b (d_bin (op_addD V.hK) od_add (de_b (d_bin op_fdiv od_div (de_b (d_ix V.hK (de_b (d_var 0)) (de_b d_int))) (de_b d_int))) (de_b (d_bin op_mul od_mul (de_b (d_bin op_mod od_mod (de_b (d_callTy call_int1 oc_int T.b_int (by decide +kernel) (ba_cons (de_b (d_ix V.hK (de_b (d_var 0)) (de_b d_int))) ba_nil))) (de_b d_int))) (de_b d_int))))) ba_nil))) (de_b (d_var 1)))))))))))
theorem sc__law_of : FnScope ["_law_src", "_law_some"] ["_law_src", "_law_some"] (defScope st__law_of) := ⟨rfl, rfl, rfl, by decide +kernel, rfl, by decide +kernel, by decide +kernel⟩
theorem ok__law_of (T : Tx K mg) : FnG P w K mg base 2 T.d__law_of.f T.d__law_of.fd ["_law_src", "_law_some"] (spD ⟨K, cls⟩ 2 F__law_of) :=
  fn_dn (k := 1) ["_law_src", "_law_some"] ["_law_src", "_law_some"] m__law_of T.d__law_of.F sc__law_of rfl rfl fun cdv A outer s H E B V po =>
    (s_one (s_ret (d_ix V.hK (de_b (d_var 1)) (de_b (d_call V (ok__law_draw T) T.d__law_draw.m T.d__law_draw.F.kp T.d__law_draw.b (a_cons (d_var 0) (a_cons (d_callB (cr_len V.hK) oc_len T.b_len (by decide +kernel) (ba_cons (de_b (d_var 1)) ba_nil)) a_nil)))))))
theorem sc__law_same : FnScope ["_law_found", "_law_due"] ["_law_found", "_law_due"] (defScope st__law_same) := ⟨rfl, rfl, rfl, by decide +kernel, rfl, by decide +kernel, by decide +kernel⟩
theorem ok__law_same (T : Tx K mg) : FnG P w K mg base 1 T.d__law_same.f T.d__law_same.fd ["_law_found", "_law_due"] (spD ⟨K, cls⟩ 2 F__law_same) :=
  fn_dn (k := 0) ["_law_found", "_law_due"] ["_law_found", "_law_due"] m__law_same T.d__law_same.F sc__law_same rfl rfl fun cdv A outer s H E B V po =>
    (s_one (s_ret (d_cmpB (op_eqS (hu64 V)) (ob_eq V.hK) (de_b (d_callB (cr_repr V) oc_repr T.b_repr (by decide +kernel) (ba_cons (de_b (d_var 0)) ba_nil))) (de_b (d_callB (cr_repr V) oc_repr T.b_repr (by decide +kernel) (ba_cons (de_b (d_var 1)) ba_nil))) (nomark _))))
theorem sc__law_is_name : FnScope ["_law_text", "_law_sign"] ["_law_text"] (defScope st__law_is_name) := ⟨rfl, rfl, rfl, by decide +kernel, rfl, by decide +kernel, by decide +kernel⟩
theorem ok__law_is_name (T : Tx K mg) : FnG P w K mg base 1 T.d__law_is_name.f T.d__law_is_name.fd ["_law_text"] (spD ⟨K, cls⟩ 1 F__law_is_name) :=
  fn_dn (k := 0) ["_law_text", "_law_sign"] ["_law_text"] m__law_is_name T.d__law_is_name.F sc__law_is_name rfl rfl fun cdv A outer s H E B V po =>
    (s_one (s_ret (d_and (d_chain op_le ob_I op_le ob_I (de_b d_int) (de_b (d_callB (cr_len V.hK) oc_len T.b_len (by decide +kernel) (ba_cons (de_b (d_var 0)) ba_nil))) (de_b d_int)) (d_one (d_callB (cr_allK V.hK V.calm) oc_bls T.b_all (by decide +kernel) (ba_cons (de_b (d_f (f_lc (own := [("_law_sign", 1)]) V.calm V.nd (i_anyB V.hK (de_b (d_var 0))) (blkOk_by (N := ["_law_text", "_law_sign"]) (sc := defScope st__law_is_name) (by decide +kernel)) (fun _ _ _ _ _ => (g_name 1 V.blk.nd)) (fun _ _ _ _ _ => pts_yes) (fun _ _ _ _ _ => (d_cmpB op_in_str ob_inS (de_b (d_var 1)) (de_b d_str) (by rfl)))))) ba_nil))))))
theorem sc_is_name : FnScope ["text", "sign"] ["text"] (defScope st_is_name) := ⟨rfl, rfl, rfl, by decide +kernel, rfl, by decide +kernel, by decide +kernel⟩
theorem ok_is_name (T : Tx K mg) : FnG P w K mg base 1 T.d_is_name.f T.d_is_name.fd ["text"] (spD ⟨K, cls⟩ 1 F_is_name) :=
  fn_dn (k := 0) ["text", "sign"] ["text"] m_is_name T.d_is_name.F sc_is_name rfl rfl fun cdv A outer s H E B V po =>
    (s_one (s_ret (d_and (d_chain op_le ob_I op_le ob_I (de_b d_int) (de_b (d_callB (cr_len V.hK) oc_len T.b_len (by decide +kernel) (ba_cons (de_b (d_var 0)) ba_nil))) (de_b (d_globI T.c_MOST_SIGNS))) (d_one (d_callB (cr_allK V.hK V.calm) oc_bls T.b_all (by decide +kernel) (ba_cons (de_b (d_f (f_lc (own := [("sign", 1)]) V.calm V.nd (i_anyB V.hK (de_b (d_var 0))) (blkOk_by (N := ["text", "sign"]) (sc := defScope st_is_name) (by decide +kernel)) (fun _ _ _ _ _ => (g_name 1 V.blk.nd)) (fun _ _ _ _ _ => pts_yes) (fun _ _ _ _ _ => (d_cmpB op_in_str ob_inS (de_b (d_var 1)) (de_b (d_globS T.c_LETTERS)) (by rfl)))))) ba_nil))))))
theorem sc_law : FnScope ["_law_script", "_law_src", "_law_turn", "_law_text", "_law_at", "_law_k"] ["_law_script"] (defScope st_law) := ⟨rfl, rfl, rfl, by decide +kernel, rfl, by decide +kernel, by decide +kernel⟩
theorem ok_law (T : Tx K mg) : FnG P w K mg base 3 T.d_law.f T.d_law.fd ["_law_script"] (spD ⟨K, cls⟩ 1 F_law) :=
  fn_dn (k := 2) ["_law_script", "_law_src", "_law_turn", "_law_text", "_law_at", "_law_k"] ["_law_script"] m_law T.d_law.F sc_law rfl rfl fun cdv A outer s H E B V po =>
    (s_cons (s_mob 1 V.nd (f_call V (ok__law_source T) T.d__law_source.m T.d__law_source.F.kp T.d__law_source.b (a_cons (d_var 0) a_nil)))
    (s_cons (s_for po V.calm (i_range1 T.b_range (ba_cons (de_b d_int) ba_nil)) (g_name 2 V.nd) (s_cons (s_asg (d_join V.hK (de_b d_str) (de_b (d_f (f_lc (own := [("_law_k", 5)]) V.calm V.nd (i_b (i_range1 T.b_range (ba_cons (de_b (d_call V (ok__law_draw T) T.d__law_draw.m T.d__law_draw.F.kp T.d__law_draw.b (a_cons (d_var 1) (a_cons d_int a_nil)))) ba_nil))) (blkOk_by (N := ["_law_script", "_law_src", "_law_turn", "_law_text", "_law_at", "_law_k"]) (sc := defScope st_law) (by decide +kernel)) (fun _ _ _ _ _ => (g_name 5 V.blk.nd)) (fun _ _ _ _ _ => pts_yes) (fun _ _ _ _ _ => (d_call V.blk (ok__law_of T) T.d__law_of.m T.d__law_of.F.kp T.d__law_of.b (a_cons (d_var 1) (a_cons d_str a_nil)))))))) (g_name 3 V.nd))
    (s_cons (s_asg (d_call V (ok__law_draw T) T.d__law_draw.m T.d__law_draw.F.kp T.d__law_draw.b (a_cons (d_var 1) (a_cons (d_bin (op_addD V.hK) od_add (de_b (d_callB (cr_len V.hK) oc_len T.b_len (by decide +kernel) (ba_cons (de_b (d_var 3)) ba_nil))) (de_b d_int)) a_nil))) (g_name 4 V.nd))
    (s_cons (s_if (t_cmp (op_eqS (hu64 V)) (ob_eq V.hK) (de_b (d_call V (ok__law_draw T) T.d__law_draw.m T.d__law_draw.F.kp T.d__law_draw.b (a_cons (d_var 1) (a_cons d_int a_nil)))) (de_b d_int) (nomark _)) (s_one (s_asg (d_bin (op_addD V.hK) od_add (de_b (d_bin (op_addD V.hK) od_add (de_b (d_slT V.hK (de_b (d_var 3)) o_none (o_some (de_b (d_var 4))))) (de_b (d_call V (ok__law_of T) T.d__law_of.m T.d__law_of.F.kp T.d__law_of.b (a_cons (d_var 1) (a_cons (d_f (f_lst (a_cons d_str (a_cons d_str (a_cons d_str (a_cons d_str (a_cons d_str (a_cons d_str (a_cons d_str (a_cons d_str (a_cons d_str (a_cons d_str a_nil)))))))))))) a_nil)))))) (de_b (d_slT V.hK (de_b (d_var 3)) (o_some (de_b (d_var 4))) o_none))) (g_name 3 V.nd))) s_nil)
    (s_one (s_if (t_not (t_truth V.hK (de_b (d_call V (ok__law_same T) T.d__law_same.m T.d__law_same.F.kp T.d__law_same.b (a_cons (d_call V (ok_is_name T) T.d_is_name.m T.d_is_name.F.kp T.d_is_name.b (a_cons (d_var 3) a_nil)) (a_cons (d_call V (ok__law_is_name T) T.d__law_is_name.m T.d__law_is_name.F.kp T.d__law_is_name.b (a_cons (d_var 3) a_nil)) a_nil)))))) (s_one (s_ret d_bl)) s_nil))))))
    (s_one (s_ret (d_and (d_cmpB op_isBl ob_isB (de_b (d_call V (ok_is_name T) T.d_is_name.m T.d_is_name.F.kp T.d_is_name.b (a_cons d_str a_nil))) (de_b d_bl) (nomark _)) (d_and (d_cmpB op_isBl ob_isB (de_b (d_call V (ok_is_name T) T.d_is_name.m T.d_is_name.F.kp T.d_is_name.b (a_cons d_str a_nil))) (de_b d_bl) (nomark _)) (d_one (d_cmpB op_isBl ob_isB (de_b (d_call V (ok_is_name T) T.d_is_name.m T.d_is_name.F.kp T.d_is_name.b (a_cons d_str a_nil))) (de_b d_bl) (nomark _)))))))))
end
end K01
set_option maxHeartbeats 4000000
namespace K01
open PySem PySem.Spec PyProof.Rows L2 NW
theorem draw_spec {mo : MO} (rest : Z) {many : Int} (h : SrcOk mo) (h0 : 0 < many) (h1 : many < 1073741824) : ∃ r mo', F__law_draw [.mob 0, .int many] (mo :: rest) = .ok (.int r) (mo' :: rest) ∧ 0 ≤ r ∧ r < many ∧ SrcOk mo' := by
  obtain ⟨cells, a, b, c, d, rfl, ha⟩ := h
  have e0 : startE 6 [.mob 0, .int many] = [some (.sh (.mob 0)), some (.sh (.int many)), none, none, none, none] := rfl
  have ix0 : ∀ (ds : List D) (rest : Z) (i : Int), ixD (.lst ds :: rest) (.mob 0) (.int i) = atI ds i := fun _ _ _ => rfl
  have at0 : ∀ (x y z u v : D), atI [x, y, z, u, v] 0 = some x := fun _ _ _ _ _ => rfl
  have at1 : ∀ (x y z u v : D), atI [x, y, z, u, v] 1 = some y := fun _ _ _ _ _ => rfl
  have at2 : ∀ (x y z u v : D), atI [x, y, z, u, v] 2 = some z := fun _ _ _ _ _ => rfl
  have at3 : ∀ (x y z u v : D), atI [x, y, z, u, v] 3 = some u := fun _ _ _ _ _ => rfl
  have at4 : ∀ (x y z u v : D), atI [x, y, z, u, v] 4 = some v := fun _ _ _ _ _ => rfl
  have st1 : ∀ (x y z u v n : D) (rest : Z), setM (.lst [x, y, z, u, v] :: rest) (.mob 0) (.int 1) n = some (.lst [x, n, z, u, v] :: rest) := fun _ _ _ _ _ _ _ => rfl
  have st2 : ∀ (x y z u v n : D) (rest : Z), setM (.lst [x, y, z, u, v] :: rest) (.mob 0) (.int 2) n = some (.lst [x, y, n, u, v] :: rest) := fun _ _ _ _ _ _ _ => rfl
  have st3 : ∀ (x y z u v n : D) (rest : Z), setM (.lst [x, y, z, u, v] :: rest) (.mob 0) (.int 3) n = some (.lst [x, y, z, n, v] :: rest) := fun _ _ _ _ _ _ _ => rfl
  have st4 : ∀ (x y z u v n : D) (rest : Z), setM (.lst [x, y, z, u, v] :: rest) (.mob 0) (.int 4) n = some (.lst [x, y, z, u, n] :: rest) := fun _ _ _ _ _ _ _ => rfl
  have k1 : ∀ x : Int, mulI x 8663 = some (.int (x * 8663)) := fun x => mulI_r (by omega)
  have k2 : ∀ x : Int, mulI x 49031 = some (.int (x * 49031)) := fun x => mulI_r (by omega)
  have k3 : ∀ x : Int, mulI x 43 = some (.int (x * 43)) := fun x => mulI_r (by omega)
  have k4 : ∀ x : Int, mulI 30697 x = some (.int (30697 * x)) := fun x => mulI_l (by omega)
  have k5 : ∀ x y : Int, mulI (x % 2147483543) y = some (.int (x % 2147483543 * y)) := fun x y => mulI_l (by omega)
  have k6 : ∀ x y : Int, mulI (x % 2147483579) y = some (.int (x % 2147483579 * y)) := fun x y => mulI_l (by omega)
  have md : ∀ x : Int, modI x many = some (.int (x % many)) := fun x => modI_p h0
  have m1 : ∀ x : Int, modI x 2147483543 = some (.int (x % 2147483543)) := fun x => modI_p (by omega)
  have m2 : ∀ x : Int, modI x 2147483549 = some (.int (x % 2147483549)) := fun x => modI_p (by omega)
  have m3 : ∀ x : Int, modI x 2147483579 = some (.int (x % 2147483579)) := fun x => modI_p (by omega)
  have m4 : ∀ x : Int, modI x 39989 = some (.int (x % 39989)) := fun x => modI_p (by omega)
  have m5 : ∀ x : Int, modI x 8999 = some (.int (x % 8999)) := fun x => modI_p (by omega)
  have q1 : ∀ x : Int, divI x many = some (.int (x / many)) := fun x => divI_p h0 h1
  have q2 : ∀ x : Int, divI x 67 = some (.int (x / 67)) := fun x => divI_p (by omega) (by omega)
  have p1 : powI 10 18 = some (.int 1000000000000000000) := rfl
  have len6 : ∀ (x y z u v w : Option DV), [x, y, z, u, v, w].length = 6 := fun _ _ _ _ _ _ => rfl
  -- behind the first test
  have seg : ∀ (x : Option DV) (a b c d : Int), 0 ≤ a → ∃ r mo', endR ((sIf (mOp2 geI (mOp2 ixD (mVar 0) (mRet (.int 2))) (mVar 1)) (sSeq (sAsg (setE 3) (mOp2 (int2 modI) (mCall intD (mCons (mOp2 ixD (mVar 0) (mRet (.int 2))) mNil)) (mVar 1)))
    (sSeq (sSetM (mOp2 (int2 divI) (mOp2 ixD (mVar 0) (mRet (.int 2))) (mVar 1)) (mVar 0) (mRet (.int 2)))
    (sRet (mVar 3)))) sNx [some (.sh (.mob 0)), some (.sh (.int many)), x, none, none, none] (.lst [.lst (cells.map .int), .int a, .int b, .int c, .int d] :: rest)).then
    (sSeq (sSetM (mOp2 addD (mOp2 ixD (mVar 0) (mRet (.int 4))) (mRet (.int 1))) (mVar 0) (mRet (.int 4)))
    (sSeq (sAsg (setE 4) (mOp2 (int2 modI) (mCall intD (mCons (mOp2 addD (mOp2 ixD (mVar 0) (mRet (.int 3))) (mOp2 (int2 mulI) (mOp2 ixD (mVar 0) (mRet (.int 4))) (mRet (.int 8663)))) mNil)) (mRet (.int 2147483579))))
    (sSeq (sAsg (setE 5) (mOp2 (int2 mulI) (mOp2 (int2 modI) (mCall intD (mCons (mOp2 (int2 mulI) (mVar 4) (mVar 4)) mNil)) (mRet (.int 2147483543))) (mOp2 addD (mOp2 (int2 modI) (mCall intD (mCons (mVar 4) mNil)) (mRet (.int 39989))) (mRet (.int 5)))))
    (sSeq (sSetM (mOp2 (int2 modI) (mCall intD (mCons (mOp2 addD (mOp2 addD (mVar 5) (mOp2 (int2 mulI) (mRet (.int 30697)) (mVar 4))) (mRet (.int 1013))) mNil)) (mRet (.int 2147483549))) (mVar 0) (mRet (.int 3)))
    (sRet (mOp2 (int2 modI) (mCall intD (mCons (mOp2 addD (mOp2 (int2 divI) (mOp2 ixD (mVar 0) (mRet (.int 3))) (mRet (.int 67))) (mOp2 (int2 mulI) (mOp2 (int2 modI) (mCall intD (mCons (mOp2 ixD (mVar 0) (mRet (.int 3))) mNil)) (mRet (.int 8999))) (mRet (.int 43)))) mNil)) (mVar 1)))))))) = .ok (.int r) (mo' :: rest) ∧ 0 ≤ r ∧ r < many ∧ SrcOk mo' := by
    intro x a b c d ha
    by_cases hb : many ≤ b
    · refine ⟨b % many, _, ?_, Int.emod_nonneg _ (by omega), Int.emod_lt_of_pos _ h0, ⟨cells, a, b / many, c, d, rfl, ha⟩⟩
      simp [ix0, at2, hb, md, q1, st2]
    · refine ⟨_, _, (by simp [ix0, at2, at3, at4, hb, md, m1, m2, m3, m4, m5, k1, k3, k4, k5, k6, q2, st3, st4]; exact ⟨rfl, rfl, rfl⟩), Int.emod_nonneg _ (by omega), Int.emod_lt_of_pos _ h0, ⟨cells, a, b, _, _, rfl, ha⟩⟩
  by_cases c1 : b < many ∧ a < cells.length
  · obtain ⟨c1, c2⟩ := c1
    obtain ⟨n, rfl⟩ := Int.eq_ofNat_of_zero_le ha
    have hn : n < cells.length := by omega
    have gn : atI (cells.map D.int) (n : Int) = some (.int cells[n]) := by
      rw [atI_ofNat _ _ (by simpa using hn)]; simp
    by_cases c3 : (1000000000000000000 : Int) ≤ cells[n]
    · have := seg (some (.sh (.int cells[n]))) ((n : Int) + 1) cells[n] ((c * 49031 + cells[n] % 2147483543 + 23) % 2147483549) d (by omega)
      simpa [F__law_draw, runB, m__law_draw, e0, ix0, at0, at1, at2, at3, c1, c2, gn, st1, st2, st3, k2, m1, m2, p1, c3] using this
    · have := seg (some (.sh (.int cells[n]))) ((n : Int) + 1) 0 ((c * 49031 + cells[n] % 2147483543 + 23) % 2147483549) d (by omega)
      simpa [F__law_draw, runB, m__law_draw, e0, ix0, at0, at1, at2, at3, c1, c2, gn, st1, st2, st3, k2, m1, m2, p1, c3] using this
  · have := seg none a b c d ha
    by_cases c2 : b < many
    · have c3 : ¬ a < cells.length := fun h => c1 ⟨c2, h⟩
      simpa [F__law_draw, runB, m__law_draw, e0, ix0, at0, at1, at2, c2, c3] using this
    · simpa [F__law_draw, runB, m__law_draw, e0, ix0, at0, at1, at2, c2] using this

theorem of_str {mo : MO} (rest : Z) {s : Str} (h : SrcOk mo) (h0 : 0 < s.length) (h1 : s.length < 1073741824) (h2 : s.length ≤ sizeLine) : ∃ c mo', F__law_of [.mob 0, .str s] (mo :: rest) = .ok (.str ⟨#[c]⟩) (mo' :: rest) ∧ c ∈ s.cps.toList ∧ SrcOk mo' := by
  obtain ⟨r, mo', e, g1, g2, g3⟩ := draw_spec rest h (many := (s.length : Int)) (by omega) (by omega)
  obtain ⟨n, rfl⟩ := Int.eq_ofNat_of_zero_le g1
  have hn : n < s.cps.toList.length := by
    have : s.length = s.cps.toList.length := len_cps s
    omega
  refine ⟨s.cps.toList[n], mo', ?_, List.getElem_mem _, g3⟩
  have e0 : startE 2 [.mob 0, .str s] = [some (.sh (.mob 0)), some (.sh (.str s))] := rfl
  have ea : ixD (mo' :: rest) (.str s) (.int (n : Int)) = some (.str ⟨#[s.cps.toList[n]]⟩) := by
    show (if s.length ≤ sizeLine then (atI s.cps.toList (n : Int)).map _ else none) = _
    rw [if_pos h2, atI_ofNat _ _ hn]
    rfl
  simp [F__law_of, runB, m__law_of, e0, h2, e, ea]
theorem of_lst {mo : MO} (rest : Z) {ds : List D} (h : SrcOk mo) (h0 : 0 < ds.length) (h1 : ds.length < 1073741824) : ∃ d mo', F__law_of [.mob 0, .lst ds] (mo :: rest) = .ok d (mo' :: rest) ∧ d ∈ ds ∧ SrcOk mo' := by
  obtain ⟨r, mo', e, g1, g2, g3⟩ := draw_spec rest h (many := (ds.length : Int)) (by omega) (by omega)
  obtain ⟨n, rfl⟩ := Int.eq_ofNat_of_zero_le g1
  have hn : n < ds.length := by omega
  refine ⟨ds[n], mo', ?_, List.getElem_mem _, g3⟩
  have e0 : startE 2 [.mob 0, .lst ds] = [some (.sh (.mob 0)), some (.sh (.lst ds))] := rfl
  simp [F__law_of, runB, m__law_of, e0, e, atI_ofNat _ _ hn]
theorem cutL_map {α β : Type} (f : α → β) (xs : List α) (lo hi : Option Int) : cutL (xs.map f) lo hi = (cutL xs lo hi).map f := by
  unfold cutL
  rw [List.length_map, List.map_take, List.map_drop]
theorem source_spec (ns : List Int) (hn : ns.length ≤ 63) : ∃ mo, SrcOk mo ∧ ∃ ds, mo = .lst ds ∧ F__law_source [.lst (ns.map .int)] [] = .ok (.lst ds) [] := by
  have e0 : startE 3 [.lst (ns.map .int)] = [some (.sh (.lst (ns.map .int))), none, none] := rfl
  have k2 : ∀ x : Int, mulI x 48491 = some (.int (x * 48491)) := fun x => mulI_r (by omega)
  have m1 : ∀ x : Int, modI x 2147483477 = some (.int (x % 2147483477)) := fun x => modI_p (by omega)
  have m3 : ∀ x : Int, modI x 2147483579 = some (.int (x % 2147483579)) := fun x => modI_p (by omega)
  obtain ⟨ρ', z', e1, seed, x, e2, e3⟩ := forGo_inv (I := fun ρ z => ∃ (seed : Int) (x : Option DV), ρ = [some (.sh (.lst (ns.map .int))), some (.sh (.int seed)), x] ∧ z = []) (g := setE 2) (body := sAsg (setE 1) (mOp2 (int2 modI) (mCall intD (mCons (mOp2 addD (mOp2 addD (mOp2 (int2 mulI) (mVar 1) (mRet (.int 48491))) (mOp2 (int2 modI) (mCall intD (mCons (mVar 2) mNil)) (mRet (.int 2147483477)))) (mRet (.int 37))) mNil)) (mRet (.int 2147483579))))
    ((cutL ns none (some 63)).map D.int) [some (.sh (.lst (ns.map .int))), some (.sh (.int 5786)), none] [] ⟨5786, none, rfl, rfl⟩ (by
      rintro d hd ρ z ⟨seed, x, rfl, rfl⟩
      obtain ⟨v, _, rfl⟩ := List.mem_map.mp hd
      refine ⟨_, setE_in 2 _ (by simp), ?_⟩
      simp [k2, m1, m3])
  have hz : (5 : Nat) ≤ sizeLine := by decide
  refine ⟨.lst [.lst ((cutL ns none (some 63)).map .int), .int 0, .int 0, .int seed, .int 0], ⟨_, 0, 0, seed, 0, rfl, by omega⟩, _, rfl, ?_⟩
  subst e2 e3
  simp [F__law_source, runBF, m__law_source, e0, cutL_map, e1, hz]
def nameB (s : Str) : Bool := decide ((1 : Int) ≤ s.length) && (decide ((s.length : Int) ≤ 8) && ((s.cps.toList.map sgn).map fun d => ((inS [] d (.str "abcdefghijklmnopqrstuvwxyz")).getD false)).all id)
theorem is_name_bl (s : Str) (z : Z) (hs : s.length ≤ sizeLine) : F_is_name [.str s] z = .ok (.bl (nameB s)) z := by
  have e0 : startE 2 [.str s] = [some (.sh (.str s)), none] := rfl
  have e1 : lcGo (setE 1) (mRet true) (mBl (mOp2 inS (mVar 1) (mRet (.str "abcdefghijklmnopqrstuvwxyz")))) (wipeE [some (.sh (.str s)), none] [1]) (s.cps.toList.map sgn) [] z =
      .ok ((s.cps.toList.map sgn).map fun d => .bl ((inS z d (.str "abcdefghijklmnopqrstuvwxyz")).getD false)) z := by
    rw [lcGo_map (fun d => .bl ((inS z d (.str "abcdefghijklmnopqrstuvwxyz")).getD false))]
    · rfl
    · have : s.length = s.cps.toList.length := len_cps s
      simp only [List.length_nil, List.length_map]
      omega
    · intro d hd
      obtain ⟨c, _, rfl⟩ := List.mem_map.mp hd
      exact ⟨_, setE_in 1 _ (by simp [wipeE]), rfl⟩
  simp only [F_is_name, runB, m_is_name, e0, ap_sret, ap_andV, ap_map, ap_chain, ap_ret, ap_call, ap_cons, ap_nil, ap_var, List.getElem?_cons_zero, varO_sh, rb_ok, len_strD _ hs, ofO_some, cI_int]
  by_cases c1 : (1 : Int) ≤ s.length
  · by_cases c2 : (s.length : Int) ≤ 8
    · have : (fun d => (inS z d (.str "abcdefghijklmnopqrstuvwxyz")).getD false) = fun d => (inS [] d (.str "abcdefghijklmnopqrstuvwxyz")).getD false := by
        funext d; cases d <;> rfl
      simp [nameB, c1, c2, e1, allD, blsOf_map, -List.map_map, -List.all_map, this]
    · simp [nameB, c1, c2]
  · simp [nameB, c1]

theorem is_name_eq : F__law_is_name = F_is_name := rfl
theorem same_bl (b : Bool) (z : Z) : F__law_same [.bl b, .bl b] z = .ok (.bl true) z := by
  have e0 : startE 2 [.bl b, .bl b] = [some (.sh (.bl b)), some (.sh (.bl b))] := rfl
  simp [F__law_same, runB, m__law_same, e0, reprD_bl]
theorem cutS_len (x : Str) (l h : Option Int) : (cutS x l h).length ≤ x.length := by
  rw [len_cps, len_cps]
  unfold cutS
  simp only [List.length_take, List.length_drop]
  omega
theorem app_len (x y : Str) : (x ++ y).length = x.length + y.length := by
  rw [len_cps, len_cps x, len_cps y]
  simp [TL.tl_append]
theorem join_len (ys : List Str) (h : ∀ y ∈ ys, y.length = 1) : (Txt.join "" ys).length = ys.length := by
  rw [TL.join_eq, len_cps]
  show (TL.tl _).length = _
  rw [TL.tl_join]
  have e : ∀ l : List (List Nat), (∀ p ∈ l, p.length = 1) → (TL.joinL [] l).length = l.length := by
    intro l
    induction l with
    | nil => intro _; rfl
    | cons p l ih =>
      intro hp
      cases l with
      | nil => simpa [TL.joinL] using hp p (by simp)
      | cons q r =>
        have := ih fun x hx => hp x (by simp at hx ⊢; exact .inr hx)
        have h1 := hp p (by simp)
        simp only [TL.joinL, List.length_append, List.nil_append, List.length_cons] at this ⊢
        omega
  rw [show TL.tl "" = [] from rfl, e _ (fun p hp => by
    obtain ⟨y, hy, rfl⟩ := List.mem_map.mp hp
    exact (len_cps y).symm.trans (h y hy)), List.length_map]
theorem law_true (ns : List Int) (hn : ns.length ≤ 63) : ∃ z', F_law [.lst (ns.map .int)] [] = .ok (.bl true) z' := by
  have hline : sizeLine = 16777216 := sizeLine_eq
  obtain ⟨mo, hmo, ds, rfl, hs⟩ := source_spec ns hn
  have e0 : startE 6 [.lst (ns.map .int)] = [some (.sh (.lst (ns.map .int))), none, none, none, none, none] := rfl
  have abc : ("abcdefghijklmnopqrstuvwxyz" : Str).length = 26 := by decide +kernel
  let body : MS := (sSeq (sAsg (setE 3) (mJoin (mRet (.str "")) (mFz (mLc (mCall rng1 (mCons (mApp 2 F__law_draw (mCons (mVar 1) (mCons (mRet (.int 14)) mNil))) mNil)) (setE 5) (mRet true) (mApp 2 F__law_of (mCons (mVar 1) (mCons (mRet (.str "abcdefghijklmnopqrstuvwxyz")) mNil))) [5]))))
    (sSeq (sAsg (setE 4) (mApp 2 F__law_draw (mCons (mVar 1) (mCons (mOp2 addD (mCall lenD (mCons (mVar 3) mNil)) (mRet (.int 1))) mNil))))
    (sSeq (sIf (mOp2 eqD (mApp 2 F__law_draw (mCons (mVar 1) (mCons (mRet (.int 2)) mNil))) (mRet (.int 0))) (sAsg (setE 3) (mOp2 addD (mOp2 addD (mSl slD (mVar 3) (mRet none) (mOp1 (fun _ d => (toI d).map some) (mVar 4))) (mApp 2 F__law_of (mCons (mVar 1) (mCons (mFz (mLst (mCons (mRet (.str "A")) (mCons (mRet (.str "Z")) (mCons (mRet (.str "0")) (mCons (mRet (.str "9")) (mCons (mRet (.str "-")) (mCons (mRet (.str " ")) (mCons (mRet (.str ",")) (mCons (mRet (.str "_")) (mCons (mRet (.str ";")) (mCons (mRet (.str "\n")) mNil)))))))))))) mNil)))) (mSl slD (mVar 3) (mOp1 (fun _ d => (toI d).map some) (mVar 4)) (mRet none)))) sNx)
    (sIf (mNot (mOp1 truD (mApp 2 F__law_same (mCons (mApp 1 F_is_name (mCons (mVar 3) mNil)) (mCons (mApp 1 F__law_is_name (mCons (mVar 3) mNil)) mNil))))) (sRet (mRet (.bl false))) sNx))))
  obtain ⟨ρ', z', e1, a, b, c, d, e, mo', rfl, rfl, hmo'⟩ := forGo_inv (I := fun ρ z => ∃ (a b c d e : Option DV) (mo : MO), ρ = [a, some (.sh (.mob 0)), b, c, d, e] ∧ z = [mo] ∧ SrcOk mo) (g := setE 2) (body := body) (rngD 0 6)
    [some (.sh (.lst (ns.map .int))), some (.sh (.mob 0)), none, none, none, none] [.lst ds] ⟨_, _, _, _, _, _, rfl, rfl, hmo⟩ (by
      rintro t ht ρ z ⟨a, b, c, d, e, mo, rfl, rfl, hm⟩
      refine ⟨_, setE_in 2 _ (by simp), ?_⟩
      obtain ⟨r1, mo1, d1, g1, g2, hm1⟩ := draw_spec [] hm (many := 14) (by omega) (by omega)
      have rr : ∀ z, rng1 z [.int r1] = some (rngD 0 r1.toNat) := fun _ => if_pos ⟨by omega, by omega⟩
      obtain ⟨ys, z1, l1, ⟨mo2, rfl, hm2⟩, l2, l3⟩ := lcGo_all (P := fun z => ∃ mo, z = [mo] ∧ SrcOk mo) (E := fun y => ∃ x : Str, y = .str x ∧ x.length = 1) (g := setE 5) (me := mApp 2 F__law_of (mCons (mVar 1) (mCons (mRet (.str "abcdefghijklmnopqrstuvwxyz")) mNil)))
        (ρ := [a, some (.sh (.mob 0)), some (.sh t), c, d, none]) (rngD 0 r1.toNat) [] [mo1] ⟨mo1, rfl, hm1⟩ (by simp) (by rw [len_rng]; simp; omega) (by
          rintro x hx z ⟨mo, rfl, hm⟩
          obtain ⟨cc, mo', f1, _, f2⟩ := of_str [] (s := "abcdefghijklmnopqrstuvwxyz") hm (by omega) (by omega) (by omega)
          exact ⟨_, setE_in 5 _ (by simp), .str ⟨#[cc]⟩, [mo'], by simp [f1], ⟨mo', rfl, f2⟩, _, rfl, rfl⟩)
      obtain ⟨xs, l4, l5, l6⟩ := strsOf_of l2
      rw [len_rng] at l3
      have jl := join_len xs l6
      have hl : (Txt.join "" xs).length ≤ 13 := by rw [jl, l5, l3]; simp; omega
      have js : (xs.map (·.length)).sum ≤ 13 := by
        have : xs.map (·.length) = List.replicate xs.length 1 := by
          apply List.ext_getElem (by simp)
          intro i h1 h2
          simp only [List.getElem_map, List.getElem_replicate]
          exact l6 _ (List.getElem_mem _)
        rw [this, List.sum_replicate_nat]
        omega
      have jd : ∀ z, joinD z (.str "") (.lst ys) = some (.str (Txt.join "" xs)) := fun z => by
        have e : joinD z (.str "") (.lst ys) = (strsOf ys).bind fun ys => if (ys.map (·.length)).sum + ys.length * ("" : Str).length ≤ 16777216 then some (.str (Txt.join "" ys)) else none := rfl
        rw [e, l4]
        exact if_pos (by rw [show ("" : Str).length = 0 from rfl]; omega)
      generalize hs1 : Txt.join "" xs = s1 at *
      obtain ⟨r2, mo3, d2, g3, g4, hm3⟩ := draw_spec [] hm2 (many := (s1.length : Int) + 1) (by omega) (by omega)
      obtain ⟨r3, mo4, d3, g5, g6, hm4⟩ := draw_spec [] hm3 (many := 2) (by omega) (by omega)
      by_cases h0 : r3 = 0
      · obtain ⟨dd, mo5, f1, f2, hm5⟩ := of_lst [] (ds := [.str "A", .str "Z", .str "0", .str "9", .str "-", .str " ", .str ",", .str "_", .str ";", .str "\n"]) hm4 (by simp) (by simp)
        obtain ⟨cs, rfl, hcs⟩ : ∃ cs : Str, dd = .str cs ∧ cs.length = 1 := by
          simp at f2
          rcases f2 with rfl | rfl | rfl | rfl | rfl | rfl | rfl | rfl | rfl | rfl <;> exact ⟨_, rfl, by decide +kernel⟩
        have c1 := cutS_len s1 none (some r2)
        have c2 := cutS_len s1 (some r2) none
        have a1 := app_len (cutS s1 none (some r2)) cs
        have a2 := app_len (cutS s1 none (some r2) ++ cs) (cutS s1 (some r2) none)
        have ad1 : ∀ z, addD z (.str (cutS s1 none (some r2))) (.str cs) = some (.str (cutS s1 none (some r2) ++ cs)) := fun _ => if_pos (by omega)
        have ad2 : ∀ z, addD z (.str (cutS s1 none (some r2) ++ cs)) (.str (cutS s1 (some r2) none)) = some (.str (cutS s1 none (some r2) ++ cs ++ cutS s1 (some r2) none)) := fun _ => if_pos (by omega)
        have hf10 : (10 : Nat) ≤ sizeLine := by omega
        refine ⟨_, _, (by simp [body, d1, rr, wipeE, l1, jd, show s1.length ≤ sizeLine by omega, d2, d3, h0, hf10, f1, ad1, ad2, is_name_eq, is_name_bl (cutS s1 none (some r2) ++ cs ++ cutS s1 (some r2) none) [mo5] (by omega), same_bl]; exact ⟨rfl, rfl, rfl, rfl, rfl⟩), _, _, _, _, _, _, rfl, rfl, hm5⟩
      · refine ⟨_, _, (by simp [body, d1, rr, wipeE, l1, jd, show s1.length ≤ sizeLine by omega, d2, d3, h0, is_name_eq, is_name_bl s1 [mo4] (by omega), same_bl]; exact ⟨rfl, rfl, rfl, rfl, rfl⟩), _, _, _, _, _, _, rfl, rfl, hm4⟩)
  have e2 : m_law = sSeq (sMob 1 (mAppF 1 F__law_source (mCons (mVar 0) mNil))) (sSeq (sFor (mCall rng1 (mCons (mRet (.int 6)) mNil)) (setE 2) body) (sRet (mAndV (mBl (mOp2 isBB (mApp 1 F_is_name (mCons (mRet (.str "")) mNil)) (mRet (.bl false)))) (mAndV (mBl (mOp2 isBB (mApp 1 F_is_name (mCons (mRet (.str "abcdefgh")) mNil)) (mRet (.bl true)))) (mBl (mOp2 isBB (mApp 1 F_is_name (mCons (mRet (.str "abcdefghi")) mNil)) (mRet (.bl false)))))))) := rfl
  have r6 : ∀ z, rng1 z [.int 6] = some (rngD 0 6) := fun _ => rfl
  have n1 : ∀ z, F_is_name [.str ""] z = .ok (.bl false) z := fun z => by rw [is_name_bl _ _ (by decide +kernel)]; rw [show nameB "" = false by decide +kernel]
  have n2 : ∀ z, F_is_name [.str "abcdefgh"] z = .ok (.bl true) z := fun z => by rw [is_name_bl _ _ (by decide +kernel)]; rw [show nameB "abcdefgh" = true by decide +kernel]
  have n3 : ∀ z, F_is_name [.str "abcdefghi"] z = .ok (.bl false) z := fun z => by rw [is_name_bl _ _ (by decide +kernel)]; rw [show nameB "abcdefghi" = false by decide +kernel]
  refine ⟨[mo'], ?_⟩
  simp [F_law, runB, e2, e0, hs, r6, e1, n1, n2, n3]
end K01
set_option maxHeartbeats 4000000
namespace K01
open PySem PySem.Spec PyProof.Rows L2 NW
theorem all_mk {l : PySem.W.OpenLaw} {w : World} {K : PySem.W.Frag} {h : Heap} {mg : Str → Option Value} {fa : Addr} (X : K.In h) (G : h.Ns mainGlobals mg) (hfa : mg "law" = some (.ref fa))
    {f0 f1 f2 f3 f4 f5 f6 : Addr} {od0 an0 od1 an1 od2 an2 od3 an3 od4 an4 od5 an5 od6 an6 : Option Addr} {sl0 sl1 sl2 sl3 sl4 sl5 sl6 : Array (Option Value)} {oc0 kV0 dc0 pm0 cd0 ct0 oc1 kV1 dc1 pm1 cd1 ct1 oc2 kV2 dc2 pm2 cd2 ct2 oc3 kV3 dc3 pm3 cd3 ct3 oc4 kV4 dc4 pm4 cd4 ct4 oc5 kV5 dc5 pm5 cd5 ct5 oc6 kV6 dc6 pm6 cd6 ct6 : Value} {t_LETTERS t_MOST_SIGNS : Tok}
    (a0 : PySem.W.nsIn K mainGlobals "_law_source" = some (some (.ref f0))) (l0 : K.lookup f0 = some ⟨oc0, od0, .func (PySem.W.fnOf "_law_source" "_law_source" (defArgs st__law_source) (defBody st__law_source) (defScope st__law_source) .none kV0 dc0 pm0 an0 cd0 ct0), sl0⟩) (c0 : PySem.W.codeIn K cd0 "_law_source" = true) (k0 : PySem.W.keepIn K (.ref f0) = true)
    (a1 : PySem.W.nsIn K mainGlobals "_law_draw" = some (some (.ref f1))) (l1 : K.lookup f1 = some ⟨oc1, od1, .func (PySem.W.fnOf "_law_draw" "_law_draw" (defArgs st__law_draw) (defBody st__law_draw) (defScope st__law_draw) .none kV1 dc1 pm1 an1 cd1 ct1), sl1⟩) (c1 : PySem.W.codeIn K cd1 "_law_draw" = true) (k1 : PySem.W.keepIn K (.ref f1) = true)
    (a2 : PySem.W.nsIn K mainGlobals "_law_of" = some (some (.ref f2))) (l2 : K.lookup f2 = some ⟨oc2, od2, .func (PySem.W.fnOf "_law_of" "_law_of" (defArgs st__law_of) (defBody st__law_of) (defScope st__law_of) .none kV2 dc2 pm2 an2 cd2 ct2), sl2⟩) (c2 : PySem.W.codeIn K cd2 "_law_of" = true) (k2 : PySem.W.keepIn K (.ref f2) = true)
    (a3 : PySem.W.nsIn K mainGlobals "_law_same" = some (some (.ref f3))) (l3 : K.lookup f3 = some ⟨oc3, od3, .func (PySem.W.fnOf "_law_same" "_law_same" (defArgs st__law_same) (defBody st__law_same) (defScope st__law_same) .none kV3 dc3 pm3 an3 cd3 ct3), sl3⟩) (c3 : PySem.W.codeIn K cd3 "_law_same" = true) (k3 : PySem.W.keepIn K (.ref f3) = true)
    (a4 : PySem.W.nsIn K mainGlobals "_law_is_name" = some (some (.ref f4))) (l4 : K.lookup f4 = some ⟨oc4, od4, .func (PySem.W.fnOf "_law_is_name" "_law_is_name" (defArgs st__law_is_name) (defBody st__law_is_name) (defScope st__law_is_name) .none kV4 dc4 pm4 an4 cd4 ct4), sl4⟩) (c4 : PySem.W.codeIn K cd4 "_law_is_name" = true) (k4 : PySem.W.keepIn K (.ref f4) = true)
    (a5 : PySem.W.nsIn K mainGlobals "is_name" = some (some (.ref f5))) (l5 : K.lookup f5 = some ⟨oc5, od5, .func (PySem.W.fnOf "is_name" "is_name" (defArgs st_is_name) (defBody st_is_name) (defScope st_is_name) .none kV5 dc5 pm5 an5 cd5 ct5), sl5⟩) (c5 : PySem.W.codeIn K cd5 "is_name" = true) (k5 : PySem.W.keepIn K (.ref f5) = true)
    (a6 : PySem.W.nsIn K mainGlobals "law" = some (some (.ref f6))) (l6 : K.lookup f6 = some ⟨oc6, od6, .func (PySem.W.fnOf "law" "law" (defArgs st_law) (defBody st_law) (defScope st_law) .none kV6 dc6 pm6 an6 cd6 ct6), sl6⟩) (c6 : PySem.W.codeIn K cd6 "law" = true) (k6 : PySem.W.keepIn K (.ref f6) = true)
    (zb_all : PySem.W.nsIn K mainGlobals "all" = some none)
    (zb_int : PySem.W.nsIn K mainGlobals "int" = some none)
    (zb_len : PySem.W.nsIn K mainGlobals "len" = some none)
    (zb_list : PySem.W.nsIn K mainGlobals "list" = some none)
    (zb_range : PySem.W.nsIn K mainGlobals "range" = some none)
    (zb_repr : PySem.W.nsIn K mainGlobals "repr" = some none)
    (zc_LETTERS : PySem.W.nsIn K mainGlobals "LETTERS" = some (some (.str "abcdefghijklmnopqrstuvwxyz" t_LETTERS)))
    (zc_MOST_SIGNS : PySem.W.nsIn K mainGlobals "MOST_SIGNS" = some (some (.int 8 t_MOST_SIGNS)))
    : ∃ fd : FuncData, (∀ (s : Shared) (v : Value), BindsTo s fd ⟨[v], []⟩ [("_law_script", v)]) ∧ ∀ base : Heap, K.In base → base.Ns mainGlobals mg → FnG l.prog w K mg base 3 fa fd ["_law_script"] (spD ⟨K, fun _ => 0⟩ 1 F_law) := by
  have e := hfa.symm.trans (PySem.W.mg_of X G a6)
  cases e
  let T : Tx K mg := ⟨dn_mk X G a0 l0 c0 k0 (fun _ _ _ _ _ _ us hl => match us, hl with | [_], _ => rfl),
    dn_mk X G a1 l1 c1 k1 (fun _ _ _ _ _ _ us hl => match us, hl with | [_, _], _ => rfl),
    dn_mk X G a2 l2 c2 k2 (fun _ _ _ _ _ _ us hl => match us, hl with | [_, _], _ => rfl),
    dn_mk X G a3 l3 c3 k3 (fun _ _ _ _ _ _ us hl => match us, hl with | [_, _], _ => rfl),
    dn_mk X G a4 l4 c4 k4 (fun _ _ _ _ _ _ us hl => match us, hl with | [_], _ => rfl),
    dn_mk X G a5 l5 c5 k5 (fun _ _ _ _ _ _ us hl => match us, hl with | [_], _ => rfl),
    dn_mk X G a6 l6 c6 k6 (fun _ _ _ _ _ _ us hl => match us, hl with | [_], _ => rfl),
    PySem.W.mg_none_of X G zb_all,
    PySem.W.mg_none_of X G zb_int,
    PySem.W.mg_none_of X G zb_len,
    PySem.W.mg_none_of X G zb_list,
    PySem.W.mg_none_of X G zb_range,
    PySem.W.mg_none_of X G zb_repr,
    ⟨_, PySem.W.mg_of X G zc_LETTERS⟩,
    ⟨_, PySem.W.mg_of X G zc_MOST_SIGNS⟩⟩
  exact ⟨_, fun s v => .of_eq rfl, fun base _ _ => ok_law T⟩
theorem walk {l : PySem.W.OpenLaw} {q : Program} {loose : List Str} {XP : (Str → Option Value) → Heap → Prop} {YP : World → Heap → Prop} {d : DefRec} {K : Params → PySem.W.Frag} (hn : l.most = some 63) (hdf : d.params.defaults = [])
    (hY : ∀ (w : World) (h : Heap), YP w h → (K w.params).In h)
    (hF : ∀ ns : List Int, ns.length ≤ 63 → ∃ z', F_law [.lst (ns.map .int)] [] = .ok (.bl true) z')
    (F : ∀ (w : World) (mg : Str → Option Value) (fa : Addr) (h : Heap), (K w.params).In h → h.Ns mainGlobals mg → mg d.name = some (.ref fa) →
      ∃ fd : FuncData, (∀ (s : Shared) (u : Value), BindsTo s fd ⟨[u], []⟩ [("_law_script", u)]) ∧ ∀ base : Heap, (K w.params).In base → base.Ns mainGlobals mg → FnG l.prog w (K w.params) mg base 3 fa fd ["_law_script"] (spD ⟨K w.params, fun _ => 0⟩ 1 F_law)) :
    PySem.W.WalkO q loose XP YP l.row.toRowW d [] (fun f vs => PySem.call f vs) :=
  walk_ofG (n := 63) (k := 3) (x := "_law_script") (sp := fun w => spD ⟨K w.params, fun _ => 0⟩ 1 F_law) hn (by decide) hdf ⟨rfl, by decide, by decide⟩ hY F fun w H a ns hl h1 h2 => law_sp (hF ns hl) h1 h2
end K01
open PySem PySem.W PyProof.Rows
set_option maxHeartbeats 0 in
theorem PySem.Challenge.cw_noughtwire_k01_names_of_letters_holds : PySem.Challenge.rw_noughtwire_k01_names_of_letters.Holds := by
  w_on; o_law; k_head; (case hw => w_witness2)
  k_fill
  refine K01.walk (l := PySem.Challenge.rw_noughtwire_k01_names_of_letters) rfl rfl (fun w h Y => PySem.W.kIn_of Y) K01.law_true ?F
  case F =>
    intro w mg fa h KX G hmg
    refine' K01.all_mk KX G hmg ?a0 ?l0 ?c0 ?k0 ?a1 ?l1 ?c1 ?k1 ?a2 ?l2 ?c2 ?k2 ?a3 ?l3 ?c3 ?k3 ?a4 ?l4 ?c4 ?k4 ?a5 ?l5 ?c5 ?k5 ?a6 ?l6 ?c6 ?k6 ?zb_all ?zb_int ?zb_len ?zb_list ?zb_range ?zb_repr ?zc_LETTERS ?zc_MOST_SIGNS
    (case a0 => k_is); (case l0 => k_is); (case c0 => k_is); (case k0 => k_is); (case a1 => k_is); (case l1 => k_is)
    (case c1 => k_is); (case k1 => k_is); (case a2 => k_is); (case l2 => k_is); (case c2 => k_is); (case k2 => k_is)
    (case a3 => k_is); (case l3 => k_is); (case c3 => k_is); (case k3 => k_is); (case a4 => k_is); (case l4 => k_is)
    (case c4 => k_is); (case k4 => k_is); (case a5 => k_is); (case l5 => k_is); (case c5 => k_is); (case k5 => k_is)
    (case a6 => k_is); (case l6 => k_is); (case c6 => k_is); (case k6 => k_is); (case zb_all => k_is); (case zb_int => k_is)
    (case zb_len => k_is); (case zb_list => k_is); (case zb_range => k_is); (case zb_repr => k_is); (case zc_LETTERS => k_is); (case zc_MOST_SIGNS => k_is)
