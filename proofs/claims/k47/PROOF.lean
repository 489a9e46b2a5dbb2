import PyProof.Rows.All
import Wide.All
import OpenK.AllK
import Wide.FinOn
import HandS.Base
import HandS.Call
import HandS.List
import HandS.Comp
import HandS.Ends
import HandS.Dict
import HandS.Iter
import HandS.Text
import HandS.Words
import HandS.WordsList
import HandS.WordsDict
import HandS.Exc
import HandS.TryOnly
import HandS.ExcOwn
import HandS.WordsExc
import HandS.TryMany
import HandS.Codes
import HandS.TupAny
import HandS.Style
import HandS.Star
import HandS.TupLe
import HandS.CallSlots
import PyProof.ReprRoads
import HandS.Lambda
import HandS.OwnEq
import HandS.ClsMeth
import KE.KExcSuper
import KE.KExcMake
import HandS.ExcInit
import HandS.ExcField
import HandS.Nested
import KE.KTryMore
import HandS.HotCalls
import HandS.Zip
import HandS.SetFor
import HandS.Strs
import HandS.TupMul
import KE.KLam
import KE.KNestM
import HandS.EndTab
import KE.KRevSl
import PyProof.Rows.RegFStrParts
import HandS.IsInst
import HandS.FStr
import HandS.Small
import KE.GoesEnum
import KE.GoesMore
import HandS.Deep
import HandS.TupSets
import HandS.SortOrd
import KE.KSortTupAny
import HandS.SetBool
import HandS.Set
import PyProof.WalksMore
import PyProof.MinMaxWalk
import PyProof.FString5
import KE.KStar
import PyProof.InstEq
import KE.KOpsOwn
import HandS.Records
import HandS.NoneIn
import PyProof.Conv_bool
import PySem.Challenge.RW_noughtwire_k47_texts_of_customs
set_option Elab.async false
set_option linter.all false
set_option maxRecDepth 100000
set_option maxHeartbeats 400000
/-! The data layer: values by their data, the mirror monad, what a state of a def's body says. -/
namespace NW
open PySem PySem.Spec PyProof.Rows L2
abbrev Sl := L2.St

/-- data: immutable things by their content; mob n: the n-th mutable thing of the store -/
inductive D where
  | non | bl (b : Bool) | int (i : Int) | str (x : Str)
  | tup (ds : List D) | lst (ds : List D)
  | obj (c : Nat) (ns : List Str) (ds : List D)
  | mob (n : Nat)
  deriving Inhabited
/-- a mutable thing -/
inductive MO where
  | lst (ds : List D) | ins (c : Nat) (fs : List (Str × D))
/-- what a slot owns -/
inductive OV where
  | lst (ds : List D)
/-- an exception: its class, its attributes -/
structure XD where
  c : Nat
  fs : List (Str × D)
/-- a slot's value: shared data, a list of its own, the exception that is handled, a function that was handed in -/
inductive DV where
  | sh (d : D) | own (o : OV) | exn (x : XD) | fnv (a : Addr)
abbrev Z := List MO
abbrev En := List (Option DV)
inductive Res (α : Type) where
  | ok (a : α) (z : Z) | exc (x : XD) (z : Z) | bad
abbrev M (α : Type) := En → Z → Res α
inductive SR where
  | nx (ρ : En) (z : Z) | rt (d : D) (z : Z) | bk (ρ : En) (z : Z) | ct (ρ : En) (z : Z) | exc (x : XD) (ρ : En) (z : Z) | bad
abbrev MS := En → Z → SR
abbrev FM := List D → Z → Res D

def Res.bind {α β : Type} (r : Res α) (f : α → Z → Res β) : Res β := match r with
  | .ok a z => f a z
  | .exc x z => .exc x z
  | .bad => .bad
/-- what is fixed for a law: the written part, the classes -/
structure Gam where
  K : PySem.W.Frag
  cls : Nat → Addr
  /-- the tables of code objects, with the names that they give -/
  tb : List (Addr × Str)
/-- the world: what never changes any more, and where the mutable things stand -/
structure W where
  R : Hp
  pl : List Addr

/-- a list that is read: tracked, known, or one of the written part -/
def SqS (K : PySem.W.Frag) (H : Hp) (a : Addr) (xs : List V) : Prop := Rd H a (.lst xs) ∨ ∃ (its : Array Value) (n : Nat), K.lookup a = some { cls := .type "list", data := .seq its n } ∧ its.size ≤ sizeLine ∧ Vals xs its.toList
theorem SqS.sq {K : PySem.W.Frag} {H : Hp} {a : Addr} {xs : List V} (h : SqS K H a xs) : SqL K H a xs := by
  rcases h with h | ⟨its, n, h1, h2, h3⟩
  · exact .inl h
  · exact .inr ⟨_, its, n, h1, rfl, rfl, rfl, h2, h3⟩
theorem SqS.of {K : PySem.W.Frag} {H : Hp} {a : Addr} {xs : List V} (h : H a = some (.lst xs)) : SqS K H a xs := .inl (.inl h)
mutual
inductive Rep (Γ : Gam) (w : W) : D → V → Prop
  | non : Rep Γ w .non .non
  | bl (b : Bool) : Rep Γ w (.bl b) (.bl b)
  | int (i : Int) : Rep Γ w (.int i) (.int i)
  | str (x : Str) : Rep Γ w (.str x) (.str x)
  | tup {a : Addr} {xs : List V} {ds : List D} : SqT Γ.K w.R a xs → RepL Γ w ds xs → Rep Γ w (.tup ds) (.ref a)
  | lst {a : Addr} {xs : List V} {ds : List D} : SqS Γ.K w.R a xs → RepL Γ w ds xs → Rep Γ w (.lst ds) (.ref a)
  | obj {a dx : Addr} {fvs : List (Str × V)} {c : Nat} {ns : List Str} {ds : List D} : w.R a = some (.ins (Γ.cls c) dx fvs) → fvs.map (·.1) = ns → RepL Γ w ds (fvs.map (·.2)) → Rep Γ w (.obj c ns ds) (.ref a)
  | mob {n : Nat} {a : Addr} : w.pl[n]? = some a → Rep Γ w (.mob n) (.ref a)
inductive RepL (Γ : Gam) (w : W) : List D → List V → Prop
  | nil : RepL Γ w [] []
  | cons {d : D} {ds : List D} {v : V} {vs : List V} : Rep Γ w d v → RepL Γ w ds vs → RepL Γ w (d :: ds) (v :: vs)
end

section
variable {Γ : Gam} {w w' : W}
theorem Rd.le {R R' : Hp} (h : ∀ a o, R a = some o → R' a = some o) {a : Addr} {o : HO} (r : Rd R a o) : Rd R' a o := by
  rcases r with r | ⟨u, r⟩
  · exact .inl (h _ _ r)
  · exact .inr ⟨u, h _ _ r⟩
theorem SqS.le {K : PySem.W.Frag} {R R' : Hp} (h : ∀ a o, R a = some o → R' a = some o) {a : Addr} {xs : List V} (r : SqS K R a xs) : SqS K R' a xs := r.imp (Rd.le h) id
theorem SqL.le {K : PySem.W.Frag} {R R' : Hp} (h : ∀ a o, R a = some o → R' a = some o) {a : Addr} {xs : List V} (r : SqL K R a xs) : SqL K R' a xs := r.imp (Rd.le h) id
theorem SqT.le {K : PySem.W.Frag} {R R' : Hp} (h : ∀ a o, R a = some o → R' a = some o) {a : Addr} {xs : List V} (r : SqT K R a xs) : SqT K R' a xs := r.imp (Rd.le h) id
mutual
theorem Rep.mono (hR : ∀ a o, w.R a = some o → w'.R a = some o) (hpl : ∀ (n : Nat) (a : Addr), w.pl[n]? = some a → w'.pl[n]? = some a) : ∀ (d : D) (v : V), Rep Γ w d v → Rep Γ w' d v
  | .non, _, h => by cases h; exact .non
  | .bl b, _, h => by cases h; exact .bl b
  | .int i, _, h => by cases h; exact .int i
  | .str x, _, h => by cases h; exact .str x
  | .tup ds, _, h => by
    cases h with
    | tup h1 h2 => exact .tup (SqT.le hR h1) (RepL.mono hR hpl ds _ h2)
  | .lst ds, _, h => by
    cases h with
    | lst h1 h2 => exact .lst (SqS.le hR h1) (RepL.mono hR hpl ds _ h2)
  | .obj c ns ds, _, h => by
    cases h with
    | obj h1 h2 h3 => exact .obj (hR _ _ h1) h2 (RepL.mono hR hpl ds _ h3)
  | .mob n, _, h => by
    cases h with
    | mob h1 => exact .mob (hpl _ _ h1)
theorem RepL.mono (hR : ∀ a o, w.R a = some o → w'.R a = some o) (hpl : ∀ (n : Nat) (a : Addr), w.pl[n]? = some a → w'.pl[n]? = some a) : ∀ (ds : List D) (vs : List V), RepL Γ w ds vs → RepL Γ w' ds vs
  | [], _, h => by cases h; exact .nil
  | d :: ds, _, h => by
    cases h with
    | cons h1 h2 => exact .cons (Rep.mono hR hpl d _ h1) (RepL.mono hR hpl ds _ h2)
end
theorem RepL.length : ∀ {ds : List D} {vs : List V}, RepL Γ w ds vs → vs.length = ds.length
  | [], _, h => by cases h; rfl
  | d :: ds, _, h => by
    cases h with
    | cons _ h2 => simp only [List.length_cons, RepL.length h2]
theorem RepL.get : ∀ {ds : List D} {vs : List V} {i : Nat} {d : D}, RepL Γ w ds vs → ds[i]? = some d → ∃ v, vs[i]? = some v ∧ Rep Γ w d v
  | [], _, _, _, _, e => by simp at e
  | d :: ds, _, 0, _, h, e => by
    cases h with
    | cons h1 _ => simp at e; subst e; exact ⟨_, rfl, h1⟩
  | d :: ds, _, i + 1, _, h, e => by
    cases h with
    | cons _ h2 =>
      obtain ⟨v, a, b⟩ := RepL.get (i := i) h2 (by simpa using e)
      exact ⟨v, by simpa using a, b⟩
theorem RepL.getV : ∀ {ds : List D} {vs : List V} {i : Nat} {v : V}, RepL Γ w ds vs → vs[i]? = some v → ∃ d, ds[i]? = some d ∧ Rep Γ w d v := fun {ds vs i v} h e => by
  have hi : i < ds.length := by
    rw [← h.length]; exact (List.getElem?_eq_some_iff.mp e).1
  obtain ⟨u, h1, h2⟩ := h.get (List.getElem?_eq_getElem hi)
  rw [e] at h1
  cases h1
  exact ⟨_, List.getElem?_eq_getElem hi, h2⟩
theorem RepL.append : ∀ {ds es : List D} {vs us : List V}, RepL Γ w ds vs → RepL Γ w es us → RepL Γ w (ds ++ es) (vs ++ us)
  | [], _, _, _, h, k => by cases h; exact k
  | d :: ds, _, _, _, h, k => by
    cases h with
    | cons h1 h2 => exact .cons h1 (RepL.append h2 k)
theorem RepL.take : ∀ {ds : List D} {vs : List V} (n : Nat), RepL Γ w ds vs → RepL Γ w (ds.take n) (vs.take n)
  | _, _, 0, _ => by rw [List.take_zero, List.take_zero]; exact .nil
  | [], _, _ + 1, h => by cases h; exact .nil
  | d :: ds, _, n + 1, h => by
    cases h with
    | cons h1 h2 => exact .cons h1 (RepL.take n h2)
theorem RepL.drop : ∀ {ds : List D} {vs : List V} (n : Nat), RepL Γ w ds vs → RepL Γ w (ds.drop n) (vs.drop n)
  | _, _, 0, h => h
  | [], _, _ + 1, h => by cases h; exact .nil
  | d :: ds, _, n + 1, h => by
    cases h with
    | cons h1 h2 => exact RepL.drop n h2
theorem RepL.reverse : ∀ {ds : List D} {vs : List V}, RepL Γ w ds vs → RepL Γ w ds.reverse vs.reverse
  | [], _, h => by cases h; exact .nil
  | d :: ds, _, h => by
    cases h with
    | cons h1 h2 => rw [List.reverse_cons, List.reverse_cons]; exact (RepL.reverse h2).append (.cons h1 .nil)
theorem RepL.set : ∀ {ds : List D} {vs : List V} {d : D} {v : V} (i : Nat), RepL Γ w ds vs → Rep Γ w d v → RepL Γ w (ds.set i d) (vs.set i v)
  | [], _, _, _, _, h, _ => by cases h; exact .nil
  | _ :: _, _, _, _, 0, h, k => by
    cases h with
    | cons h1 h2 => exact .cons k h2
  | _ :: _, _, _, _, i + 1, h, k => by
    cases h with
    | cons h1 h2 => exact .cons h1 (RepL.set i h2 k)
end

/-- what stands at a mutable thing's place -/
def ObRep (Γ : Gam) (w : W) (H : Hp) (a : Addr) : MO → Prop
  | .lst ds => ∃ xs, H a = some (.lst xs) ∧ RepL Γ w ds xs
  | .ins c fs => ∃ dx fvs, H a = some (.ins (Γ.cls c) dx fvs) ∧ fvs.map (·.1) = fs.map (·.1) ∧ RepL Γ w (fs.map (·.2)) (fvs.map (·.2))
structure WI (Γ : Gam) (w : W) (z : Z) (H : Hp) : Prop where
  le : ∀ a o, w.R a = some o → H a = some o
  len : w.pl.length = z.length
  st : ∀ (n : Nat) (mo : MO), z[n]? = some mo → ∃ a, w.pl[n]? = some a ∧ w.R a = none ∧ ObRep Γ w H a mo
  nd : w.pl.Nodup
  nt : ∀ a o, w.R a = some o → ∀ ps, o ≠ .tbl ps
  tb : LamX.Tabs Γ.tb H
/-- from (w, H) to (w', H') nothing but the mutable things of w may have changed -/
structure Step (w : W) (H : Hp) (w' : W) (H' : Hp) : Prop where
  r : ∀ a o, w.R a = some o → w'.R a = some o
  t : ∀ (n : Nat) (a : Addr), w.pl[n]? = some a → w'.pl[n]? = some a
  k : ∀ a o, H a = some o → (∀ ps, o ≠ .tbl ps) → a ∉ w.pl → H' a = some o
  f : ∀ a o, H a = some o → w.R a = none → w'.R a = none
  n : ∀ a, a ∈ w'.pl → a ∈ w.pl ∨ H a = none
  y : ∀ a o, H a = some o → ∃ o', H' a = some o'
theorem Step.refl (w : W) (H : Hp) : Step w H w H := ⟨fun _ _ h => h, fun _ _ h => h, fun _ _ h _ _ => h, fun _ _ _ h => h, fun _ h => .inl h, fun _ _ h => ⟨_, h⟩⟩
theorem Step.trans {w w1 w2 : W} {H H1 H2 : Hp} (a : Step w H w1 H1) (b : Step w1 H1 w2 H2) : Step w H w2 H2 where
  r := fun c o h => b.r c o (a.r c o h)
  t := fun n c h => b.t n c (a.t n c h)
  k := fun c o h ht hn => b.k c o (a.k c o h ht hn) ht fun hm => by
    rcases a.n c hm with q | q
    · exact hn q
    · rw [h] at q; cases q
  f := fun c o h hn => by
    obtain ⟨o', h'⟩ := a.y c o h
    exact b.f c o' h' (a.f c o h hn)
  n := fun c hm => by
    rcases b.n c hm with q | q
    · exact a.n c q
    · right
      cases e : H c with
      | none => rfl
      | some o => obtain ⟨o', h'⟩ := a.y c o e; rw [h'] at q; cases q
  y := fun c o h => let ⟨o', h'⟩ := a.y c o h; b.y c o' h'
/-- the world has grown -/
structure Ext (w w' : W) : Prop where
  r : ∀ a o, w.R a = some o → w'.R a = some o
  t : ∀ (n : Nat) (a : Addr), w.pl[n]? = some a → w'.pl[n]? = some a
theorem Step.ext {w w' : W} {H H' : Hp} (s : Step w H w' H') : Ext w w' := ⟨s.r, s.t⟩
theorem Ext.refl (w : W) : Ext w w := ⟨fun _ _ h => h, fun _ _ h => h⟩
theorem Ext.trans {a b c : W} (x : Ext a b) (y : Ext b c) : Ext a c := ⟨fun _ _ h => y.r _ _ (x.r _ _ h), fun _ _ h => y.t _ _ (x.t _ _ h)⟩
theorem Rep.ext {Γ : Gam} {w w' : W} (s : Ext w w') {d : D} {v : V} (h : Rep Γ w d v) : Rep Γ w' d v := Rep.mono s.r s.t d v h
theorem RepL.ext {Γ : Gam} {w w' : W} (s : Ext w w') {d : List D} {v : List V} (h : RepL Γ w d v) : RepL Γ w' d v := RepL.mono s.r s.t d v h
theorem Rep.step {Γ : Gam} {w w' : W} {H H' : Hp} (s : Step w H w' H') {d : D} {v : V} (h : Rep Γ w d v) : Rep Γ w' d v := Rep.mono s.r s.t d v h
theorem RepL.step {Γ : Gam} {w w' : W} {H H' : Hp} (s : Step w H w' H') {d : List D} {v : List V} (h : RepL Γ w d v) : RepL Γ w' d v := RepL.mono s.r s.t d v h

/-- what stands at an owned thing's place -/
def OwnRep (Γ : Gam) (w : W) (H : Hp) (a : Addr) : OV → Prop
  | .lst ds => ∃ xs, H a = some (.lst xs) ∧ RepL Γ w ds xs
theorem OwnRep.there {Γ : Gam} {w : W} {H : Hp} {a : Addr} {o : OV} (h : OwnRep Γ w H a o) : ∃ u, H a = some u := by
  cases o with
  | lst ds => obtain ⟨xs, h, _⟩ := h; exact ⟨_, h⟩
theorem OwnRep.step {Γ : Gam} {w w' : W} {H H' : Hp} {a : Addr} {o : OV} (h : OwnRep Γ w H a o) (s : Step w H w' H') (hn : a ∉ w.pl) : OwnRep Γ w' H' a o := by
  cases o with
  | lst ds => obtain ⟨xs, h, r⟩ := h; exact ⟨xs, s.k _ _ h (fun _ => nofun) hn, r.step s⟩
/-- read by value, of this moment and as long as the owner leaves it -/
inductive RepB (Γ : Gam) (w : W) (H : Hp) : D → V → Prop
  | of {d : D} {v : V} : Rep Γ w d v → RepB Γ w H d v
  | own {a : Addr} {ds : List D} : OwnRep Γ w H a (.lst ds) → w.R a = none → a ∉ w.pl → RepB Γ w H (.lst ds) (.ref a)
theorem RepB.step {Γ : Gam} {w w' : W} {H H' : Hp} (s : Step w H w' H') {d : D} {v : V} (h : RepB Γ w H d v) : RepB Γ w' H' d v := by
  cases h with
  | of h => exact .of (h.step s)
  | own h1 h2 h3 =>
    obtain ⟨u, hu⟩ := h1.there
    refine .own (h1.step s h3) (s.f _ _ hu h2) fun hm => ?_
    rcases s.n _ hm with q | q
    · exact h3 q
    · rw [hu] at q; cases q

/-- where a def's body began -/
structure Bs where
  w : W
  H : Hp
  /-- the exception that is handled: where it stands, its class, its dict -/
  px : Addr → Value → Addr → Prop := fun _ _ _ => False
abbrev bs (w : W) (H : Hp) : Bs := ⟨w, H, fun _ _ _ => False⟩
structure SI (Γ : Gam) (B : Bs) (w : W) (ρ : En) (z : Z) (σ : Sl) (H : Hp) : Prop where
  wi : WI Γ w z H
  st : Step B.w B.H w H
  len : ρ.length = σ.length
  sh : ∀ (i : Nat) (d : D), ρ[i]? = some (some (.sh d)) → ∃ v, σ[i]? = some (some v) ∧ Rep Γ w d v
  own : ∀ (i : Nat) (o : OV), ρ[i]? = some (some (.own o)) → ∃ a, σ[i]? = some (some (.ref a)) ∧ OwnRep Γ w H a o ∧ w.R a = none ∧ a ∉ w.pl ∧ B.H a = none
  dis : ∀ (i j : Nat) (o u : OV) (a : Addr), ρ[i]? = some (some (.own o)) → ρ[j]? = some (some (.own u)) → σ[i]? = some (some (.ref a)) → σ[j]? = some (some (.ref a)) → i = j
  exn : ∀ (i : Nat) (x : XD), ρ[i]? = some (some (.exn x)) → ∃ a dx fvs, σ[i]? = some (some (.ref a)) ∧ B.px a (.ref (Γ.cls x.c)) dx ∧ w.R dx = some (.xd fvs) ∧ fvs.map (·.1) = x.fs.map (·.1) ∧ RepL Γ w (x.fs.map (·.2)) (fvs.map (·.2))
  fnv : ∀ (i : Nat) (a : Addr), ρ[i]? = some (some (.fnv a)) → σ[i]? = some (some (.ref a))

section
variable {Γ : Gam} {B : Bs} {w w' : W} {ρ : En} {z z' : Z} {σ : Sl} {H H' : Hp}
/-- the slots carried along a step of the world -/
theorem SI.carry (S : SI Γ B w ρ z σ H) (wi : WI Γ w' z' H') (s : Step w H w' H') : SI Γ B w' ρ z' σ H' where
  wi := wi
  st := S.st.trans s
  len := S.len
  sh := fun i d h => let ⟨v, a, b⟩ := S.sh i d h; ⟨v, a, b.step s⟩
  own := fun i o h => by
    obtain ⟨a, h1, h2, h3, h4, h5⟩ := S.own i o h
    obtain ⟨u, hu⟩ := h2.there
    refine ⟨a, h1, h2.step s h4, s.f _ _ hu h3, fun hm => ?_, h5⟩
    rcases s.n _ hm with q | q
    · exact h4 q
    · rw [hu] at q; cases q
  dis := S.dis
  exn := fun i x h => by
    obtain ⟨a, dx, fvs, h1, h2, h3, h4, h5⟩ := S.exn i x h
    exact ⟨a, dx, fvs, h1, h2, s.r _ _ h3, h4, h5.step s⟩
  fnv := S.fnv
theorem upd_cases {H : Hp} {p a : Addr} {o u : HO} (h : upd H p o a = some u) : (a = p ∧ u = o) ∨ (a ≠ p ∧ H a = some u) := by
  by_cases e : a = p
  · subst e; rw [upd_same] at h; cases h; exact .inl ⟨rfl, rfl⟩
  · rw [upd_ne e] at h; exact .inr ⟨e, h⟩
theorem ObRep.keep {a : Addr} {mo : MO} (h : ObRep Γ w H a mo) (hR : ∀ a o, w.R a = some o → w'.R a = some o) (hpl : ∀ (n : Nat) (a : Addr), w.pl[n]? = some a → w'.pl[n]? = some a) (e : ∀ o, H a = some o → H' a = some o) : ObRep Γ w' H' a mo := by
  cases mo with
  | lst ds => obtain ⟨xs, h, r⟩ := h; exact ⟨xs, e _ h, RepL.mono hR hpl _ _ r⟩
  | ins c fs => obtain ⟨dx, fvs, h, k, r⟩ := h; exact ⟨dx, fvs, e _ h, k, RepL.mono hR hpl _ _ r⟩
theorem WI.th (I : WI Γ w z H) {a : Addr} (h : a ∈ w.pl) : ∃ o, H a = some o ∧ w.R a = none := by
  obtain ⟨n, hn, e⟩ := List.mem_iff_getElem.mp h
  have hz : n < z.length := by rw [← I.len]; exact hn
  obtain ⟨b, h1, h2, h3⟩ := I.st n _ (List.getElem?_eq_getElem hz)
  rw [List.getElem?_eq_getElem hn, e] at h1
  cases h1
  refine (match z[n], h3 with
    | .lst ds, ⟨xs, q, _⟩ => ⟨_, q, h2⟩
    | .ins c fs, ⟨dx, fvs, q, _⟩ => ⟨_, q, h2⟩)
/-- a new thing that never changes -/
theorem Tabs.new {T : List (Addr × Str)} (t : LamX.Tabs T H) {p : Addr} {o : HO} (hp : H p = none) : LamX.Tabs T (upd H p o) := t.ext fun b u h => by rw [upd_ne (ne_of_none h hp)]; exact h
theorem Tabs.mut {T : List (Addr × Str)} (t : LamX.Tabs T H) {p : Addr} {o o' : HO} (hp : H p = some o') (h1 : ∀ ps, o' ≠ .tbl ps) (h2 : ∀ φ, o' ≠ .ext φ) : LamX.Tabs T (upd H p o) := fun b hb => by
  obtain ⟨ps, g1, g2, g3⟩ := t b hb
  have n1 : b.1 ≠ p := fun e => by rw [e, hp] at g1; exact h1 ps (Option.some.inj g1)
  refine ⟨ps, by rw [upd_ne n1]; exact g1, g2, fun pos cv hc => ?_⟩
  obtain ⟨c, e1, e2⟩ := g3 pos cv hc
  have n2 : c ≠ p := fun e => by rw [e, hp] at e2; exact h2 _ (Option.some.inj e2)
  exact ⟨c, e1, by rw [upd_ne n2]; exact e2⟩
theorem Tabs.mutL {T : List (Addr × Str)} (t : LamX.Tabs T H) {p : Addr} {o : HO} (hp : (∃ xs, H p = some (.lst xs)) ∨ ∃ C dx fs, H p = some (.ins C dx fs)) : LamX.Tabs T (upd H p o) := by
  rcases hp with ⟨xs, hp⟩ | ⟨C, dx, fs, hp⟩
  · exact Tabs.mut t hp (fun _ => nofun) fun _ => nofun
  · exact Tabs.mut t hp (fun _ => nofun) fun _ => nofun
theorem WI.new (I : WI Γ w z H) {p : Addr} {o : HO} (hp : H p = none) (ho : ∀ ps, o ≠ .tbl ps := by intro _; nofun) : WI Γ ⟨upd w.R p o, w.pl⟩ z (upd H p o) ∧ Step w H ⟨upd w.R p o, w.pl⟩ (upd H p o) := by
  have hpR : w.R p = none := by
    cases e : w.R p with
    | none => rfl
    | some u => have := I.le _ _ e; rw [hp] at this; cases this
  have ne : ∀ {a : Addr} {u : HO}, H a = some u → a ≠ p := fun h => ne_of_none h hp
  have hR : ∀ a u, w.R a = some u → upd w.R p o a = some u := fun a u h => by rw [upd_ne (ne_of_none h hpR)]; exact h
  refine ⟨⟨fun a u h => ?_, I.len, fun n mo h => ?_, I.nd, fun a u h => ?_, Tabs.new I.tb hp⟩, ⟨hR, fun _ _ h => h, fun a u h _ _ => by rw [upd_ne (ne h)]; exact h, fun a u h k => ?_, fun _ h => .inl h, fun a u h => ⟨u, by rw [upd_ne (ne h)]; exact h⟩⟩⟩
  · rcases upd_cases h with ⟨rfl, rfl⟩ | ⟨e, h⟩
    · exact upd_same
    · rw [upd_ne e]; exact I.le _ _ h
  · obtain ⟨a, h1, h2, h3⟩ := I.st n mo h
    have ha : a ≠ p := by
      obtain ⟨u, hu, _⟩ := I.th (List.mem_of_getElem? h1)
      exact ne hu
    exact ⟨a, h1, by show upd w.R p o a = none; rw [upd_ne ha]; exact h2, h3.keep hR (fun _ _ h => h) fun u hu => by rw [upd_ne ha]; exact hu⟩
  · rcases upd_cases h with ⟨rfl, rfl⟩ | ⟨_, h⟩
    · exact ho
    · exact I.nt _ _ h
  · show upd w.R p o a = none
    rw [upd_ne (ne h)]; exact k
/-- a new thing that is not in the world yet -/
theorem WI.newO (I : WI Γ w z H) {p : Addr} {o : HO} (hp : H p = none) : WI Γ w z (upd H p o) ∧ Step w H w (upd H p o) := by
  have ne : ∀ {a : Addr} {u : HO}, H a = some u → a ≠ p := fun h => ne_of_none h hp
  have kH : ∀ a u, H a = some u → upd H p o a = some u := fun a u h => by rw [upd_ne (ne h)]; exact h
  refine ⟨⟨fun a u h => kH _ _ (I.le _ _ h), I.len, fun n mo h => ?_, I.nd, I.nt, Tabs.new I.tb hp⟩, ⟨fun _ _ h => h, fun _ _ h => h, fun a u h _ _ => kH _ _ h, fun a u h k => k, fun _ h => .inl h, fun a u h => ⟨u, kH _ _ h⟩⟩⟩
  obtain ⟨a, h1, h2, h3⟩ := I.st n mo h
  exact ⟨a, h1, h2, h3.keep (fun _ _ h => h) (fun _ _ h => h) fun u hu => kH _ _ hu⟩
/-- what stands outside the world is frozen into it -/
theorem WI.freeze (I : WI Γ w z H) {p : Addr} {o : HO} (hp : H p = some o) (hR : w.R p = none) (hpl : p ∉ w.pl) (ho : ∀ ps, o ≠ .tbl ps := by intro _; nofun) : WI Γ ⟨upd w.R p o, w.pl⟩ z H := by
  have kR : ∀ a u, w.R a = some u → upd w.R p o a = some u := fun a u h => by rw [upd_ne (ne_of_none h hR)]; exact h
  refine ⟨fun a u h => ?_, I.len, fun n mo h => ?_, I.nd, fun a u h => ?_, I.tb⟩
  · rcases upd_cases h with ⟨rfl, rfl⟩ | ⟨e, h⟩
    · exact hp
    · exact I.le _ _ h
  · obtain ⟨a, h1, h2, h3⟩ := I.st n mo h
    have ha : a ≠ p := fun e => hpl (e ▸ List.mem_of_getElem? h1)
    exact ⟨a, h1, by show upd w.R p o a = none; rw [upd_ne ha]; exact h2, h3.keep kR (fun _ _ h => h) fun u hu => hu⟩
  · rcases upd_cases h with ⟨rfl, rfl⟩ | ⟨_, h⟩
    · exact ho
    · exact I.nt _ _ h
end

/-! ### readings by the mirror -/
section
variable (Γ : Gam) (B : Bs) (Wx : WX)
/-- an exception's attributes lie in its own dict -/
def RepX (w : W) (x : XD) (cls : Value) (dd : Option Addr) (H : Hp) : Prop :=
  cls = .ref (Γ.cls x.c) ∧ ∃ dx fvs, dd = some dx ∧ H dx = some (.xd fvs) ∧ w.R dx = some (.xd fvs) ∧ fvs.map (·.1) = x.fs.map (·.1) ∧ RepL Γ w (x.fs.map (·.2)) (fvs.map (·.2))
def resTo {α : Type} (w : W) (ρ : En) (σ : Sl) (H : Hp) (r : Res α) (Q : α → W → Z → Hp → Prop) : Prop := match r with
  | .ok a z' => ∀ w' H', SI Γ B w' ρ z' σ H' → Step w H w' H' → Q a w' z' H'
  | .exc x z' => ∀ cls dd w' H', SI Γ B w' ρ z' σ H' → Step w H w' H' → RepX Γ w' x cls dd H' → Wx cls dd σ H'
  | .bad => False
def tD (m : M D) : TE := fun σ H Q => ∃ w ρ z, SI Γ B w ρ z σ H ∧ resTo Γ B Wx w ρ σ H (m ρ z) fun d w' _ H' => ∀ v, Rep Γ w' d v → Q v H'
def tB (m : M D) : TE := fun σ H Q => ∃ w ρ z, SI Γ B w ρ z σ H ∧ resTo Γ B Wx w ρ σ H (m ρ z) fun d w' _ H' => ∀ v, RepB Γ w' H' d v → Q v H'
/-- a new list of its own -/
def tF (m : M (List D)) : TE := fun σ H Q => ∃ w ρ z, SI Γ B w ρ z σ H ∧ resTo Γ B Wx w ρ σ H (m ρ z) fun ds w' _ H' => ∀ p, OwnRep Γ w' H' p (.lst ds) → w'.R p = none → p ∉ w'.pl → H p = none → Q (.ref p) H'
def tDT (m : M Bool) : TT := fun σ H Q => ∃ w ρ z, SI Γ B w ρ z σ H ∧ resTo Γ B Wx w ρ σ H (m ρ z) fun b _ _ H' => Q b H'
def tDA (m : M (List D)) : TA := fun σ H Q => ∃ w ρ z, SI Γ B w ρ z σ H ∧ resTo Γ B Wx w ρ σ H (m ρ z) fun ds w' _ H' => ∀ vs, RepL Γ w' ds vs → Q vs H'
def tBA (m : M (List D)) : TA := fun σ H Q => ∃ w ρ z, SI Γ B w ρ z σ H ∧ resTo Γ B Wx w ρ σ H (m ρ z) fun ds w' _ H' => ∀ vs, Paired (fun d v => RepB Γ w' H' d v) ds vs → Q vs H'
/-- what a returned value is to be: data; or a new list of its own -/
abbrev RTT := W → Hp → D → V → Prop
abbrev RTn : RTT := fun w _ d v => Rep Γ w d v
abbrev RTf : RTT := fun w H d v => ∃ ds p, d = .lst ds ∧ v = .ref p ∧ OwnRep Γ w H p (.lst ds) ∧ w.R p = none ∧ p ∉ w.pl ∧ B.H p = none
variable (RT : RTT)
def srTo (w : W) (D : Ends) (r : SR) : Prop := match r with
  | .nx ρ z => ∀ σ w' H', SI Γ B w' ρ z σ H' → Ext w w' → D.nx σ H'
  | .rt d z => ∀ v w' H', WI Γ w' z H' → Step B.w B.H w' H' → RT w' H' d v → D.rt v H'
  | .bk ρ z => ∀ σ w' H', SI Γ B w' ρ z σ H' → Ext w w' → D.bk σ H'
  | .ct ρ z => ∀ σ w' H', SI Γ B w' ρ z σ H' → Ext w w' → D.ct σ H'
  | .exc x ρ z => ∀ cls dd σ w' H', SI Γ B w' ρ z σ H' → RepX Γ w' x cls dd H' → Wx cls dd σ H'
  | .bad => False
def tDS (ms : MS) : TS := fun D σ H => ∃ w ρ z, SI Γ B w ρ z σ H ∧ srTo Γ B Wx RT w D (ms ρ z)
end
end NW
set_option maxHeartbeats 400000
/-! Expressions: names, constants, operators, comparisons, tests, displays, subscripts. -/
namespace NW
open PySem PySem.Spec PyProof.Rows L2

/-! ### weakening -/
theorem pe_weak {X : Cx} {e : Expr} {t t' : TE} (h : PE X e t) (k : ∀ σ H Q, t' σ H Q → t σ H Q) : PE X e t' := ⟨fun p s σ H Q I q => h.run p s σ H Q I (k _ _ _ q)⟩
theorem pt_weak {X : Cx} {e : Expr} {t t' : TT} (h : PT X e t) (k : ∀ σ H Q, t' σ H Q → t σ H Q) : PT X e t' := ⟨fun p s σ H Q I q => h.run p s σ H Q I (k _ _ _ q)⟩
theorem pw_weak {X : Cx} {e : Expr} {t t' : TT} (h : PW X e t) (k : ∀ σ H Q, t' σ H Q → t σ H Q) : PW X e t' := ⟨fun wh p s σ H Q I q => h.run wh p s σ H Q I (k _ _ _ q)⟩
theorem pts_weak {X : Cx} {e : List Expr} {t t' : TT} (h : PTs X e t) (k : ∀ σ H Q, t' σ H Q → t σ H Q) : PTs X e t' := ⟨fun p s σ H Q I q => h.run p s σ H Q I (k _ _ _ q)⟩
theorem pa_weak {X : Cx} {e : List Expr} {t t' : TA} (h : PA X e t) (k : ∀ σ H Q, t' σ H Q → t σ H Q) : PA X e t' := ⟨fun o p s σ H Q I q => h.run o p s σ H Q I (k _ _ _ q)⟩
theorem ps_weak {X : Cx} {e : Stmt} {t t' : TS} (h : PS X e t) (k : ∀ D σ H, t' D σ H → t D σ H) : PS X e t' := ⟨fun p s σ H Q I q => h.run p s σ H Q I (k _ _ _ q)⟩
theorem pss_weak {X : Cx} {e : List Stmt} {t t' : TS} (h : PSs X e t) (k : ∀ D σ H, t' D σ H → t D σ H) : PSs X e t' := ⟨fun p s σ H Q I q => h.run p s σ H Q I (k _ _ _ q)⟩

/-! ### the mirror's words -/
section
variable {α β : Type}
def mRet (a : α) : M α := fun _ z => .ok a z
def mBad : M α := fun _ _ => .bad
def mBind (m : M α) (f : α → M β) : M β := fun ρ z => (m ρ z).bind fun a z1 => f a ρ z1
/-- by the store as it is -/
def mOpt (f : Z → Option α) : M α := fun _ z => match f z with
  | some a => .ok a z
  | none => .bad
def mVar (i : Nat) : M D := fun ρ z => match ρ[i]? with
  | some (some (.sh d)) => .ok d z
  | _ => .bad
def mOwn (i : Nat) : M D := fun ρ z => match ρ[i]? with
  | some (some (.own (.lst ds))) => .ok (.lst ds) z
  | _ => .bad
def mOp2 (f : Z → D → D → Option α) (a b : M D) : M α := mBind a fun x => mBind b fun y => mOpt fun z => f z x y
def mOp1 (f : Z → D → Option α) (a : M D) : M α := mBind a fun x => mOpt fun z => f z x
def mIf (c : M Bool) (a b : M α) : M α := mBind c fun k => if k = true then a else b
def mNot (c : M Bool) : M Bool := mBind c fun k => mRet (!k)
def mAnd (a b : M Bool) : M Bool := mBind a fun k => if k = true then b else mRet false
def mOr (a b : M Bool) : M Bool := mBind a fun k => if k = true then mRet true else b
def mBl (a : M Bool) : M D := mBind a fun k => mRet (.bl k)
def mNil : M (List α) := mRet []
def mCons (a : M α) (r : M (List α)) : M (List α) := mBind a fun x => mBind r fun xs => mRet (x :: xs)
def mMap (f : α → β) (a : M α) : M β := mBind a fun x => mRet (f x)
end

section
variable {Γ : Gam} {B : Bs} {Wx : WX} {w : W} {ρ : En} {σ : Sl} {H : Hp} {α β : Type}
theorem resTo.mono {r : Res α} {Q Q' : α → W → Z → Hp → Prop} (h : resTo Γ B Wx w ρ σ H r Q) (k : ∀ a w' z' H', SI Γ B w' ρ z' σ H' → Step w H w' H' → Q a w' z' H' → Q' a w' z' H') : resTo Γ B Wx w ρ σ H r Q' := by
  cases r with
  | ok a z => exact fun w' H' S s => k _ _ _ _ S s (h w' H' S s)
  | exc x z => exact h
  | bad => exact h
/-- the first part, then the rest from there -/
theorem resTo.bind {r : Res α} {f : α → Z → Res β} {Q : β → W → Z → Hp → Prop} (h : resTo Γ B Wx w ρ σ H (r.bind f) Q) :
    resTo Γ B Wx w ρ σ H r fun a w1 z1 H1 => SI Γ B w1 ρ z1 σ H1 ∧ Step w H w1 H1 ∧ resTo Γ B Wx w1 ρ σ H1 (f a z1) Q := by
  cases r with
  | ok a z1 =>
    have h' : resTo Γ B Wx w ρ σ H (f a z1) Q := h
    refine fun w1 H1 S s => ⟨S, s, ?_⟩
    cases e : f a z1 with
    | ok b z2 => rw [e] at h'; exact fun w2 H2 S2 s2 => h' w2 H2 S2 (s.trans s2)
    | exc x z2 => rw [e] at h'; exact fun cls dd w2 H2 S2 s2 q => h' cls dd w2 H2 S2 (s.trans s2) q
    | bad => rw [e] at h'; exact h'
  | exc x z => exact h
  | bad => exact h
theorem resTo.obind {f : Z → Option α} {z : Z} {g : α → Z → Res β} {Q : β → W → Z → Hp → Prop} (h : resTo Γ B Wx w ρ σ H ((mOpt f ρ z).bind g) Q) : ∃ a, f z = some a ∧ resTo Γ B Wx w ρ σ H (g a z) Q := by
  unfold mOpt at h
  cases e : f z with
  | some a => rw [e] at h; exact ⟨a, rfl, h⟩
  | none => rw [e] at h; exact h.elim
/-- at once -/
theorem resTo.ok {a : α} {z : Z} {Q : α → W → Z → Hp → Prop} (S : SI Γ B w ρ z σ H) (h : resTo Γ B Wx w ρ σ H (.ok a z) Q) : Q a w z H := h w H S (Step.refl _ _)
theorem resTo.opt {f : Z → Option α} {z : Z} {Q : α → W → Z → Hp → Prop} (h : resTo Γ B Wx w ρ σ H (mOpt f ρ z) Q) : ∃ a, f z = some a ∧ resTo Γ B Wx w ρ σ H (.ok a z) Q := by
  unfold mOpt at h
  cases e : f z with
  | some a => rw [e] at h; exact ⟨a, rfl, h⟩
  | none => rw [e] at h; exact h.elim
end

section
variable {X : Cx} {Γ : Gam} {B : Bs} {Wx : WX} {e a b : Expr} {m ma mb : M D} {pos : Pos}
/-- data that stays, read by value -/
theorem de_b (h : PE X e (tD Γ B Wx m)) : PE X e (tB Γ B Wx m) := pe_weak h fun σ H Q ⟨w, ρ, z, S, q⟩ => ⟨w, ρ, z, S, q.mono fun d w' z' H' _ _ k v r => k v (.of r)⟩
theorem d_var (i : Nat) {x : Str} (hN : X.N[i]? = some x := by rfl) (hv : Vis X.env.scope x := by first | exact Or.inl rfl | exact Or.inr (Or.inl rfl) | exact Or.inr (Or.inr rfl)) (hd : (x == ("__debug__" : Str)) = false := by decide)
    (hcd : (x == ("__classdict__" : Str)) = false := by decide) : PE X (.Name x pos) (tD Γ B Wx (mVar i)) := pe_weak (pe_var hN hv hd hcd) fun σ H Q ⟨w, ρ, z, S, q⟩ => by
  unfold mVar at q
  split at q
  · rename_i d e
    obtain ⟨v, h1, h2⟩ := S.sh _ _ e
    exact ⟨v, h1, q.ok S v h2⟩
  · exact q.elim
/-- an owned list, read by value -/
theorem b_own (i : Nat) {x : Str} (hN : X.N[i]? = some x := by rfl) (hv : Vis X.env.scope x := by first | exact Or.inl rfl | exact Or.inr (Or.inl rfl) | exact Or.inr (Or.inr rfl)) (hd : (x == ("__debug__" : Str)) = false := by decide)
    (hcd : (x == ("__classdict__" : Str)) = false := by decide) : PE X (.Name x pos) (tB Γ B Wx (mOwn i)) := pe_weak (pe_var hN hv hd hcd) fun σ H Q ⟨w, ρ, z, S, q⟩ => by
  unfold mOwn at q
  split at q
  · rename_i ds e
    obtain ⟨v, h1, h2, h3, h4, _⟩ := S.own _ _ e
    exact ⟨_, h1, q.ok S _ (.own h2 h3 h4)⟩
  · exact q.elim
theorem d_con {v : V} {d : D} (h : PE X e (tC v)) (r : ∀ w, Rep Γ w d v) : PE X e (tD Γ B Wx (mRet d)) := pe_weak h fun σ H Q ⟨w, ρ, z, S, q⟩ => q.ok S v (r w)
theorem d_int {i : Int} {j : Nat} : PE X (.Constant (.int i) j pos) (tD Γ B Wx (mRet (.int i))) := d_con pe_int fun _ => .int i
theorem d_bl {b : Bool} {j : Nat} : PE X (.Constant (.bool b) j pos) (tD Γ B Wx (mRet (.bl b))) := d_con pe_bl fun _ => .bl b
theorem d_non {j : Nat} : PE X (.Constant .none j pos) (tD Γ B Wx (mRet .non)) := d_con pe_non fun _ => .non
theorem d_str {x : Str} {j : Nat} : PE X (.Constant (.str x) j pos) (tD Γ B Wx (mRet (.str x))) := d_con pe_str fun _ => .str x
/-- a module's constant -/
theorem d_glob {x : Str} {v : V} {u : Value} {d : D} (r : ∀ w, Rep Γ w d v) (hm : X.mg x = some u) (ru : RelV v u) (hg : Gl X x := by rfl) (hd : (x == ("__debug__" : Str)) = false := by decide) : PE X (.Name x pos) (tD Γ B Wx (mRet d)) := d_con (pe_glob hg hm ru hd) r

/-! ### operators by values -/
/-- a rule's reading r is met wherever the mirror f has a value -/
def OpD (Γ : Gam) (B : Bs) (r : R2) (f : Z → D → D → Option D) : Prop := ∀ {Wx : WX} {w : W} {ρ : En} {z : Z} {σ : Sl} {H : Hp} {d e d' : D} {v u : V} {Q : VK},
  SI Γ B w ρ z σ H → RepB Γ w H d v → RepB Γ w H e u → f z d e = some d' → resTo Γ B Wx w ρ σ H (.ok d' z) (fun d w' _ H' => ∀ v, Rep Γ w' d v → Q v H') → r v u H Q
theorem op2_to {r : R2} {f : Z → D → D → Option D} (hf : OpD Γ B r f) : ∀ σ H Q, tD Γ B Wx (mOp2 f ma mb) σ H Q → tOp r (tB Γ B Wx ma) (tB Γ B Wx mb) σ H Q := fun σ H Q ⟨w, ρ, z, S, q⟩ =>
  ⟨w, ρ, z, S, q.bind.mono fun d w1 z1 H1 _ _ ⟨S1, s1, q1⟩ v rv => ⟨w1, ρ, z1, S1, q1.bind.mono fun e w2 z2 H2 _ _ ⟨S2, s2, q2⟩ u ru => by
    obtain ⟨d', hd, q3⟩ := q2.opt
    exact hf S2 (rv.step s2) ru hd q3⟩⟩
theorem d_bin {op : Operator} {r : R2} {f : Z → D → D → Option D} (ho : OpR X (binaryOp op) r) (hf : OpD Γ B r f) (ha : PE X a (tB Γ B Wx ma)) (hb : PE X b (tB Γ B Wx mb)) : PE X (.BinOp a op b pos) (tD Γ B Wx (mOp2 f ma mb)) :=
  pe_weak (pe_op ho ha hb) (op2_to hf)
theorem d_cmp {op : CmpOp} {r : R2} {f : Z → D → D → Option D} (ho : OpR X (compareOp op) r) (hf : OpD Γ B r f) (ha : PE X a (tB Γ B Wx ma)) (hb : PE X b (tB Γ B Wx mb)) (hm : behindInMarks op b = false) : PE X (.Compare a [op] [b] pos) (tD Γ B Wx (mOp2 f ma mb)) :=
  pe_weak (pe_cmpR ho ha hb hm) (op2_to hf)
/-- comparisons, as Bool -/
def OpB (Γ : Gam) (B : Bs) (r : R2) (f : Z → D → D → Option Bool) : Prop := ∀ {w : W} {ρ : En} {z : Z} {σ : Sl} {H : Hp} {d e : D} {k : Bool} {v u : V} {Q : VK},
  SI Γ B w ρ z σ H → RepB Γ w H d v → RepB Γ w H e u → f z d e = some k → Q (.bl k) H → r v u H Q
theorem t_cmp {op : CmpOp} {r : R2} {f : Z → D → D → Option Bool} (ho : OpR X (compareOp op) r) (hf : OpB Γ B r f) (ha : PE X a (tB Γ B Wx ma)) (hb : PE X b (tB Γ B Wx mb)) (hm : behindInMarks op b = false) : PT X (.Compare a [op] [b] pos) (tDT Γ B Wx (mOp2 f ma mb)) :=
  pt_weak (pt_cmpR ho ha hb hm) fun σ H Q ⟨w, ρ, z, S, q⟩ =>
    ⟨w, ρ, z, S, q.bind.mono fun d w1 z1 H1 _ _ ⟨S1, s1, q1⟩ v rv => ⟨w1, ρ, z1, S1, q1.bind.mono fun e w2 z2 H2 _ _ ⟨S2, s2, q2⟩ u ru => by
      obtain ⟨k, hk, q3⟩ := q2.opt
      exact hf S2 (rv.step s2) ru hk ⟨k, rfl, q3.ok S2⟩⟩⟩
theorem d_cmpB {op : CmpOp} {r : R2} {f : Z → D → D → Option Bool} (ho : OpR X (compareOp op) r) (hf : OpB Γ B r f) (ha : PE X a (tB Γ B Wx ma)) (hb : PE X b (tB Γ B Wx mb)) (hm : behindInMarks op b = false) : PE X (.Compare a [op] [b] pos) (tD Γ B Wx (mBl (mOp2 f ma mb))) :=
  pe_weak (pe_cmpR ho ha hb hm) fun σ H Q ⟨w, ρ, z, S, q⟩ => by
    have q := q.bind
    exact ⟨w, ρ, z, S, q.bind.mono fun d w1 z1 H1 _ _ ⟨S1, s1, q1⟩ v rv => ⟨w1, ρ, z1, S1, q1.bind.mono fun e w2 z2 H2 _ _ ⟨S2, s2, q2⟩ u ru => by
      obtain ⟨k, hk, q3⟩ := q2.opt
      obtain ⟨_, _, q4⟩ := q3.ok S2
      exact hf S2 (rv.step s2) ru hk (q4.ok S2 _ (.bl k))⟩⟩
/-- a < b < c -/
def mChain (f g : Z → D → D → Option Bool) (a b c : M D) : M Bool := mBind a fun x => mBind b fun y => mBind (mOpt fun z => f z x y) fun k => if k = true then mBind c fun y' => mOpt fun z => g z y y' else mRet false
theorem chain_to {r r' : R2} {f g : Z → D → D → Option Bool} {mc : M D} {β : Type} {fin : Bool → β} {Qv : β → W → Z → Hp → Prop} (hf : OpB Γ B r f) (hg : OpB Γ B r' g) {w : W} {ρ : En} {z : Z} {σ : Sl} {H : Hp} {Q : VK} (S : SI Γ B w ρ z σ H)
    (q : resTo Γ B Wx w ρ σ H (mMap fin (mChain f g ma mb mc) ρ z) Qv) (k : ∀ (b : Bool) (w' : W) (z' : Z) (H' : Hp), SI Γ B w' ρ z' σ H' → Qv (fin b) w' z' H' → Q (.bl b) H') : tChain r r' (tB Γ B Wx ma) (tB Γ B Wx mb) (tB Γ B Wx mc) σ H Q := by
  have q := q.bind
  refine ⟨w, ρ, z, S, q.bind.mono fun d w1 z1 H1 _ _ ⟨S1, s1, q1⟩ v rv => ⟨w1, ρ, z1, S1, q1.bind.mono fun e w2 z2 H2 _ _ ⟨S2, s2, q2⟩ u ru => ?_⟩⟩
  obtain ⟨k1, hk, q3⟩ := q2.obind
  refine hf S2 (rv.step s2) ru hk ⟨k1, rfl, ?_⟩
  cases k1 with
  | false =>
    obtain ⟨_, _, q4⟩ := q3.ok S2
    exact k _ _ _ _ S2 (q4.ok S2)
  | true =>
    refine ⟨w2, ρ, z2, S2, (show resTo Γ B Wx w2 ρ σ H2 (mBind mc (fun y' => mOpt fun z => g z e y') ρ z2) _ from q3).bind.mono fun e' w3 z3 H3 _ _ ⟨S3, s3, q4⟩ u' ru' => ?_⟩
    obtain ⟨k2, hk2, q5⟩ := q4.opt
    obtain ⟨_, _, q6⟩ := q5.ok S3
    exact hg S3 (ru.step s3) ru' hk2 (k _ _ _ _ S3 (q6.ok S3))
theorem t_chain {op op' : CmpOp} {r r' : R2} {f g : Z → D → D → Option Bool} {c : Expr} {mc : M D} (ho : OpR X (compareOp op) r) (hf : OpB Γ B r f) (ho' : OpR X (compareOp op') r') (hg : OpB Γ B r' g)
    (ha : PE X a (tB Γ B Wx ma)) (hb : PE X b (tB Γ B Wx mb)) (hc : PE X c (tB Γ B Wx mc)) (hm : lastMarks [op, op'] [b, c] = false := by with_unfolding_all rfl) : PT X (.Compare a [op, op'] [b, c] pos) (tDT Γ B Wx (mMap id (mChain f g ma mb mc))) :=
  pt_weak (pt_chain ho ho' ha hb hc hm) fun σ H Q ⟨w, ρ, z, S, q⟩ => chain_to hf hg S q fun k _ _ _ _ h => ⟨k, rfl, h⟩
theorem d_chain {op op' : CmpOp} {r r' : R2} {f g : Z → D → D → Option Bool} {c : Expr} {mc : M D} (ho : OpR X (compareOp op) r) (hf : OpB Γ B r f) (ho' : OpR X (compareOp op') r') (hg : OpB Γ B r' g)
    (ha : PE X a (tB Γ B Wx ma)) (hb : PE X b (tB Γ B Wx mb)) (hc : PE X c (tB Γ B Wx mc)) (hm : lastMarks [op, op'] [b, c] = false := by with_unfolding_all rfl) : PE X (.Compare a [op, op'] [b, c] pos) (tD Γ B Wx (mMap .bl (mChain f g ma mb mc))) :=
  pe_weak (pe_chain ho ho' ha hb hc hm) fun σ H Q ⟨w, ρ, z, S, q⟩ => chain_to hf hg S q fun k _ _ _ _ h => h _ (.bl k)

/-! ### tests -/
variable {mt mu : M Bool} {c : Expr} {rest : List Expr}
/-- an expression that is True or False, as a test -/
def toB : D → Option Bool
  | .bl b => some b
  | _ => none
def mTest (m : M D) : M Bool := mBind m fun d => mOpt fun _ => toB d
theorem t_val (h : PE X e (tD Γ B Wx m)) (he : ∀ whole, isTrue e X.env whole = (do let v ← whole; standAt e.pos; holding [v] (truthy v)) := by intro _; rfl) : PT X e (tDT Γ B Wx (mTest m)) :=
  pt_weak (pt_val h he) fun σ H Q ⟨w, ρ, z, S, q⟩ => ⟨w, ρ, z, S, q.bind.mono fun d w1 z1 H1 _ _ ⟨S1, s1, q1⟩ v rv => by
    obtain ⟨k, hk, q2⟩ := q1.opt
    unfold toB at hk
    split at hk
    · cases hk
      cases rv
      exact ⟨_, rfl, q2.ok S1⟩
    · cases hk⟩
/-- by truth -/
def truD (z : Z) : D → Option Bool
  | .non => some false
  | .bl b => some b
  | .int i => some (i != 0)
  | .str x => if x.length ≤ sizeLine then some ((x.length : Int) != 0) else none
  | .lst ds => some (!ds.isEmpty)
  | .tup ds => some (!ds.isEmpty)
  | .mob n => match z[n]? with
    | some (.lst ds) => some (!ds.isEmpty)
    | _ => none
  | .obj _ _ _ => none
theorem isEmpty_len {α β : Type} {l : List α} {k : List β} (h : l.length = k.length) : l.isEmpty = k.isEmpty := by
  cases l <;> cases k <;> simp_all
theorem SI.K {w : W} {ρ : En} {z : Z} {σ : Sl} {H : Hp} (S : SI Γ B w ρ z σ H) {a : Addr} {xs : List V} (h : SqL Γ.K w.R a xs) : SqL Γ.K H a xs := SqL.le S.wi.le h
theorem SI.KT {w : W} {ρ : En} {z : Z} {σ : Sl} {H : Hp} (S : SI Γ B w ρ z σ H) {a : Addr} {xs : List V} (h : SqT Γ.K w.R a xs) : SqT Γ.K H a xs := SqT.le S.wi.le h
/-- a list, read: shared, owned, or a mutable one of the store -/
theorem RepB.list {w : W} {ρ : En} {z : Z} {σ : Sl} {H : Hp} {ds : List D} {v : V} (r : RepB Γ w H (.lst ds) v) (S : SI Γ B w ρ z σ H) : ∃ a xs, v = .ref a ∧ SqS Γ.K H a xs ∧ RepL Γ w ds xs := by
  cases r with
  | of r => cases r with
    | lst h1 h2 => exact ⟨_, _, rfl, SqS.le S.wi.le h1, h2⟩
  | own h1 _ _ => obtain ⟨xs, h1, h2⟩ := h1; exact ⟨_, _, rfl, SqS.of h1, h2⟩
theorem RepB.tuple {w : W} {ρ : En} {z : Z} {σ : Sl} {H : Hp} {ds : List D} {v : V} (r : RepB Γ w H (.tup ds) v) (S : SI Γ B w ρ z σ H) : ∃ a xs, v = .ref a ∧ SqT Γ.K H a xs ∧ RepL Γ w ds xs := by
  cases r with
  | of r => cases r with
    | tup h1 h2 => exact ⟨_, _, rfl, S.KT h1, h2⟩
theorem RepB.mobl {w : W} {ρ : En} {z : Z} {σ : Sl} {H : Hp} {n : Nat} {ds : List D} {v : V} (r : RepB Γ w H (.mob n) v) (S : SI Γ B w ρ z σ H) (hz : z[n]? = some (.lst ds)) : ∃ a xs, v = .ref a ∧ w.pl[n]? = some a ∧ H a = some (.lst xs) ∧ RepL Γ w ds xs := by
  cases r with
  | of r => cases r with
    | mob h1 =>
      obtain ⟨a, h2, h3, xs, h4, h5⟩ := S.wi.st _ _ hz
      rw [h1] at h2
      cases h2
      exact ⟨_, xs, rfl, h1, h4, h5⟩
theorem RepB.rep {w : W} {H : Hp} {d : D} {v : V} (r : RepB Γ w H d v) (h : ∀ ds, d ≠ .lst ds) : Rep Γ w d v := by
  cases r with
  | of r => exact r
  | own _ _ _ => exact absurd rfl (h _)
theorem tru_to {w : W} {ρ : En} {z : Z} {σ : Sl} {H : Hp} {d : D} {v : V} {k : Bool} (S : SI Γ B w ρ z σ H) (r : RepB Γ w H d v) (h : truD z d = some k) : TruV Γ.K v H k := by
  unfold truD at h
  split at h
  · cases r.rep (fun _ => nofun); cases h; rfl
  · cases r.rep (fun _ => nofun); cases h; rfl
  · cases r.rep (fun _ => nofun); cases h; rfl
  · cases r.rep (fun _ => nofun)
    split at h
    · rename_i hz; cases h; exact ⟨hz, rfl⟩
    · cases h
  · obtain ⟨a, xs, rfl, h1, h2⟩ := r.list S
    cases h
    exact .inl ⟨xs, h1.sq, by rw [isEmpty_len h2.length]⟩
  · obtain ⟨a, xs, rfl, h1, h2⟩ := r.tuple S
    cases h
    exact .inr (.inl ⟨xs, h1, by rw [isEmpty_len h2.length]⟩)
  · split at h
    · rename_i ds hz
      obtain ⟨a, xs, rfl, _, h1, h2⟩ := r.mobl S hz
      cases h
      exact .inl ⟨xs, SqL.of h1, by rw [isEmpty_len h2.length]⟩
    · cases h
  · cases h
theorem t_truth (hK : X.K = Γ.K) (h : PE X e (tB Γ B Wx m)) (he : ∀ whole, isTrue e X.env whole = (do let v ← whole; standAt e.pos; holding [v] (truthy v)) := by intro _; rfl) : PT X e (tDT Γ B Wx (mOp1 truD m)) :=
  pt_weak (pt_truth h he) fun σ H Q ⟨w, ρ, z, S, q⟩ => ⟨w, ρ, z, S, q.bind.mono fun d w1 z1 H1 _ _ ⟨S1, s1, q1⟩ v rv => by
    obtain ⟨k, hk, q2⟩ := q1.opt
    exact ⟨k, by rw [hK]; exact tru_to S1 rv hk, q2.ok S1⟩⟩
theorem t_not (h : PT X e (tDT Γ B Wx mt)) : PT X (.UnaryOp .Not e pos) (tDT Γ B Wx (mNot mt)) := pt_weak (pt_not h) fun σ H Q ⟨w, ρ, z, S, q⟩ => ⟨w, ρ, z, S, q.bind.mono fun k w1 z1 H1 _ _ ⟨S1, s1, q1⟩ => q1.ok S1⟩
theorem w_and1 (ha : PT X a (tDT Γ B Wx mt)) : PW X (.BoolOp .And [a] pos) (tDT Γ B Wx mt) := pw_and1 ha
theorem w_or1 (ha : PT X a (tDT Γ B Wx mt)) : PW X (.BoolOp .Or [a] pos) (tDT Γ B Wx mt) := pw_or1 ha
theorem if_res {α : Type} {k : Bool} {x y : Res α} {w : W} {ρ : En} {σ : Sl} {H : Hp} {Q : α → W → Z → Hp → Prop} (h : resTo Γ B Wx w ρ σ H (if k = true then x else y) Q) : (k = true ∧ resTo Γ B Wx w ρ σ H x Q) ∨ (k = false ∧ resTo Γ B Wx w ρ σ H y Q) := by
  cases k with
  | true => exact .inl ⟨rfl, by simpa using h⟩
  | false => exact .inr ⟨rfl, by simpa using h⟩
theorem mif_app {α : Type} {k : Bool} {x y : M α} {ρ : En} {z : Z} : (if k = true then x else y) ρ z = if k = true then x ρ z else y ρ z := by cases k <;> rfl
theorem w_and (ha : PT X a (tDT Γ B Wx mt)) (hb : PW X (.BoolOp .And (b :: rest) pos) (tDT Γ B Wx mu)) : PW X (.BoolOp .And (a :: b :: rest) pos) (tDT Γ B Wx (mAnd mt mu)) :=
  pw_weak (pw_and ha hb) fun σ H Q ⟨w, ρ, z, S, q⟩ => ⟨w, ρ, z, S, q.bind.mono fun k w1 z1 H1 _ _ ⟨S1, s1, q1⟩ => by
    cases k with
    | true => exact iteT ⟨w1, ρ, z1, S1, q1⟩
    | false => exact iteF (q1.ok S1)⟩
theorem w_or (ha : PT X a (tDT Γ B Wx mt)) (hb : PW X (.BoolOp .Or (b :: rest) pos) (tDT Γ B Wx mu)) : PW X (.BoolOp .Or (a :: b :: rest) pos) (tDT Γ B Wx (mOr mt mu)) :=
  pw_weak (pw_or ha hb) fun σ H Q ⟨w, ρ, z, S, q⟩ => ⟨w, ρ, z, S, q.bind.mono fun k w1 z1 H1 _ _ ⟨S1, s1, q1⟩ => by
    cases k with
    | true => exact iteT (q1.ok S1)
    | false => exact iteF ⟨w1, ρ, z1, S1, q1⟩⟩
/-- a test, as a value of True or False: and, or, not of bools -/
def mAndV (a b : M D) : M D := mBind a fun d => mBind (mOpt fun _ => toB d) fun k => if k = true then b else mRet (.bl false)
def mOrV (a b : M D) : M D := mBind a fun d => mBind (mOpt fun _ => toB d) fun k => if k = true then mRet (.bl true) else b
theorem toB_some {d : D} {k : Bool} (h : toB d = some k) : d = .bl k := by
  unfold toB at h
  split at h
  · cases h; rfl
  · cases h
theorem d_one {op : BoolOp} (h : PE X e (tD Γ B Wx m)) : PE X (.BoolOp op [e] pos) (tD Γ B Wx m) := pe_one h
theorem d_and (ha : PE X a (tD Γ B Wx ma)) (hb : PE X (.BoolOp .And (b :: rest) pos) (tD Γ B Wx mb)) : PE X (.BoolOp .And (a :: b :: rest) pos) (tD Γ B Wx (mAndV ma mb)) :=
  pe_weak (pe_and ha hb) fun σ H Q ⟨w, ρ, z, S, q⟩ => ⟨w, ρ, z, S, q.bind.mono fun d w1 z1 H1 _ _ ⟨S1, s1, q1⟩ v rv => by
    obtain ⟨k, hk, q2⟩ := q1.obind
    cases toB_some hk
    cases rv
    refine ⟨k, rfl, ?_⟩
    cases k with
    | true => exact iteT ⟨w1, ρ, z1, S1, q2⟩
    | false => exact iteF (q2.ok S1 _ (.bl false))⟩
theorem d_or (ha : PE X a (tD Γ B Wx ma)) (hb : PE X (.BoolOp .Or (b :: rest) pos) (tD Γ B Wx mb)) : PE X (.BoolOp .Or (a :: b :: rest) pos) (tD Γ B Wx (mOrV ma mb)) :=
  pe_weak (pe_or ha hb) fun σ H Q ⟨w, ρ, z, S, q⟩ => ⟨w, ρ, z, S, q.bind.mono fun d w1 z1 H1 _ _ ⟨S1, s1, q1⟩ v rv => by
    obtain ⟨k, hk, q2⟩ := q1.obind
    cases toB_some hk
    cases rv
    refine ⟨k, rfl, ?_⟩
    cases k with
    | true => exact iteT (q2.ok S1 _ (.bl true))
    | false => exact iteF ⟨w1, ρ, z1, S1, q2⟩⟩
def mNotV (a : M D) : M D := mBind a fun d => mBind (mOpt fun _ => toB d) fun k => mRet (.bl (!k))
theorem d_not (ha : PE X a (tD Γ B Wx ma)) : PE X (.UnaryOp .Not a pos) (tD Γ B Wx (mNotV ma)) :=
  pe_weak (pe_not ha) fun σ H Q ⟨w, ρ, z, S, q⟩ => ⟨w, ρ, z, S, q.bind.mono fun d w1 z1 H1 _ _ ⟨S1, s1, q1⟩ v rv => by
    obtain ⟨k, hk, q2⟩ := q1.obind
    cases toB_some hk
    cases rv
    exact ⟨k, rfl, q2.ok S1 _ (.bl _)⟩⟩
theorem d_ifx (hc : PT X c (tDT Γ B Wx mt)) (ha : PE X a (tD Γ B Wx ma)) (hb : PE X b (tD Γ B Wx mb)) : PE X (.IfExp c a b pos) (tD Γ B Wx (mIf mt ma mb)) :=
  pe_weak (pe_ifExp hc ha hb) fun σ H Q ⟨w, ρ, z, S, q⟩ => ⟨w, ρ, z, S, q.bind.mono fun k w1 z1 H1 _ _ ⟨S1, s1, q1⟩ => by
    cases k with
    | true => exact iteT ⟨w1, ρ, z1, S1, q1⟩
    | false => exact iteF ⟨w1, ρ, z1, S1, q1⟩⟩

/-! ### argument lists, displays -/
variable {es : List Expr} {ml : M (List D)}
theorem a_nil : PA X [] (tDA Γ B Wx mNil) := pa_weak pa_nil fun σ H Q ⟨w, ρ, z, S, q⟩ => q.ok S _ .nil
theorem a_cons (ha : PE X e (tD Γ B Wx m)) (hr : PA X es (tDA Γ B Wx ml)) (hs : starEach (e :: es) X.env = (false, eval e X.env) :: starEach es X.env := by rfl) : PA X (e :: es) (tDA Γ B Wx (mCons m ml)) :=
  pa_weak (pa_cons ha hr hs) fun σ H Q ⟨w, ρ, z, S, q⟩ => ⟨w, ρ, z, S, q.bind.mono fun d w1 z1 H1 _ _ ⟨S1, s1, q1⟩ v rv => ⟨w1, ρ, z1, S1, q1.bind.mono fun ds w2 z2 H2 _ _ ⟨S2, s2, q2⟩ vs rvs => q2.ok S2 _ (.cons (rv.step s2) rvs)⟩⟩
theorem ba_nil : PA X [] (tBA Γ B Wx mNil) := pa_weak pa_nil fun σ H Q ⟨w, ρ, z, S, q⟩ => q.ok S _ .nil
theorem Paired.imp {α β : Type} {P Q : α → β → Prop} (h : ∀ a b, P a b → Q a b) : ∀ {xs : List α} {ys : List β}, Paired P xs ys → Paired Q xs ys
  | _, _, .nil => .nil
  | _, _, .cons a b => .cons (h _ _ a) (Paired.imp h b)
theorem ba_cons (ha : PE X e (tB Γ B Wx m)) (hr : PA X es (tBA Γ B Wx ml)) (hs : starEach (e :: es) X.env = (false, eval e X.env) :: starEach es X.env := by rfl) : PA X (e :: es) (tBA Γ B Wx (mCons m ml)) :=
  pa_weak (pa_cons ha hr hs) fun σ H Q ⟨w, ρ, z, S, q⟩ => ⟨w, ρ, z, S, q.bind.mono fun d w1 z1 H1 _ _ ⟨S1, s1, q1⟩ v rv => ⟨w1, ρ, z1, S1, q1.bind.mono fun ds w2 z2 H2 _ _ ⟨S2, s2, q2⟩ vs rvs => q2.ok S2 _ (.cons (rv.step s2) rvs)⟩⟩
/-- a length within the line -/
def fit (ds : List D) : Option (List D) := if ds.length ≤ sizeLine then some ds else none
theorem fit_some {ds es : List D} (h : fit ds = some es) : es = ds ∧ ds.length ≤ sizeLine := by
  unfold fit at h
  split at h
  · cases h; exact ⟨rfl, by assumption⟩
  · cases h
def mTup (ml : M (List D)) : M D := mBind ml fun ds => mOpt fun _ => (fit ds).map .tup
def mLst (ml : M (List D)) : M (List D) := mBind ml fun ds => mOpt fun _ => fit ds
theorem SI.tup {w : W} {ρ : En} {z : Z} {σ : Sl} {H : Hp} (S : SI Γ B w ρ z σ H) {ds : List D} {vs : List V} (r : RepL Γ w ds vs) {p : Addr} (hp : H p = none) :
    SI Γ B ⟨upd w.R p (.tup vs), w.pl⟩ ρ z σ (upd H p (.tup vs)) ∧ Step w H ⟨upd w.R p (.tup vs), w.pl⟩ (upd H p (.tup vs)) ∧ Rep Γ ⟨upd w.R p (.tup vs), w.pl⟩ (.tup ds) (.ref p) := by
  obtain ⟨wi, st⟩ := S.wi.new (o := .tup vs) hp
  exact ⟨S.carry wi st, st, .tup (SqT.of upd_same) (r.step st)⟩
theorem SI.lst {w : W} {ρ : En} {z : Z} {σ : Sl} {H : Hp} (S : SI Γ B w ρ z σ H) {ds : List D} {vs : List V} (r : RepL Γ w ds vs) {p : Addr} (hp : H p = none) :
    SI Γ B ⟨upd w.R p (.lst vs), w.pl⟩ ρ z σ (upd H p (.lst vs)) ∧ Step w H ⟨upd w.R p (.lst vs), w.pl⟩ (upd H p (.lst vs)) ∧ Rep Γ ⟨upd w.R p (.lst vs), w.pl⟩ (.lst ds) (.ref p) := by
  obtain ⟨wi, st⟩ := S.wi.new (o := .lst vs) hp
  exact ⟨S.carry wi st, st, .lst (SqS.of upd_same) (r.step st)⟩
theorem WI.noR {w : W} {z : Z} {H : Hp} (I : WI Γ w z H) {p : Addr} (hp : H p = none) : w.R p = none ∧ p ∉ w.pl := by
  refine ⟨?_, fun hm => ?_⟩
  · cases e : w.R p with
    | none => rfl
    | some u => have := I.le _ _ e; rw [hp] at this; cases this
  · obtain ⟨u, hu, _⟩ := I.th hm
    rw [hp] at hu; cases hu
/-- a new list that stays outside of the world -/
theorem SI.lstO {w : W} {ρ : En} {z : Z} {σ : Sl} {H : Hp} (S : SI Γ B w ρ z σ H) {ds : List D} {vs : List V} (r : RepL Γ w ds vs) {p : Addr} (hp : H p = none) :
    SI Γ B w ρ z σ (upd H p (.lst vs)) ∧ Step w H w (upd H p (.lst vs)) ∧ OwnRep Γ w (upd H p (.lst vs)) p (.lst ds) ∧ w.R p = none ∧ p ∉ w.pl := by
  obtain ⟨wi, st⟩ := S.wi.newO (o := .lst vs) hp
  exact ⟨S.carry wi st, st, ⟨vs, upd_same, r⟩, S.wi.noR hp⟩
theorem d_tup {k : Nat} (h : PA X es (tDA Γ B Wx ml)) : PE X (.Tuple es k pos) (tD Γ B Wx (mTup ml)) := pe_weak (pe_tup h) fun σ H Q ⟨w, ρ, z, S, q⟩ => ⟨w, ρ, z, S, q.bind.mono fun ds w1 z1 H1 _ _ ⟨S1, s1, q1⟩ vs rvs => by
  obtain ⟨d, hd, q2⟩ := q1.opt
  obtain ⟨ds', hf, rfl⟩ := Option.map_eq_some_iff.mp hd
  obtain ⟨rfl, hz⟩ := fit_some hf
  refine ⟨by rw [rvs.length]; exact hz, fun p hp => ?_⟩
  obtain ⟨S2, s2, r2⟩ := S1.tup rvs hp
  exact q2 _ _ S2 s2 _ r2⟩
/-- a list display: a new list of its own -/
theorem f_lst (h : PA X es (tDA Γ B Wx ml)) : PE X (.List es pos) (tF Γ B Wx (mLst ml)) := pe_weak (pe_lst h) fun σ H Q ⟨w, ρ, z, S, q⟩ => ⟨w, ρ, z, S, q.bind.mono fun ds w1 z1 H1 _ s1' ⟨S1, s1, q1⟩ vs rvs => by
  obtain ⟨ds', hf, q2⟩ := q1.opt
  obtain ⟨rfl, hz⟩ := fit_some hf
  refine ⟨by rw [rvs.length]; exact hz, fun p hp => ?_⟩
  obtain ⟨S2, s2, r2, r3, r4⟩ := S1.lstO rvs hp
  have hp0 : H p = none := by
    cases e : H p with
    | none => rfl
    | some o => obtain ⟨o', h'⟩ := s1'.y p o e; rw [h'] at hp; cases hp
  exact q2 _ _ S2 s2 p r2 r3 r4 hp0⟩
/-- a new list, frozen -/
theorem SI.frozen {w : W} {ρ : En} {z : Z} {σ : Sl} {H : Hp} (S : SI Γ B w ρ z σ H) {ds : List D} {p : Addr} (o : OwnRep Γ w H p (.lst ds)) (h1 : w.R p = none) (h2 : p ∉ w.pl) (h3 : ∀ (i : Nat) (u : OV), ρ[i]? = some (some (.own u)) → σ[i]? ≠ some (some (.ref p)))
    (h4 : B.H p = none ∨ B.w.R p ≠ none) : ∃ w', SI Γ B w' ρ z σ H ∧ (∀ d v, Rep Γ w d v → Rep Γ w' d v) ∧ Rep Γ w' (.lst ds) (.ref p) ∧ w'.pl = w.pl ∧ (∀ a o, w.R a = some o → w'.R a = some o) ∧ (∀ a, a ≠ p → w'.R a = w.R a) := by
  obtain ⟨xs, hp, r⟩ := o
  have kR : ∀ a u, w.R a = some u → upd w.R p (.lst xs) a = some u := fun a u h => by rw [upd_ne (ne_of_none h h1)]; exact h
  have mono : ∀ d v, Rep Γ w d v → Rep Γ ⟨upd w.R p (.lst xs), w.pl⟩ d v := fun d v h => Rep.mono (w := w) (w' := ⟨upd w.R p (.lst xs), w.pl⟩) kR (fun _ _ h => h) d v h
  refine ⟨⟨upd w.R p (.lst xs), w.pl⟩, ⟨S.wi.freeze hp h1 h2, ⟨fun a u h => kR _ _ (S.st.r a u h), S.st.t, S.st.k, fun a u h k => ?_, S.st.n, S.st.y⟩, S.len, fun i d h => let ⟨v, a, b⟩ := S.sh i d h; ⟨v, a, mono _ _ b⟩, fun i u h => ?_, S.dis, fun i x h => let ⟨a, dx, fvs, h1, h2, h3, h4, h5⟩ := S.exn i x h; ⟨a, dx, fvs, h1, h2, kR _ _ h3, h4, RepL.mono (w := w) (w' := ⟨upd w.R p (.lst xs), w.pl⟩) kR (fun _ _ h => h) _ _ h5⟩, S.fnv⟩, mono, .lst (SqS.of upd_same) (RepL.mono (w := w) (w' := ⟨upd w.R p (.lst xs), w.pl⟩) kR (fun _ _ h => h) _ _ r), rfl, kR, fun a ha => upd_ne ha⟩
  · by_cases e : a = p
    · subst e
      rcases h4 with q | q
      · rw [q] at h; cases h
      · exact absurd k q
    · show upd w.R p (.lst xs) a = none
      rw [upd_ne e]; exact S.st.f a u h k
  · obtain ⟨a, g1, g2, g3, g4, g5⟩ := S.own i u h
    have ne : a ≠ p := fun e => h3 i u h (e ▸ g1)
    refine ⟨a, g1, ?_, by show upd w.R p (.lst xs) a = none; rw [upd_ne ne]; exact g3, g4, g5⟩
    cases u with
    | lst es => obtain ⟨ys, k1, k2⟩ := g2; exact ⟨ys, k1, RepL.mono (w := w) (w' := ⟨upd w.R p (.lst xs), w.pl⟩) kR (fun _ _ h => h) _ _ k2⟩
theorem SI.notOwn {w w' : W} {ρ : En} {z : Z} {σ : Sl} {H : Hp} (S : SI Γ B w ρ z σ H) {p : Addr} (hp : H p = none) : (∀ (i : Nat) (u : OV), ρ[i]? = some (some (.own u)) → σ[i]? ≠ some (some (.ref p))) ∧ B.H p = none := by
  refine ⟨fun i u h e => ?_, ?_⟩
  · obtain ⟨a, g1, g2, _⟩ := S.own i u h
    rw [g1] at e
    cases e
    obtain ⟨o, ho⟩ := g2.there
    rw [hp] at ho; cases ho
  · cases e : B.H p with
    | none => rfl
    | some o => obtain ⟨o', h'⟩ := S.st.y p o e; rw [h'] at hp; cases hp
def mFz (m : M (List D)) : M D := mMap .lst m
theorem resTo.map {α β : Type} {f : α → β} {r : M α} {w : W} {ρ : En} {z : Z} {σ : Sl} {H : Hp} {Q : β → W → Z → Hp → Prop} (h : resTo Γ B Wx w ρ σ H (mMap f r ρ z) Q) : resTo Γ B Wx w ρ σ H (r ρ z) fun a => Q (f a) := by
  unfold mMap mBind at h
  cases e : r ρ z with
  | ok a z1 => rw [e] at h; exact h
  | exc x z1 => rw [e] at h; exact h
  | bad => rw [e] at h; exact h
theorem fz_to : ∀ σ H Q, tD Γ B Wx (mFz ml) σ H Q → tF Γ B Wx ml σ H Q := fun σ H Q ⟨w, ρ, z, S, q⟩ => ⟨w, ρ, z, S, by
  have q := q.map
  cases em : ml ρ z with
  | ok ds z1 =>
    rw [em] at q
    intro w1 H1 S1 s1 p o hR hpl hp
    obtain ⟨n1, n2⟩ := S.notOwn (w' := w) hp
    obtain ⟨w2, S2, mono, r, e1, e2, e3⟩ := S1.frozen o hR hpl n1 (.inl n2)
    refine q w2 H1 S2 ⟨fun a u h => e2 _ _ (s1.r _ _ h), fun n a h => by rw [e1]; exact s1.t n a h, s1.k, fun a u h k => ?_, fun a h => s1.n a (by rw [e1] at h; exact h), s1.y⟩ _ r
    rw [e3 a (ne_of_none h hp)]
    exact s1.f a u h k
  | exc x z1 => rw [em] at q; exact q
  | bad => rw [em] at q; exact q⟩
theorem d_f (h : PE X e (tF Γ B Wx ml)) : PE X e (tD Γ B Wx (mFz ml)) := pe_weak h fz_to
end
end NW
set_option maxHeartbeats 400000
/-! Operators by their mirrors. -/
namespace NW
open PySem PySem.Spec PyProof.Rows L2

/-- what a rule's derivation stands on -/
structure Dv (Γ : Gam) (X : Cx) (Wx : WX) (k : Nat) : Prop where
  hK : X.K = Γ.K
  calm : X.calm = true
  nd : X.N.Nodup
  room : Room k X.A
  grd : X.A.guards = some []
  tk : Takes X Wx

section
variable {X : Cx} {Γ : Gam} {B : Bs}
/-! ### reads of values by their data -/
theorem RepB.int {w : W} {H : Hp} {i : Int} {v : V} (r : RepB Γ w H (.int i) v) : v = .int i := by cases r.rep (fun _ => nofun); rfl
theorem RepB.str {w : W} {H : Hp} {i : Str} {v : V} (r : RepB Γ w H (.str i) v) : v = .str i := by cases r.rep (fun _ => nofun); rfl
theorem RepB.bl {w : W} {H : Hp} {i : Bool} {v : V} (r : RepB Γ w H (.bl i) v) : v = .bl i := by cases r.rep (fun _ => nofun); rfl
theorem RepB.non {w : W} {H : Hp} {v : V} (r : RepB Γ w H .non v) : v = .non := by cases r.rep (fun _ => nofun); rfl

/-! ### + -/
/-- a list that is read, as it lies in the heap -/
theorem rd_list {pins : List (Addr × Obj)} {σ : Sl} {H : Hp} {s : Shared} {a : Addr} {xs : List V} (I : Inv X pins σ H s) (h : SqS X.K H a xs) : ∃ (its : List Value) (n : Nat), Vals xs its ∧ s.heap.get? a = some { cls := .type "list", data := .seq its.toArray n } ∧ xs.length ≤ sizeLine := by
  rcases h with h | ⟨its, n, h1, h2, h3⟩
  · obtain ⟨z, its, n, r, e⟩ := h.ok I.hok
    exact ⟨its, n, r, e, z⟩
  · exact ⟨its.toList, n, h3, I.kIn a _ h1, by rw [h3.length]; simpa using h2⟩
def rCatL (K : PySem.W.Frag) : R2 := fun x y H Q => ∃ l b xs zs, x = .ref l ∧ y = .ref b ∧ SqS K H l xs ∧ SqS K H b zs ∧ xs.length + zs.length ≤ sizeLine ∧ ∀ p, H p = none → Q (.ref p) (upd H p (.lst (xs ++ zs)))
theorem op_catL : OpR X (binaryOp .Add) (rCatL X.K) := by
  rintro pins s σ H x y v u Q I rx ry ⟨l, b, xs, zs, rfl, rfl, hH, hB, hz, q⟩
  cases rx; cases ry
  obtain ⟨its, n, r, e, _⟩ := rd_list I hH
  obtain ⟨its2, n2, r2, e2, _⟩ := rd_list I hB
  have ea : its.toArray ++ its2.toArray = (its ++ its2).toArray := by simp
  have l1 := r.length
  have l2 := r2.length
  refine PySem.P.add_list e e2 ?_ (by rw [List.size_toArray, List.size_toArray]; omega)
  rw [ea]
  exact ⟨.ref _, _, I.lnew (t' := s.toks) (r.append r2) (by rw [List.length_append]; omega), rfl, q _ I.fresh⟩
def addD (_ : Z) : D → D → Option D
  | .int i, .int j => some (.int (i + j))
  | .str s, .str t => if s.length + t.length ≤ sizeLine then some (.str (s ++ t)) else none
  | .lst a, .lst b => if a.length + b.length ≤ sizeLine then some (.lst (a ++ b)) else none
  | .tup a, .tup b => if a.length + b.length ≤ sizeLine then some (.tup (a ++ b)) else none
  | _, _ => none
def rAddD (K : PySem.W.Frag) : R2 := fun x y H Q => rI0 (fun i j => .int (i + j)) x y H Q ∨ (∃ i j, x = .str i ∧ y = .str j ∧ i.length + j.length ≤ sizeLine ∧ Q (.str (i ++ j)) H) ∨ rCatL K x y H Q ∨ rCatA K x y H Q
theorem op_addD (hK : X.K = Γ.K) : OpR X (binaryOp .Add) (rAddD Γ.K) := by
  have h := OpR.or (op_add (X := X)) (OpR.or op_add_str (OpR.or op_catL op_catA))
  rw [hK] at h
  exact h
theorem od_add : OpD Γ B (rAddD Γ.K) addD := by
  intro Wx w ρ z σ H d e d' v u Q S rv ru h q
  unfold addD at h
  split at h
  · cases rv.int; cases ru.int; cases h
    exact .inl ⟨_, _, rfl, rfl, q.ok S _ (.int _)⟩
  · cases rv.str; cases ru.str
    split at h
    · cases h
      exact .inr (.inl ⟨_, _, rfl, rfl, by assumption, q.ok S _ (.str _)⟩)
    · cases h
  · obtain ⟨a, xs, rfl, h1, h2⟩ := rv.list S
    obtain ⟨b, ys, rfl, g1, g2⟩ := ru.list S
    split at h
    · cases h
      refine .inr (.inr (.inl ⟨a, b, xs, ys, rfl, rfl, h1, g1, by rw [h2.length, g2.length]; assumption, fun p hp => ?_⟩))
      obtain ⟨S1, s1, r1⟩ := S.lst (h2.append g2) hp
      exact q _ _ S1 s1 _ r1
    · cases h
  · obtain ⟨a, xs, rfl, h1, h2⟩ := rv.tuple S
    obtain ⟨b, ys, rfl, g1, g2⟩ := ru.tuple S
    have rv' := rv.rep (fun _ => nofun)
    have ru' := ru.rep (fun _ => nofun)
    split at h
    · cases h
      refine .inr (.inr (.inr ⟨a, b, xs, ys, rfl, rfl, h1, g1, by rw [h2.length, g2.length]; assumption, fun hx => ?_, fun _ hy => ?_, fun _ _ p hp => ?_⟩))
      · subst hx
        cases h2
        exact q.ok S _ ru'
      · subst hy
        cases g2
        rw [List.append_nil] at q
        exact q.ok S _ rv'
      · obtain ⟨S1, s1, r1⟩ := S.tup (h2.append g2) hp
        exact q _ _ S1 s1 _ r1
    · cases h
  · cases h

/-! ### ints -/
def int2 (f : Int → Int → Option D) (_ : Z) : D → D → Option D
  | .int i, .int j => f i j
  | _, _ => none
theorem int2_some {f : Int → Int → Option D} {z : Z} {d e x : D} (h : int2 f z d e = some x) : ∃ i j, d = .int i ∧ e = .int j ∧ f i j = some x := by
  unfold int2 at h
  split at h
  · exact ⟨_, _, rfl, rfl, h⟩
  · cases h
theorem od_I {C : Int → Int → Prop} {g : Int → Int → Int} {f : Int → Int → Option D} (hf : ∀ i j x, f i j = some x → x = .int (g i j) ∧ C i j) : OpD Γ B (rI C fun i j => .int (g i j)) (int2 f) := by
  intro Wx w ρ z σ H d e d' v u Q S rv ru h q
  obtain ⟨i, j, rfl, rfl, h⟩ := int2_some h
  obtain ⟨rfl, hc⟩ := hf _ _ _ h
  cases rv.int; cases ru.int
  exact ⟨_, _, rfl, rfl, hc, q.ok S _ (.int _)⟩
def subI (i j : Int) : Option D := some (.int (i - j))
def mulI (i j : Int) : Option D := if (-(2 ^ 64) < i ∧ i < 2 ^ 64) ∨ (-(2 ^ 64) < j ∧ j < 2 ^ 64) then some (.int (i * j)) else none
def modI (i j : Int) : Option D := if 0 < j then some (.int (i % j)) else none
def divI (i j : Int) : Option D := if 0 < j ∧ j < 1073741824 then some (.int (i / j)) else none
def powI (i j : Int) : Option D := if 0 ≤ j ∧ j ≤ 1000000 ∧ i.natAbs < 2 ^ 64 then some (.int (i ^ j.toNat)) else none
theorem od_sub : OpD Γ B (rI0 fun i j => .int (i - j)) (int2 subI) := by
  intro Wx w ρ z σ H d e d' v u Q S rv ru h q
  obtain ⟨i, j, rfl, rfl, h⟩ := int2_some h
  cases h
  cases rv.int; cases ru.int
  exact ⟨_, _, rfl, rfl, q.ok S _ (.int _)⟩
theorem ite_some {c : Prop} [Decidable c] {α : Type} {x y : α} (h : (if c then some x else none) = some y) : y = x ∧ c := by
  split at h
  · cases h; exact ⟨rfl, by assumption⟩
  · cases h
theorem od_mul : OpD Γ B (rI CMul fun i j => .int (i * j)) (int2 mulI) := od_I fun i j x h => by unfold mulI at h; have q := ite_some h; exact q
theorem od_mod : OpD Γ B (rI (fun _ j => 0 < j) fun i j => .int (i % j)) (int2 modI) := od_I fun i j x h => by unfold modI at h; have q := ite_some h; exact q
theorem od_div : OpD Γ B (rI CDiv fun i j => .int (i / j)) (int2 divI) := od_I fun i j x h => by unfold divI at h; have q := ite_some h; exact q
theorem od_pow : OpD Γ B (rI CPow fun i j => .int (i ^ j.toNat)) (int2 powI) := od_I fun i j x h => by unfold powI at h; have q := ite_some h; exact q

/-! ### order -/
def cmpI (p : Int → Int → Bool) (_ : Z) : D → D → Option Bool
  | .int i, .int j => some (p i j)
  | _, _ => none
theorem ob_I {p : Int → Int → Bool} : OpB Γ B (rI0 fun i j => .bl (p i j)) (cmpI p) := by
  intro w ρ z σ H d e k v u Q S rv ru h q
  unfold cmpI at h
  split at h
  · cases h
    cases rv.int; cases ru.int
    exact ⟨_, _, rfl, rfl, q⟩
  · cases h
abbrev ltI := cmpI fun i j => decide (i < j)
abbrev leI := cmpI fun i j => decide (i ≤ j)
abbrev gtI := cmpI fun i j => decide (j < i)
abbrev geI := cmpI fun i j => decide (j ≤ i)
/-- is None, is not None -/
def nonB : D → Bool
  | .non => true
  | _ => false
def isN (_ : Z) (d e : D) : Option Bool := match e with
  | .non => some (nonB d)
  | _ => none
def isNN (_ : Z) (d e : D) : Option Bool := match e with
  | .non => some (!nonB d)
  | _ => none
theorem rep_non {w : W} {H : Hp} {d : D} {v : V} (r : RepB Γ w H d v) : decide (v = .non) = nonB d := by
  cases r with
  | of r => cases r <;> rfl
  | own _ _ _ => rfl
theorem ob_isN : OpB Γ B (fun x y H Q => y = .non ∧ Q (.bl (decide (x = .non))) H) isN := by
  intro w ρ z σ H d e k v u Q S rv ru h q
  unfold isN at h
  split at h
  · cases h
    cases ru.non
    exact ⟨rfl, by rw [rep_non rv]; exact q⟩
  · cases h
theorem ob_isNN : OpB Γ B (fun x y H Q => y = .non ∧ Q (.bl (!decide (x = .non))) H) isNN := by
  intro w ρ z σ H d e k v u Q S rv ru h q
  unfold isNN at h
  split at h
  · cases h
    cases ru.non
    exact ⟨rfl, by rw [rep_non rv]; exact q⟩
  · cases h

/-! ### == by data -/
mutual
def toPy : D → Option PyData
  | .non => some .none
  | .bl b => some (.bool b)
  | .int i => some (.int i)
  | .str x => some (.str x)
  | .tup ds => (toPys ds).map .tuple
  | .lst ds => (toPys ds).map .list
  | .obj _ _ _ => none
  | .mob _ => none
def toPys : List D → Option (List PyData)
  | [] => some []
  | d :: ds => (toPy d).bind fun p => (toPys ds).map fun ps => p :: ps
end
mutual
theorem Rep.dp {w : W} {K : PySem.W.Frag} {H : Hp} (hK : K = Γ.K) (le : ∀ a o, w.R a = some o → H a = some o) : ∀ (d : D) (v : V) (p : PyData), Rep Γ w d v → toPy d = some p → Dp K H v p
  | .non, _, _, r, h => by cases r; cases h; exact .non
  | .bl b, _, _, r, h => by cases r; cases h; exact .bl b
  | .int i, _, _, r, h => by cases r; cases h; exact .int i
  | .str x, _, _, r, h => by cases r; cases h; exact .str x
  | .tup ds, _, _, r, h => by
    unfold toPy at h
    obtain ⟨ps, h1, rfl⟩ := Option.map_eq_some_iff.mp h
    cases r with
    | tup g1 g2 => exact .tup (by rw [hK]; exact SqT.le le g1) (RepL.dp hK le ds _ ps g2 h1)
  | .lst ds, _, _, r, h => by
    unfold toPy at h
    obtain ⟨ps, h1, rfl⟩ := Option.map_eq_some_iff.mp h
    cases r with
    | lst g1 g2 => exact .lst (by rw [hK]; exact (SqS.le le g1).sq) (RepL.dp hK le ds _ ps g2 h1)
  | .obj _ _ _, _, _, _, h => by unfold toPy at h; cases h
  | .mob _, _, _, _, h => by unfold toPy at h; cases h
theorem RepL.dp {w : W} {K : PySem.W.Frag} {H : Hp} (hK : K = Γ.K) (le : ∀ a o, w.R a = some o → H a = some o) : ∀ (ds : List D) (vs : List V) (ps : List PyData), RepL Γ w ds vs → toPys ds = some ps → DpAll K H vs ps
  | [], _, _, r, h => by cases r; cases h; exact .nil
  | d :: ds, _, _, r, h => by
    unfold toPys at h
    obtain ⟨p, h1, h2⟩ := Option.bind_eq_some_iff.mp h
    obtain ⟨ps, h3, rfl⟩ := Option.map_eq_some_iff.mp h2
    cases r with
    | cons g1 g2 => exact .cons (Rep.dp hK le d _ p g1 h1) (RepL.dp hK le ds _ ps g2 h3)
end
theorem RepB.dp {w : W} {K : PySem.W.Frag} {H : Hp} (hK : K = Γ.K) (le : ∀ a o, w.R a = some o → H a = some o) {d : D} {v : V} {p : PyData} (r : RepB Γ w H d v) (h : toPy d = some p) : Dp K H v p := by
  cases r with
  | of r => exact Rep.dp hK le d v p r h
  | own g1 _ _ =>
    unfold toPy at h
    obtain ⟨ps, h1, rfl⟩ := Option.map_eq_some_iff.mp h
    obtain ⟨xs, g3, g4⟩ := g1
    exact .lst (.inl (.inl g3)) (RepL.dp hK le _ _ ps g4 h1)
def eqG (d e : D) : Option Bool := (toPy d).bind fun p => (toPy e).bind fun q => if SeqAt.shaped p = true ∧ SeqAt.shaped q = true then some (PyData.eqv p q) else none
def eqD (_ : Z) : D → D → Option Bool
  | .int a, .int b => some (decide (a = b))
  | .str a, .str b => some (decide (a = b))
  | .bl a, .bl b => some (decide (a = b))
  | d, e => eqG d e
def neD (z : Z) (d e : D) : Option Bool := (eqD z d e).map (!·)
theorem eqG_some {d e : D} {k : Bool} (h : eqG d e = some k) : ∃ p q, toPy d = some p ∧ toPy e = some q ∧ SeqAt.shaped p = true ∧ SeqAt.shaped q = true ∧ k = PyData.eqv p q := by
  unfold eqG at h
  obtain ⟨p, h1, h⟩ := Option.bind_eq_some_iff.mp h
  obtain ⟨q, h2, h⟩ := Option.bind_eq_some_iff.mp h
  obtain ⟨h3, h4, h5⟩ := ite_some h
  exact ⟨p, q, h1, h2, h4, h5, h3⟩
def rEqS (K : PySem.W.Frag) : R2 := fun x y H Q => rEq x y H Q ∨ rEqD K x y H Q
def rNeS (K : PySem.W.Frag) : R2 := fun x y H Q => rNe x y H Q ∨ rNeD K x y H Q
theorem op_eqS (hu : X.A.units + 64 < cLine) : OpR X (compareOp .Eq) (rEqS X.K) := OpR.or op_eq (op_eqD hu)
theorem op_neS (hu : X.A.units + 64 < cLine) : OpR X (compareOp .NotEq) (rNeS X.K) := OpR.or op_ne (op_neD hu)
theorem eqD_cases {w : W} {H : Hp} {z : Z} {d e : D} {k : Bool} {v u : V} (h : eqD z d e = some k) (rv : RepB Γ w H d v) (ru : RepB Γ w H e u) : (scal v u = true ∧ k = decide (v = u)) ∨ eqG d e = some k := by
  unfold eqD at h
  split at h
  · cases rv.int; cases ru.int; cases h
    exact .inl ⟨rfl, by simp⟩
  · cases rv.str; cases ru.str; cases h
    exact .inl ⟨rfl, by simp⟩
  · cases rv.bl; cases ru.bl; cases h
    exact .inl ⟨rfl, by simp⟩
  · exact .inr h
theorem ob_eq (hK : X.K = Γ.K) : OpB Γ B (rEqS X.K) eqD := by
  intro w ρ z σ H d e k v u Q S rv ru h q
  rcases eqD_cases h rv ru with ⟨h1, rfl⟩ | h
  · exact .inl ⟨h1, q⟩
  · obtain ⟨p, p', h1, h2, h3, h4, rfl⟩ := eqG_some h
    exact .inr ⟨p, p', rv.dp hK S.wi.le h1, ru.dp hK S.wi.le h2, h3, h4, q⟩
theorem ob_ne (hK : X.K = Γ.K) : OpB Γ B (rNeS X.K) neD := by
  intro w ρ z σ H d e k v u Q S rv ru h q
  unfold neD at h
  obtain ⟨k', h', rfl⟩ := Option.map_eq_some_iff.mp h
  rcases eqD_cases h' rv ru with ⟨h1, rfl⟩ | h'
  · exact .inl ⟨h1, q⟩
  · obtain ⟨p, p', h1, h2, h3, h4, rfl⟩ := eqG_some h'
    exact .inr ⟨p, p', rv.dp hK S.wi.le h1, ru.dp hK S.wi.le h2, h3, h4, q⟩
/-- a text in a text -/
def inS (_ : Z) : D → D → Option Bool
  | .str i, .str j => some (!(Builtin.Str.occurrences j i 0 j.length 1).isEmpty)
  | _, _ => none
theorem ob_inS : OpB Γ B (fun x y H Q => ∃ i j, x = .str i ∧ y = .str j ∧ Q (.bl (!(Builtin.Str.occurrences j i 0 j.length 1).isEmpty)) H) inS := by
  intro w ρ z σ H d e k v u Q S rv ru h q
  unfold inS at h
  split at h
  · cases h
    cases rv.str; cases ru.str
    exact ⟨_, _, rfl, rfl, q⟩
  · cases h

/-! ### subscripts -/
def ixD (z : Z) : D → D → Option D
  | .lst ds, .int i => atI ds i
  | .tup ds, .int i => atI ds i
  | .str x, .int i => if x.length ≤ sizeLine then (atI x.cps.toList i).map fun c => .str ⟨#[c]⟩ else none
  | .mob n, .int i => match z[n]? with
    | some (.lst ds) => atI ds i
    | _ => none
  | _, _ => none
theorem atI_rep {w : W} {ds : List D} {vs : List V} {i : Int} {d : D} (r : RepL Γ w ds vs) (h : atI ds i = some d) : ∃ v, atI vs i = some v ∧ Rep Γ w d v := by
  unfold atI at h ⊢
  obtain ⟨j, h1, h2⟩ := Option.bind_eq_some_iff.mp h
  obtain ⟨v, h3, h4⟩ := r.get h2
  exact ⟨v, by rw [r.length, h1]; exact h3, h4⟩
theorem od_ix : OpD Γ B (rIx Γ.K) ixD := by
  intro Wx w ρ z σ H d e d' v u Q S rv ru h q
  unfold ixD at h
  split at h
  · obtain ⟨a, xs, rfl, h1, h2⟩ := rv.list S
    cases ru.int
    obtain ⟨v', h3, h4⟩ := atI_rep h2 h
    exact .inl ⟨a, xs, _, v', rfl, rfl, h1.sq, h3, q.ok S _ h4⟩
  · obtain ⟨a, xs, rfl, h1, h2⟩ := rv.tuple S
    cases ru.int
    obtain ⟨v', h3, h4⟩ := atI_rep h2 h
    exact .inr (.inl ⟨a, xs, _, v', rfl, rfl, h1, h3, q.ok S _ h4⟩)
  · cases rv.str; cases ru.int
    split at h
    · obtain ⟨c, h1, rfl⟩ := Option.map_eq_some_iff.mp h
      exact .inr (.inr ⟨_, _, c, rfl, rfl, by assumption, h1, q.ok S _ (.str _)⟩)
    · cases h
  · split at h
    · rename_i ds hz
      obtain ⟨a, xs, rfl, _, h1, h2⟩ := rv.mobl S hz
      cases ru.int
      obtain ⟨v', h3, h4⟩ := atI_rep h2 h
      exact .inl ⟨a, xs, _, v', rfl, rfl, SqL.of h1, h3, q.ok S _ h4⟩
    · cases h
  · cases h
variable {Wx : WX} {k : Nat} {a b e : Expr} {ma mb : M D} {pos : Pos}
theorem d_ix (hK : X.K = Γ.K) (ha : PE X a (tB Γ B Wx ma)) (hb : PE X b (tB Γ B Wx mb)) (hs : PlainIx b := by intro _ _; rfl) : PE X (.Subscript a b pos) (tD Γ B Wx (mOp2 ixD ma mb)) :=
  pe_weak (pe_ix ix_seq ha hb hs) (by rw [hK]; exact op2_to od_ix)

/-! ### slices -/
def cutL {α : Type} (xs : List α) (lo hi : Option Int) : List α := (xs.drop (HT.sIx xs.length 0 lo)).take (HT.sIx xs.length xs.length hi - HT.sIx xs.length 0 lo)
def tO (m : M (Option Int)) : TO := fun σ H Q => ∃ w ρ z, SI Γ B w ρ z σ H ∧ resTo Γ B Wx w ρ σ H (m ρ z) fun o _ _ H' => Q o H'
theorem o_none : PO X none (tO (Γ := Γ) (B := B) (Wx := Wx) (mRet none)) := ⟨fun pins s σ H Q I ⟨w, ρ, z, S, q⟩ => po_none.run pins s σ H Q I (q.ok S)⟩
def toI : D → Option Int
  | .int i => some i
  | _ => none
theorem toI_some {d : D} {i : Int} (h : toI d = some i) : d = .int i := by
  unfold toI at h
  split at h
  · cases h; rfl
  · cases h
theorem o_some (h : PE X e (tB Γ B Wx ma)) : PO X (some e) (tO (Γ := Γ) (B := B) (Wx := Wx) (mOp1 (fun _ d => (toI d).map some) ma)) := ⟨fun pins s σ H Q I ⟨w, ρ, z, S, q⟩ => (po_some h).run pins s σ H Q I
  ⟨w, ρ, z, S, q.bind.mono fun d w1 z1 H1 _ _ ⟨S1, s1, q1⟩ v rv => by
    obtain ⟨o, ho, q2⟩ := q1.opt
    obtain ⟨i, hi, rfl⟩ := Option.map_eq_some_iff.mp ho
    cases toI_some hi
    cases rv.int
    exact ⟨_, rfl, q2.ok S1⟩⟩⟩
/-- of a tuple or a text -/
def slD (_ : Z) (d : D) (lo hi : Option Int) : Option D := match d with
  | .tup ds => some (.tup (cutL ds lo hi))
  | .str x => if x.length ≤ sizeLine then some (.str (cutS x lo hi)) else none
  | _ => none
def slL (z : Z) (d : D) (lo hi : Option Int) : Option (List D) := match d with
  | .lst ds => some (cutL ds lo hi)
  | .mob n => match z[n]? with
    | some (.lst ds) => some (cutL ds lo hi)
    | _ => none
  | _ => none
def mSl {α : Type} (f : Z → D → Option Int → Option Int → Option α) (m : M D) (lo hi : M (Option Int)) : M α := mBind m fun d => mBind lo fun l => mBind hi fun h => mOpt fun z => f z d l h
theorem cutV_rep {w : W} {ds : List D} {vs : List V} (r : RepL Γ w ds vs) (lo hi : Option Int) : RepL Γ w (cutL ds lo hi) (cutV vs lo hi) := by
  unfold cutL cutV
  rw [r.length]
  exact (r.drop _).take _
theorem cutL_length {α : Type} (xs : List α) (lo hi : Option Int) : (cutL xs lo hi).length ≤ xs.length := by
  unfold cutL
  rw [List.length_take, List.length_drop]
  omega
theorem cutL_whole {α : Type} {xs : List α} {lo hi : Option Int} (h : HT.sIx xs.length 0 lo = 0 ∧ HT.sIx xs.length xs.length hi = xs.length) : cutL xs lo hi = xs := by
  unfold cutL
  rw [h.1, h.2, List.drop_zero, Nat.sub_zero, List.take_length]
variable {lo hi : Option Expr} {ml mh : M (Option Int)} {p2 : Pos}
theorem d_slT (hK : X.K = Γ.K) (he : PE X e (tB Γ B Wx ma)) (hl : PO X lo (tO (Γ := Γ) (B := B) (Wx := Wx) ml)) (hh : PO X hi (tO (Γ := Γ) (B := B) (Wx := Wx) mh)) : PE X (.Subscript e (.Slice lo hi none p2) pos) (tD Γ B Wx (mSl slD ma ml mh)) :=
  pe_weak (pe_slice (SlR.or sl_tupA sl_str) he hl hh) fun σ H Q ⟨w, ρ, z, S, q⟩ => ⟨w, ρ, z, S, q.bind.mono fun d w1 z1 H1 _ _ ⟨S1, s1, q1⟩ v rv => ⟨w1, ρ, z1, S1, q1.bind.mono fun l w2 z2 H2 _ _ ⟨S2, s2, q2⟩ =>
    ⟨w2, ρ, z2, S2, q2.bind.mono fun h w3 z3 H3 _ _ ⟨S3, s3, q3⟩ => by
      obtain ⟨d', hd, q4⟩ := q3.opt
      have rv3 := (rv.step s2).step s3
      unfold slD at hd
      split at hd
      · cases hd
        have rv' := rv3.rep (fun _ => nofun)
        obtain ⟨a, xs, rfl, h1, h2⟩ := rv3.tuple S3
        refine .inl ⟨a, xs, rfl, by rw [hK]; exact h1, fun hw => ?_, fun _ p hp => ?_⟩
        · rw [h2.length] at hw
          rw [cutL_whole hw] at q4
          exact q4.ok S3 _ rv'
        · obtain ⟨S4, s4, r4⟩ := S3.tup (cutV_rep h2 l h) hp
          exact q4 _ _ S4 s4 _ r4
      · cases rv3.str
        split at hd
        · cases hd
          exact .inr ⟨_, rfl, by assumption, q4.ok S3 _ (.str _)⟩
        · cases hd
      · cases hd⟩⟩⟩
/-- of a list: a new list of its own -/
theorem f_slL (hK : X.K = Γ.K) (he : PE X e (tB Γ B Wx ma)) (hl : PO X lo (tO (Γ := Γ) (B := B) (Wx := Wx) ml)) (hh : PO X hi (tO (Γ := Γ) (B := B) (Wx := Wx) mh)) : PE X (.Subscript e (.Slice lo hi none p2) pos) (tF Γ B Wx (mSl slL ma ml mh)) :=
  pe_weak (pe_slice sl_list he hl hh) fun σ H Q ⟨w, ρ, z, S, q⟩ => ⟨w, ρ, z, S, q.bind.mono fun d w1 z1 H1 _ t1 ⟨S1, s1, q1⟩ v rv => ⟨w1, ρ, z1, S1, q1.bind.mono fun l w2 z2 H2 _ t2 ⟨S2, s2, q2⟩ =>
    ⟨w2, ρ, z2, S2, q2.bind.mono fun h w3 z3 H3 _ t3 ⟨S3, s3, q3⟩ => by
      obtain ⟨ds', hd, q4⟩ := q3.opt
      have rv3 := (rv.step s2).step s3
      have fin : ∀ {a : Addr} {xs : List V} {ds : List D}, ds' = cutL ds l h → SqS Γ.K H3 a xs → RepL Γ w3 ds xs → v = .ref a → rSlL X.K v l h H3 Q := fun {a xs ds} e h1 h2 hv => by
        subst e
        refine ⟨a, xs, hv, by rw [hK]; exact h1.sq, fun p hp => ?_⟩
        obtain ⟨S4, s4, r4, r5, r6⟩ := S3.lstO (cutV_rep h2 l h) hp
        have hp0 : H p = none := by
          cases e : H p with
          | none => rfl
          | some o => obtain ⟨o', h'⟩ := ((t1.trans t2).trans t3).y p o e; rw [h'] at hp; cases hp
        exact q4 _ _ S4 s4 p r4 r5 r6 hp0
      unfold slL at hd
      split at hd
      · cases hd
        obtain ⟨a, xs, hv, h1, h2⟩ := rv3.list S3
        exact fin rfl h1 h2 hv
      · split at hd
        · rename_i ds hz
          cases hd
          obtain ⟨a, xs, hv, _, h1, h2⟩ := rv3.mobl S3 hz
          exact fin rfl (SqS.of h1) h2 hv
        · cases hd
      · cases hd⟩⟩⟩
end
end NW
set_option maxHeartbeats 400000
/-! Built-in calls, methods of texts, what is walked, list comprehensions. -/
namespace NW
open PySem PySem.Spec PyProof.Rows L2

section
variable {X : Cx} {Γ : Gam} {B : Bs} {Wx : WX} {k : Nat} {a b e : Expr} {es : List Expr} {m ma mb : M D} {ml : M (List D)} {pos : Pos}
/-! ### calls of built-ins -/
abbrev PR (Γ : Gam) (w : W) (H : Hp) : List D → List V → Prop := Paired (fun d v => RepB Γ w H d v)
abbrev RC := List V → Hp → VK → Prop
def OpC (Γ : Gam) (B : Bs) (r : RC) (f : Z → List D → Option D) : Prop := ∀ {Wx : WX} {w : W} {ρ : En} {z : Z} {σ : Sl} {H : Hp} {ds : List D} {d' : D} {vs : List V} {Q : VK},
  SI Γ B w ρ z σ H → PR Γ w H ds vs → f z ds = some d' → resTo Γ B Wx w ρ σ H (.ok d' z) (fun d w' _ H' => ∀ v, Rep Γ w' d v → Q v H') → r vs H Q
/-- one that makes a new list -/
def OpCF (Γ : Gam) (B : Bs) (r : RC) (f : Z → List D → Option (List D)) : Prop := ∀ {Wx : WX} {w : W} {ρ : En} {z : Z} {σ : Sl} {H : Hp} {ds es : List D} {vs : List V} {Q : VK},
  SI Γ B w ρ z σ H → PR Γ w H ds vs → f z ds = some es → resTo Γ B Wx w ρ σ H (.ok es z) (fun ds w' _ H' => ∀ p, OwnRep Γ w' H' p (.lst ds) → w'.R p = none → p ∉ w'.pl → H p = none → Q (.ref p) H') → r vs H Q
def mCall {α : Type} (f : Z → List D → Option α) (ml : M (List D)) : M α := mBind ml fun ds => mOpt fun z => f z ds
theorem callD_to {r : RC} {f : Z → List D → Option D} (hf : OpC Γ B r f) : ∀ σ H Q, tD Γ B Wx (mCall f ml) σ H Q → tCB r (tBA Γ B Wx ml) σ H Q := fun σ H Q ⟨w, ρ, z, S, q⟩ =>
  ⟨w, ρ, z, S, q.bind.mono fun ds w1 z1 H1 _ _ ⟨S1, s1, q1⟩ vs rvs => by
    obtain ⟨d', hd, q2⟩ := q1.opt
    exact hf S1 rvs hd q2⟩
theorem none_back {w w' : W} {H H' : Hp} (s : Step w H w' H') {p : Addr} (h : H' p = none) : H p = none := by
  cases e : H p with
  | none => rfl
  | some o => obtain ⟨o', h'⟩ := s.y p o e; rw [h'] at h; cases h
theorem callF_to {r : RC} {f : Z → List D → Option (List D)} (hf : OpCF Γ B r f) : ∀ σ H Q, tF Γ B Wx (mCall f ml) σ H Q → tCB r (tBA Γ B Wx ml) σ H Q := fun σ H Q ⟨w, ρ, z, S, q⟩ =>
  ⟨w, ρ, z, S, q.bind.mono fun ds w1 z1 H1 _ t1 ⟨S1, s1, q1⟩ vs rvs => by
    obtain ⟨d', hd, q2⟩ := q1.opt
    exact hf S1 rvs hd (q2.mono fun _ _ _ _ _ _ k p o1 o2 o3 hp => k p o1 o2 o3 (none_back t1 hp))⟩
variable {x : Str} {p : Pos} {id T : String} {r : RC}
theorem d_callB {f : Z → List D → Option D} (hc : CallR X (.builtin id) r) (hf : OpC Γ B r f) (hm : X.mg x = none) (hv : bootBuiltins x = some (.builtin id)) (ha : PA X (e :: es) (tBA Γ B Wx ml)) (hg : Gl X x := by rfl) (hn : x ≠ "__name__" := by decide) (hdb : (x == ("__debug__" : Str)) = false := by decide)
    (he : starEach (e :: es) X.env = (false, eval e X.env) :: starEach es X.env := by rfl) (hpl : (backTo pos (starEach es X.env)).any (·.1) = false := by rfl) : PE X (.Call (.Name x p) (e :: es) [] pos) (tD Γ B Wx (mCall f ml)) := pe_weak (pe_callB hc hg hm hv ha hn hdb he hpl) (callD_to hf)
theorem f_callB {f : Z → List D → Option (List D)} (hc : CallR X (.builtin id) r) (hf : OpCF Γ B r f) (hm : X.mg x = none) (hv : bootBuiltins x = some (.builtin id)) (ha : PA X (e :: es) (tBA Γ B Wx ml)) (hg : Gl X x := by rfl) (hn : x ≠ "__name__" := by decide) (hdb : (x == ("__debug__" : Str)) = false := by decide)
    (he : starEach (e :: es) X.env = (false, eval e X.env) :: starEach es X.env := by rfl) (hpl : (backTo pos (starEach es X.env)).any (·.1) = false := by rfl) : PE X (.Call (.Name x p) (e :: es) [] pos) (tF Γ B Wx (mCall f ml)) := pe_weak (pe_callB hc hg hm hv ha hn hdb he hpl) (callF_to hf)
theorem d_callTy {f : Z → List D → Option D} (hc : CallR X (.type T) r) (hf : OpC Γ B r f) (hm : X.mg x = none) (hv : bootBuiltins x = some (.type T)) (ha : PA X (e :: es) (tBA Γ B Wx ml)) (hg : Gl X x := by rfl) (hn : x ≠ "__name__" := by decide) (hdb : (x == ("__debug__" : Str)) = false := by decide)
    (he : starEach (e :: es) X.env = (false, eval e X.env) :: starEach es X.env := by rfl) (hpl : (backTo pos (starEach es X.env)).any (·.1) = false := by rfl) : PE X (.Call (.Name x p) (e :: es) [] pos) (tD Γ B Wx (mCall f ml)) := pe_weak (pe_callTy hc hg hm hv ha hn hdb he hpl) (callD_to hf)
theorem f_callTy {f : Z → List D → Option (List D)} (hc : CallR X (.type T) r) (hf : OpCF Γ B r f) (hm : X.mg x = none) (hv : bootBuiltins x = some (.type T)) (ha : PA X (e :: es) (tBA Γ B Wx ml)) (hg : Gl X x := by rfl) (hn : x ≠ "__name__" := by decide) (hdb : (x == ("__debug__" : Str)) = false := by decide)
    (he : starEach (e :: es) X.env = (false, eval e X.env) :: starEach es X.env := by rfl) (hpl : (backTo pos (starEach es X.env)).any (·.1) = false := by rfl) : PE X (.Call (.Name x p) (e :: es) [] pos) (tF Γ B Wx (mCall f ml)) := pe_weak (pe_callTy hc hg hm hv ha hn hdb he hpl) (callF_to hf)
theorem pr1 {w : W} {H : Hp} {d : D} {vs : List V} (r : PR Γ w H [d] vs) : ∃ v, vs = [v] ∧ RepB Γ w H d v := by
  cases r with
  | cons h r => cases r; exact ⟨_, rfl, h⟩
theorem pr2 {w : W} {H : Hp} {d d' : D} {vs : List V} (r : PR Γ w H [d, d'] vs) : ∃ v u, vs = [v, u] ∧ RepB Γ w H d v ∧ RepB Γ w H d' u := by
  cases r with
  | cons h r => cases r with
    | cons h' r => cases r; exact ⟨_, _, rfl, h, h'⟩
/-- len -/
def lenD (z : Z) : List D → Option D
  | [.lst ds] => some (.int ds.length)
  | [.tup ds] => some (.int ds.length)
  | [.str x] => if x.length ≤ sizeLine then some (.int x.length) else none
  | [.mob n] => match z[n]? with
    | some (.lst ds) => some (.int ds.length)
    | _ => none
  | _ => none
theorem oc_len : OpC Γ B (fun xs H Q => ∃ x n, xs = [x] ∧ LenV Γ.K x H n ∧ Q (.int n) H) lenD := by
  intro Wx w ρ z σ H ds d' vs Q S rvs h q
  unfold lenD at h
  split at h
  · cases h
    obtain ⟨v, rfl, r⟩ := pr1 rvs
    obtain ⟨a, xs, rfl, h1, h2⟩ := r.list S
    exact ⟨_, _, rfl, .inl ⟨xs, h1.sq, h2.length.symm⟩, q.ok S _ (.int _)⟩
  · cases h
    obtain ⟨v, rfl, r⟩ := pr1 rvs
    obtain ⟨a, xs, rfl, h1, h2⟩ := r.tuple S
    exact ⟨_, _, rfl, .inr ⟨xs, h1, h2.length.symm⟩, q.ok S _ (.int _)⟩
  · obtain ⟨v, rfl, r⟩ := pr1 rvs
    cases r.str
    split at h
    · cases h
      exact ⟨_, _, rfl, ⟨by assumption, rfl⟩, q.ok S _ (.int _)⟩
    · cases h
  · obtain ⟨v, rfl, r⟩ := pr1 rvs
    split at h
    · rename_i ds hz
      cases h
      obtain ⟨a, xs, rfl, _, h1, h2⟩ := r.mobl S hz
      exact ⟨_, _, rfl, .inl ⟨xs, SqL.of h1, h2.length.symm⟩, q.ok S _ (.int _)⟩
    · cases h
  · cases h
theorem cr_len (hK : X.K = Γ.K) : CallR X (.builtin "len") (fun xs H Q => ∃ x n, xs = [x] ∧ LenV Γ.K x H n ∧ Q (.int n) H) := by rw [← hK]; exact call_len
/-- int(n), int(True) -/
def intD (_ : Z) : List D → Option D
  | [.int i] => some (.int i)
  | [.bl b] => some (.int (if b then 1 else 0))
  | _ => none
theorem oc_int : OpC Γ B (fun xs H Q => (∃ i, xs = [.int i] ∧ Q (.int i) H) ∨ ∃ k, xs = [.bl k] ∧ Q (.int (if k then 1 else 0)) H) intD := by
  intro Wx w ρ z σ H ds d' vs Q S rvs h q
  unfold intD at h
  split at h
  · cases h
    obtain ⟨v, rfl, r⟩ := pr1 rvs
    cases r.int
    exact .inl ⟨_, rfl, q.ok S _ (.int _)⟩
  · cases h
    obtain ⟨v, rfl, r⟩ := pr1 rvs
    cases r.bl
    exact .inr ⟨_, rfl, q.ok S _ (.int _)⟩
  · cases h
/-- all, any of a list of truths -/
def blsOf : List D → Option (List Bool)
  | [] => some []
  | .bl b :: r => (blsOf r).map (b :: ·)
  | _ :: _ => none
theorem blsOf_rep {w : W} : ∀ {ds : List D} {vs : List V} {bs : List Bool}, RepL Γ w ds vs → blsOf ds = some bs → vs = bs.map V.bl
  | [], _, _, r, h => by cases r; cases h; rfl
  | d :: ds, _, _, r, h => by
    cases r with
    | cons h1 h2 =>
      unfold blsOf at h
      split at h
      · rename_i e; cases e
      · rename_i e
        cases e
        obtain ⟨bs, h3, rfl⟩ := Option.map_eq_some_iff.mp h
        cases h1
        rw [blsOf_rep h2 h3]; rfl
      · cases h
def allD (f : List Bool → Bool) (_ : Z) : List D → Option D
  | [.lst ds] => (blsOf ds).map fun bs => .bl (f bs)
  | _ => none
theorem oc_bls {f : List Bool → Bool} : OpC Γ B (fun vs H Q => ∃ (a : Addr) (bs : List Bool), vs = [V.ref a] ∧ SqL Γ.K H a (bs.map V.bl) ∧ Q (.bl (f bs)) H) (allD f) := by
  intro Wx w ρ z σ H ds d' vs Q S rvs h q
  unfold allD at h
  split at h
  · obtain ⟨bs, h1, rfl⟩ := Option.map_eq_some_iff.mp h
    obtain ⟨v, rfl, r⟩ := pr1 rvs
    obtain ⟨a, xs, rfl, h3, h4⟩ := r.list S
    cases blsOf_rep h4 h1
    exact ⟨a, bs, rfl, h3.sq, q.ok S _ (.bl _)⟩
  · cases h
theorem cr_allK (hK : X.K = Γ.K) (hc : X.calm = true) : CallR X (.builtin "all") (fun vs H Q => ∃ (a : Addr) (bs : List Bool), vs = [V.ref a] ∧ SqL Γ.K H a (bs.map V.bl) ∧ Q (.bl (bs.all _root_.id)) H) := by rw [← hK]; exact cr_all hc
theorem cr_anyK (hK : X.K = Γ.K) (hc : X.calm = true) : CallR X (.builtin "any") (fun vs H Q => ∃ (a : Addr) (bs : List Bool), vs = [V.ref a] ∧ SqL Γ.K H a (bs.map V.bl) ∧ Q (.bl (bs.any _root_.id)) H) := by rw [← hK]; exact cr_any hc
/-- list(xs), list(t): a new list -/
def listD (z : Z) : List D → Option (List D)
  | [.lst ds] => some ds
  | [.tup ds] => some ds
  | [.mob n] => match z[n]? with
    | some (.lst ds) => some ds
    | _ => none
  | _ => none
theorem oc_list : OpCF Γ B (fun xs H Q => ∃ p ys, xs = [.ref p] ∧ (SqL Γ.K H p ys ∨ SqT Γ.K H p ys) ∧ ∀ l, H l = none → Q (.ref l) (upd H l (.lst ys))) listD := by
  intro Wx w ρ z σ H ds es vs Q S rvs h q
  have fin : ∀ {ys : List V}, RepL Γ w es ys → ∀ l, H l = none → Q (.ref l) (upd H l (.lst ys)) := fun {ys} hr l hl => by
    obtain ⟨S4, s4, r4, r5, r6⟩ := S.lstO hr hl
    exact q _ _ S4 s4 l r4 r5 r6 hl
  unfold listD at h
  split at h
  · cases h
    obtain ⟨v, rfl, r⟩ := pr1 rvs
    obtain ⟨a, xs, rfl, h1, h2⟩ := r.list S
    exact ⟨a, xs, rfl, .inl h1.sq, fin h2⟩
  · cases h
    obtain ⟨v, rfl, r⟩ := pr1 rvs
    obtain ⟨a, xs, rfl, h1, h2⟩ := r.tuple S
    exact ⟨a, xs, rfl, .inr h1, fin h2⟩
  · split at h
    · rename_i ds hz
      cases h
      obtain ⟨v, rfl, r⟩ := pr1 rvs
      obtain ⟨a, xs, rfl, _, h1, h2⟩ := r.mobl S hz
      exact ⟨a, xs, rfl, .inl (SqL.of h1), fin h2⟩
    · cases h
  · cases h
theorem cr_list (hK : X.K = Γ.K) : CallR X (.type "list") (fun xs H Q => ∃ p ys, xs = [.ref p] ∧ (SqL Γ.K H p ys ∨ SqT Γ.K H p ys) ∧ ∀ l, H l = none → Q (.ref l) (upd H l (.lst ys))) := by rw [← hK]; exact call_list_of
/-- tuple(xs), tuple(t) -/
def tupleD (z : Z) : List D → Option D
  | [.lst ds] => some (.tup ds)
  | [.tup ds] => some (.tup ds)
  | [.mob n] => match z[n]? with
    | some (.lst ds) => some (.tup ds)
    | _ => none
  | _ => none
def rTupleD (K : PySem.W.Frag) : RC := fun xs H Q => ∃ p ys, xs = [.ref p] ∧ ((SqL K H p ys ∧ ∀ l, H l = none → Q (.ref l) (upd H l (.tup ys))) ∨ (SqT K H p ys ∧ Q (.ref p) H))
theorem oc_tuple : OpC Γ B (rTupleD Γ.K) tupleD := by
  intro Wx w ρ z σ H ds d' vs Q S rvs h q
  unfold tupleD at h
  split at h
  · cases h
    obtain ⟨v, rfl, r⟩ := pr1 rvs
    obtain ⟨a, xs, rfl, h1, h2⟩ := r.list S
    refine ⟨a, xs, rfl, .inl ⟨h1.sq, fun l hl => ?_⟩⟩
    obtain ⟨S4, s4, r4⟩ := S.tup h2 hl
    exact q _ _ S4 s4 _ r4
  · cases h
    obtain ⟨v, rfl, r⟩ := pr1 rvs
    have r' := r.rep (fun _ => nofun)
    obtain ⟨a, xs, rfl, h1, h2⟩ := r.tuple S
    exact ⟨a, xs, rfl, .inr ⟨h1, q.ok S _ r'⟩⟩
  · split at h
    · rename_i ds hz
      cases h
      obtain ⟨v, rfl, r⟩ := pr1 rvs
      obtain ⟨a, xs, rfl, _, h1, h2⟩ := r.mobl S hz
      refine ⟨a, xs, rfl, .inl ⟨SqL.of h1, fun l hl => ?_⟩⟩
      obtain ⟨S4, s4, r4⟩ := S.tup h2 hl
      exact q _ _ S4 s4 _ r4
    · cases h
  · cases h
theorem cr_tuple (hK : X.K = Γ.K) : CallR X (.type "tuple") (rTupleD Γ.K) := by rw [← hK]; exact call_tuple_of
/-- str(n), str(s) -/
def strD (_ : Z) : List D → Option D
  | [.int i] => if i.natAbs.log2 < 1920 then some (.str (toString i)) else none
  | _ => none
theorem oc_str : OpC Γ B (fun xs H Q => ∃ i, xs = [.int i] ∧ i.natAbs.log2 < 1920 ∧ Q (.str (toString i)) H) strD := by
  intro Wx w ρ z σ H ds d' vs Q S rvs h q
  unfold strD at h
  split at h
  · obtain ⟨rfl, hz⟩ := ite_some h
    obtain ⟨v, rfl, r⟩ := pr1 rvs
    cases r.int
    exact ⟨_, rfl, hz, q.ok S _ (.str _)⟩
  · cases h
/-- repr of data -/
def reprD (_ : Z) : List D → Option D
  | [d] => (toPy d).bind fun p => if p.showable = true ∧ p.hasDict = false ∧ p.depth ≤ 40 ∧ p.shown.length ≤ sizeLine then some (.str p.shown) else none
  | _ => none
def rRepr (K : PySem.W.Frag) : RC := fun xs H Q => ∃ v p, xs = [v] ∧ Dp K H v p ∧ p.showable = true ∧ p.hasDict = false ∧ p.depth ≤ 40 ∧ p.shown.length ≤ sizeLine ∧ Q (.str p.shown) H
theorem cr_repr (V : Dv Γ X Wx k) : CallR X (.builtin "repr") (rRepr Γ.K) := by
  rintro pins s σ H xs us Q I r ⟨v, p, rfl, hd, h1, h2, h3, h4, q⟩
  obtain ⟨u, rfl, ru⟩ := r.one
  rw [← V.hK] at hd
  cases hd with
  | non => cases ru; exact PySem.P.repr_of_none ⟨.str _, H, I.tok _, ⟨_, rfl⟩, q⟩
  | bl b => cases ru; exact PySem.P.repr_of_bool ⟨.str _, H, I.tok _, ⟨_, rfl⟩, q⟩
  | int i => obtain ⟨t, rfl⟩ := ru; exact PySem.P.repr_of_int (of_decide_eq_true h1) ⟨.str _, H, I.tok _, ⟨_, rfl⟩, q⟩
  | str y => obtain ⟨t, rfl⟩ := ru; exact PySem.P.repr_of_str ⟨.str _, H, I.tok _, ⟨_, rfl⟩, q⟩ h4
  | lst g1 g2 =>
    obtain ⟨as, hr⟩ := Dp.reads I _ _ _ (.lst g1 g2) ru
    cases ru
    exact repr_of_reads' hr h1 (PyData.noDict_hsm h2) V.grd (by have := V.room.units; omega) (fun _ _ e => e) (fun h' u tk hk => ⟨.str _, H, I.kept hk, ⟨_, rfl⟩, q⟩) h4
  | tup g1 g2 =>
    obtain ⟨as, hr⟩ := Dp.reads I _ _ _ (.tup g1 g2) ru
    cases ru
    exact repr_of_reads' hr h1 (PyData.noDict_hsm h2) V.grd (by have := V.room.units; omega) (fun _ _ e => e) (fun h' u tk hk => ⟨.str _, H, I.kept hk, ⟨_, rfl⟩, q⟩) h4
theorem oc_repr : OpC Γ B (rRepr Γ.K) reprD := by
  intro Wx w ρ z σ H ds d' vs Q S rvs h q
  unfold reprD at h
  split at h
  · obtain ⟨p, h1, h2⟩ := Option.bind_eq_some_iff.mp h
    obtain ⟨rfl, h3, h4, h5, h6⟩ := ite_some h2
    obtain ⟨v, rfl, r⟩ := pr1 rvs
    exact ⟨v, p, rfl, r.dp rfl S.wi.le h1, h3, h4, h5, h6, q.ok S _ (.str _)⟩
  · cases h

/-! ### methods of texts -/
def strsOf : List D → Option (List Str)
  | [] => some []
  | .str b :: r => (strsOf r).map (b :: ·)
  | _ :: _ => none
theorem strsOf_rep {w : W} : ∀ {ds : List D} {vs : List V} {bs : List Str}, RepL Γ w ds vs → strsOf ds = some bs → vs = bs.map V.str
  | [], _, _, r, h => by cases r; cases h; rfl
  | d :: ds, _, _, r, h => by
    cases r with
    | cons h1 h2 =>
      unfold strsOf at h
      split at h
      · rename_i e; cases e
      · rename_i e
        cases e
        obtain ⟨bs, h3, rfl⟩ := Option.map_eq_some_iff.mp h
        cases h1
        rw [strsOf_rep h2 h3]; rfl
      · cases h
def joinD (_ : Z) : D → D → Option D
  | .str a, .lst ds => (strsOf ds).bind fun ys => if (ys.map (·.length)).sum + ys.length * a.length ≤ 16777216 then some (.str (Txt.join a ys)) else none
  | _, _ => none
def isS (_ : Z) : D → Option D
  | .str a => some (.str a)
  | _ => none
def mJoin (ma m : M D) : M D := mBind (mOp1 isS ma) fun d => mBind m fun d' => mOpt fun z => joinD z d d'
theorem d_join (hK : X.K = Γ.K) (ho : PE X a (tB Γ B Wx ma)) (he : PE X e (tB Γ B Wx m)) {apos : Pos} (hs : starEach [e] X.env = [(false, eval e X.env)] := by rfl) (hbase : attributeBase a "join" X.env (eval a X.env) = eval a X.env := by rfl) (hline : (apos.endLine == pos.line) = true := by rfl) :
    PE X (.Call (.Attribute a "join" apos) [e] [] pos) (tD Γ B Wx (mJoin ma m)) :=
  pe_weak (pe_join ho he hs hbase hline) fun σ H Q ⟨w, ρ, z, S, q⟩ => ⟨w, ρ, z, S, q.bind.bind.mono fun d w1 z1 H1 _ _ ⟨S1, s1, q1⟩ v rv => by
    obtain ⟨d0, hd0, q1⟩ := q1.opt
    unfold isS at hd0
    split at hd0
    · cases hd0
      cases rv.str
      obtain ⟨_, _, q1⟩ := q1.ok S1
      refine ⟨⟨_, rfl⟩, w1, ρ, z1, S1, q1.bind.mono fun d' w2 z2 H2 _ _ ⟨S2, s2, q2⟩ u ru => ?_⟩
      obtain ⟨x, hx, q3⟩ := q2.opt
      unfold joinD at hx
      split at hx
      · rename_i e1 e2
        cases e1
        obtain ⟨ys, h1, h2⟩ := Option.bind_eq_some_iff.mp hx
        obtain ⟨rfl, h3⟩ := ite_some h2
        obtain ⟨p, xs, rfl, h4, h5⟩ := ru.list S2
        cases strsOf_rep h5 h1
        exact ⟨_, p, ys, rfl, rfl, .inl (by rw [hK]; exact h4.sq), h3, q3.ok S2 _ (.str _)⟩
      · cases hx
    · cases hd0⟩
end
end NW
set_option maxHeartbeats 400000
/-! What is walked, targets, list comprehensions, statements, loops. -/
namespace NW
open PySem PySem.Spec PyProof.Rows L2

section
variable {X : Cx} {Γ : Gam} {B : Bs} {Wx : WX} {k : Nat} {a b e tg : Expr} {es : List Expr} {m ma mb : M D} {ml : M (List D)} {pos : Pos}
/-! ### what is walked -/
/-- J gives the items ds in every state of Fut -/
structure ItD (Γ : Gam) (Fut : W → Hp → Prop) (J : It) (ds : List D) : Prop where
  go : ∀ (i : Nat) (w : W) (z : Z) (H : Hp), Fut w H → WI Γ w z H → i < ds.length → J.go i H
  yld : ∀ (i : Nat) (w : W) (z : Z) (H : Hp) (x : V) (H' : Hp) (d : D), Fut w H → WI Γ w z H → ds[i]? = some d → J.yld i H x H' → ∃ w', WI Γ w' z H' ∧ Step w H w' H' ∧ Rep Γ w' d x
  stop : ∀ (w : W) (z : Z) (H : Hp), Fut w H → WI Γ w z H → J.stop ds.length H
/-- shared things: as long as the world grows; borrowed ones: as long as nothing is changed -/
def tDI (Γ : Gam) (B : Bs) (Wx : WX) (m : M (List D)) : TI := fun σ H R => ∃ w ρ z, SI Γ B w ρ z σ H ∧ resTo Γ B Wx w ρ σ H (m ρ z) fun ds w' _ H' => ∀ (J : It) (Fut : W → Hp → Prop), (∀ w1 H1, Ext w' w1 → Fut w1 H1) → ItD Γ Fut J ds → R J H'
def tBI (Γ : Gam) (B : Bs) (Wx : WX) (m : M (List D)) : TI := fun σ H R => ∃ w ρ z, SI Γ B w ρ z σ H ∧ resTo Γ B Wx w ρ σ H (m ρ z) fun ds w' _ H' => ∀ (J : It) (Fut : W → Hp → Prop), (∀ w1 H1, Step w' H' w1 H1 → Fut w1 H1) → ItD Γ Fut J ds → R J H'
theorem pi_weak {t t' : TI} (h : PI X tg e t) (k : ∀ σ H R, t' σ H R → t σ H R) : PI X tg e t' := ⟨fun p s σ H R I q => h.run p s σ H R I (k _ _ _ q)⟩
theorem i_b (h : PI X tg e (tDI Γ B Wx ml)) : PI X tg e (tBI Γ B Wx ml) := pi_weak h fun σ H R ⟨w, ρ, z, S, q⟩ => ⟨w, ρ, z, S, q.mono fun ds w' z' H' _ _ k J Fut hf it => k J Fut (fun w1 H1 s => hf w1 H1 s.ext) it⟩
def iAny (K : PySem.W.Frag) (te : TE) : TI := fun σ H R => te σ H fun x H1 => (∃ a xs, x = .ref a ∧ SqL K H1 a xs ∧ R (Itl K a) H1) ∨ (∃ a xs, x = .ref a ∧ SqT K H1 a xs ∧ R (Itt K a) H1) ∨ ∃ y, x = .str y ∧ R (Its y) H1
theorem pi_any {te : TE} (he : PE X e te) : PI X tg e (iAny X.K te) := by
  refine ⟨fun pins s σ H R I h => thn (he.run pins s σ H _ I h) fun v s1 ⟨x, H1, I1, r1, q1⟩ => ?_⟩
  rcases q1 with ⟨a, xs, rfl, hq, q⟩ | ⟨a, xs, rfl, hq, q⟩ | ⟨y, rfl, q⟩
  · cases r1
    obtain ⟨its, rv, p, hz⟩ := I1.list hq
    exact wpAny_pyIter_list p.isList (pi_one (tk := s1.toks) I1 _ (turn_list a _) ⟨_, Heap.get?_push_size _ rfl, rfl, rfl⟩ q)
  · cases r1
    obtain ⟨its, rv, p, hz⟩ := I1.tuple hq
    exact wpAny_pyIter_tuple (show s1.heap.IsTuple a its.toArray from p) (pi_one (tk := s1.toks) I1 _ (turn_tuple a _) ⟨_, Heap.get?_push_size _ rfl, rfl, rfl⟩ q)
  · obtain ⟨t, rfl⟩ := r1
    cases ha : y.cps.all (· < 128)
    · exact wpAny_pyIter_wide ha (pi_one (tk := s1.toks) I1 _ (turn_str _ y t "str_iterator" (.inr rfl)) ⟨_, Heap.get?_push_size _ rfl, rfl, rfl⟩ q)
    · exact wpAny_pyIter_ascii ha (pi_one (tk := s1.toks) I1 _ (turn_str _ y t "str_ascii_iterator" (.inl rfl)) ⟨_, Heap.get?_push_size _ rfl, rfl, rfl⟩ q)
def sgn (c : Nat) : D := .str ⟨#[c]⟩
def itemsD : D → Option (List D)
  | .lst ds => some ds
  | .tup ds => some ds
  | .str x => some (x.cps.toList.map sgn)
  | _ => none
def mItems (m : M D) : M (List D) := mBind m fun d => mOpt fun _ => itemsD d
theorem it_seqL {Fut : W → Hp → Prop} {ds : List D} {v : V} {a : Addr} (hv : v = .ref a) (r : ∀ w H z, Fut w H → WI Γ w z H → ∃ xs, SqL Γ.K H a xs ∧ RepL Γ w ds xs) (u : ∀ (H : Hp) xs ys, SqL Γ.K H a xs → SqL Γ.K H a ys → True) : ItD Γ Fut (Itl Γ.K a) ds where
  go := fun i w z H f I hi => by
    obtain ⟨xs, h1, h2⟩ := r w H z f I
    have hx : i < xs.length := by rw [h2.length]; exact hi
    exact ⟨xs, xs[i], h1, List.getElem?_eq_getElem hx⟩
  yld := fun i w z H x H' d f I hd y => by
    obtain ⟨rfl, y⟩ := y
    obtain ⟨xs, h1, h2⟩ := r w H' z f I
    obtain ⟨v, h3, h4⟩ := h2.get hd
    rw [y xs h1] at h3
    cases h3
    exact ⟨w, I, Step.refl _ _, h4⟩
  stop := fun w z H f I => by
    obtain ⟨xs, h1, h2⟩ := r w H z f I
    exact ⟨xs, h1, Nat.le_of_eq h2.length⟩
theorem it_seqT {Fut : W → Hp → Prop} {ds : List D} {a : Addr} (r : ∀ w H z, Fut w H → WI Γ w z H → ∃ xs, SqT Γ.K H a xs ∧ RepL Γ w ds xs) : ItD Γ Fut (Itt Γ.K a) ds where
  go := fun i w z H f I hi => by
    obtain ⟨xs, h1, h2⟩ := r w H z f I
    have hx : i < xs.length := by rw [h2.length]; exact hi
    exact ⟨xs, xs[i], h1, List.getElem?_eq_getElem hx⟩
  yld := fun i w z H x H' d f I hd y => by
    obtain ⟨rfl, y⟩ := y
    obtain ⟨xs, h1, h2⟩ := r w H' z f I
    obtain ⟨v, h3, h4⟩ := h2.get hd
    rw [y xs h1] at h3
    cases h3
    exact ⟨w, I, Step.refl _ _, h4⟩
  stop := fun w z H f I => by
    obtain ⟨xs, h1, h2⟩ := r w H z f I
    exact ⟨xs, h1, Nat.le_of_eq h2.length⟩
theorem it_str {Fut : W → Hp → Prop} {x : Str} : ItD Γ Fut (Its x) (x.cps.toList.map sgn) where
  go := fun i w z H f I hi => by
    show i < x.cps.size
    simpa using hi
  yld := fun i w z H v H' d f I hd y => by
    obtain ⟨rfl, c, hc, rfl⟩ := y
    rw [List.getElem?_map, Array.getElem?_toList, hc] at hd
    cases hd
    exact ⟨w, I, Step.refl _ _, .str _⟩
  stop := fun w z H f I => by
    show x.cps.size ≤ _
    simp
theorem i_any (hK : X.K = Γ.K) (h : PE X e (tD Γ B Wx m)) : PI X tg e (tDI Γ B Wx (mItems m)) := pi_weak (pi_any h) fun σ H R ⟨w, ρ, z, S, q⟩ => by
  rw [hK]
  refine ⟨w, ρ, z, S, q.bind.mono fun d w1 z1 H1 _ _ ⟨S1, s1, q1⟩ v rv => ?_⟩
  obtain ⟨ds, hd, q2⟩ := q1.opt
  have q3 := q2.ok S1
  unfold itemsD at hd
  split at hd
  · cases hd
    cases rv with
    | lst h1 h2 =>
      exact .inl ⟨_, _, rfl, (SqS.le S1.wi.le h1).sq, q3 _ (fun w2 H2 => Ext w1 w2) (fun _ _ h => h) (it_seqL (v := .ref _) rfl (fun w2 H2 z2 f I2 => ⟨_, (SqS.le I2.le (SqS.le f.r h1)).sq, h2.ext f⟩) fun _ _ _ _ _ => trivial)⟩
  · cases hd
    cases rv with
    | tup h1 h2 =>
      exact .inr (.inl ⟨_, _, rfl, S1.KT h1, q3 _ (fun w2 H2 => Ext w1 w2) (fun _ _ h => h) (it_seqT fun w2 H2 z2 f I2 => ⟨_, SqT.le I2.le (SqT.le f.r h1), h2.ext f⟩)⟩)
  · cases hd
    cases rv
    exact .inr (.inr ⟨_, rfl, q3 _ (fun w2 H2 => Ext w1 w2) (fun _ _ h => h) it_str⟩)
  · cases hd
/-- a borrowed list -/
theorem i_anyB (hK : X.K = Γ.K) (h : PE X e (tB Γ B Wx m)) : PI X tg e (tBI Γ B Wx (mItems m)) := pi_weak (pi_any h) fun σ H R ⟨w, ρ, z, S, q⟩ => by
  rw [hK]
  refine ⟨w, ρ, z, S, q.bind.mono fun d w1 z1 H1 _ _ ⟨S1, s1, q1⟩ v rv => ?_⟩
  obtain ⟨ds, hd, q2⟩ := q1.opt
  have q3 := q2.ok S1
  have rv0 := rv
  unfold itemsD at hd
  split at hd
  · cases hd
    obtain ⟨a, xs, rfl, h1, h2⟩ := rv.list S1
    refine .inl ⟨_, _, rfl, h1.sq, q3 _ (fun w2 H2 => Step w1 H1 w2 H2) (fun _ _ h => h) (it_seqL (v := .ref _) rfl (fun w2 H2 z2 f I2 => ?_) fun _ _ _ _ _ => trivial)⟩
    have r2 := rv0.step f
    cases r2 with
    | of r2 => cases r2 with
      | lst g1 g2 => exact ⟨_, (SqS.le I2.le g1).sq, g2⟩
    | own g1 _ _ => obtain ⟨ys, g1, g2⟩ := g1; exact ⟨_, SqL.of g1, g2⟩
  · cases hd
    have r' := rv.rep (fun _ => nofun)
    cases r' with
    | tup h1 h2 =>
      exact .inr (.inl ⟨_, _, rfl, S1.KT h1, q3 _ (fun w2 H2 => Step w1 H1 w2 H2) (fun _ _ h => h) (it_seqT fun w2 H2 z2 f I2 => ⟨_, SqT.le I2.le (SqT.le f.r h1), h2.step f⟩)⟩)
  · cases hd
    cases rv.str
    exact .inr (.inr ⟨_, rfl, q3 _ (fun w2 H2 => Step w1 H1 w2 H2) (fun _ _ h => h) it_str⟩)
  · cases hd
/-- range(n), range(a, b) -/
def rngD (lo : Int) (n : Nat) : List D := (List.range n).map fun (i : Nat) => D.int (lo + (i : Int))
theorem it_rng {Fut : W → Hp → Prop} {lo : Int} {n : Nat} : ItD Γ Fut (Itr lo n) (rngD lo n) where
  go := fun i w z H f I hi => by
    show i < n
    simpa [rngD] using hi
  yld := fun i w z H v H' d f I hd y => by
    obtain ⟨rfl, rfl⟩ := y
    unfold rngD at hd
    rw [List.getElem?_map] at hd
    obtain ⟨j, hj, rfl⟩ := Option.map_eq_some_iff.mp hd
    have : j = i := by
      obtain ⟨hl, e⟩ := List.getElem?_eq_some_iff.mp hj
      rw [List.getElem_range] at e
      exact e.symm
    subst this
    exact ⟨w, I, Step.refl _ _, .int _⟩
  stop := fun w z H f I => by
    show n ≤ _
    simp [rngD]
def rng1 (_ : Z) : List D → Option (List D)
  | [.int n] => if n < 2 ^ 62 ∧ -(2 ^ 62) ≤ n then some (rngD 0 n.toNat) else none
  | _ => none
def rng2 (_ : Z) : List D → Option (List D)
  | [.int a, .int b] => if -(2 ^ 62) ≤ a ∧ a < 2 ^ 62 ∧ -(2 ^ 62) ≤ b ∧ b < 2 ^ 62 then some (rngD a (b - a).toNat) else none
  | _ => none
theorem i_range1 {p : Pos} (hm : X.mg "range" = none) (ha : PA X [a] (tBA Γ B Wx ml)) (hg : Gl X "range" := by rfl) (hs : starEach [a] X.env = [(false, eval a X.env)] := by rfl) : PI X tg (.Call (.Name "range" p) [a] [] pos) (tDI Γ B Wx (mCall rng1 ml)) :=
  pi_weak (pi_range1 hg hm ha hs) fun σ H R ⟨w, ρ, z, S, q⟩ => ⟨w, ρ, z, S, q.bind.mono fun ds w1 z1 H1 _ _ ⟨S1, s1, q1⟩ vs rvs => by
    obtain ⟨es, hd, q2⟩ := q1.opt
    unfold rng1 at hd
    split at hd
    · obtain ⟨rfl, h1, h2⟩ := ite_some hd
      obtain ⟨v, rfl, r⟩ := pr1 rvs
      cases r.int
      exact ⟨_, rfl, h2, h1, q2.ok S1 _ (fun _ _ => True) (fun _ _ _ => trivial) it_rng⟩
    · cases hd⟩
theorem i_range2 {p : Pos} (hm : X.mg "range" = none) (ha : PA X [a, b] (tBA Γ B Wx ml)) (hg : Gl X "range" := by rfl) (hs : starEach [a, b] X.env = [(false, eval a X.env), (false, eval b X.env)] := by rfl) (hs2 : starEach [b] X.env = [(false, eval b X.env)] := by rfl) :
    PI X tg (.Call (.Name "range" p) [a, b] [] pos) (tDI Γ B Wx (mCall rng2 ml)) :=
  pi_weak (pi_range2 hg hm ha hs hs2) fun σ H R ⟨w, ρ, z, S, q⟩ => ⟨w, ρ, z, S, q.bind.mono fun ds w1 z1 H1 _ _ ⟨S1, s1, q1⟩ vs rvs => by
    obtain ⟨es, hd, q2⟩ := q1.opt
    unfold rng2 at hd
    split at hd
    · obtain ⟨rfl, h1⟩ := ite_some hd
      obtain ⟨v, u, rfl, r, r'⟩ := pr2 rvs
      cases r.int; cases r'.int
      exact ⟨_, _, rfl, h1, q2.ok S1 _ (fun _ _ => True) (fun _ _ _ => trivial) it_rng⟩
    · cases hd⟩

/-! ### targets -/
/-- a target's mirror: the slots it stores to, the new environment -/
abbrev TgF := D → En → Option En
def gD (Γ : Gam) (B : Bs) (sl : List Nat) (g : TgF) : TG := fun v σ H Q => ∃ w ρ z d, SI Γ B w ρ z σ H ∧ Rep Γ w d v ∧ ∃ ρ', g d ρ = some ρ' ∧ ∀ σ', SI Γ B w ρ' z σ' H → (∀ j, j ∉ sl → σ'[j]? = σ[j]?) → σ'.length = σ.length → Q σ' H
def setE (i : Nat) (d : D) (ρ : En) : Option En := if i < ρ.length then some (ρ.set i (some (.sh d))) else none
theorem SI.set {w : W} {ρ : En} {z : Z} {σ : Sl} {H : Hp} (S : SI Γ B w ρ z σ H) {d : D} {v : V} (r : Rep Γ w d v) {i : Nat} (hi : i < ρ.length) : SI Γ B w (ρ.set i (some (.sh d))) z (σ.set i (some v)) H where
  wi := S.wi
  st := S.st
  len := by rw [List.length_set, List.length_set]; exact S.len
  sh := fun j d' h => by
    by_cases e : i = j
    · subst e
      rw [List.getElem?_set_self hi] at h
      cases h
      exact ⟨v, List.getElem?_set_self (by rw [← S.len]; exact hi), r⟩
    · rw [List.getElem?_set_ne e] at h
      rw [List.getElem?_set_ne e]
      exact S.sh j d' h
  own := fun j o h => by
    by_cases e : i = j
    · subst e
      rw [List.getElem?_set_self hi] at h
      cases h
    · rw [List.getElem?_set_ne e] at h
      rw [List.getElem?_set_ne e]
      exact S.own j o h
  dis := fun j l o u c h1 h2 h3 h4 => by
    by_cases e : i = j
    · subst e; rw [List.getElem?_set_self hi] at h1; cases h1
    · by_cases e' : i = l
      · subst e'; rw [List.getElem?_set_self hi] at h2; cases h2
      · rw [List.getElem?_set_ne e] at h1 h3
        rw [List.getElem?_set_ne e'] at h2 h4
        exact S.dis j l o u c h1 h2 h3 h4
  exn := fun j x h => by
    by_cases e : i = j
    · subst e; rw [List.getElem?_set_self hi] at h; cases h
    · rw [List.getElem?_set_ne e] at h
      rw [List.getElem?_set_ne e]
      exact S.exn j x h
  fnv := fun j x h => by
    by_cases e : i = j
    · subst e; rw [List.getElem?_set_self hi] at h; cases h
    · rw [List.getElem?_set_ne e] at h
      rw [List.getElem?_set_ne e]
      exact S.fnv j x h
theorem g_name (i : Nat) {x : Str} (nd : X.N.Nodup) (hi : X.N[i]? = some x := by rfl) (hx : Loc X.env.scope x := by first | exact Or.inl rfl | exact Or.inr rfl) (hf : X.fn x = true ∨ X.env.scope.names.lookup x = some .local := by first | exact .inl rfl | exact .inr rfl) : PG X (.Name x pos) (gD Γ B [i] (setE i)) := by
  refine ⟨fun pins s σ H v u Q I r h => (pg_name nd hi hx hf).run pins s σ H v u Q I r ?_⟩
  obtain ⟨w, ρ, z, d, S, rd, ρ', e, q⟩ := h
  unfold setE at e
  obtain ⟨rfl, hl⟩ := ite_some e
  exact q _ (S.set rd hl) (fun j hj => List.getElem?_set_ne (fun e => hj (by simp [e]))) (List.length_set ..)
/-- several targets -/
abbrev TgsF := List D → En → Option En
def gDs (Γ : Gam) (B : Bs) (sl : List Nat) (g : TgsF) : TGs := fun vs σ H Q => ∃ w ρ z ds, SI Γ B w ρ z σ H ∧ RepL Γ w ds vs ∧ ∃ ρ', g ds ρ = some ρ' ∧ ∀ σ', SI Γ B w ρ' z σ' H → (∀ j, j ∉ sl → σ'[j]? = σ[j]?) → σ'.length = σ.length → Q σ' H
def nilT : TgsF := fun ds ρ => match ds with
  | [] => some ρ
  | _ => none
def consT (g : TgF) (h : TgsF) : TgsF := fun ds ρ => match ds with
  | d :: r => (g d ρ).bind fun ρ' => h r ρ'
  | [] => none
theorem gs_nil : PGs X [] (gDs Γ B [] nilT) := by
  refine ⟨fun pins s σ H vs us Q I r h => pgs_nil.run pins s σ H vs us Q I r ?_⟩
  obtain ⟨w, ρ, z, ds, S, rd, ρ', e, q⟩ := h
  unfold nilT at e
  split at e
  · cases e; cases rd
    exact ⟨rfl, q σ S (fun _ _ => rfl) rfl⟩
  · cases e
theorem gs_cons {sl sl' : List Nat} {g : TgF} {gs : TgsF} {es : List Expr} (h1 : PG X e (gD Γ B sl g)) (h2 : PGs X es (gDs Γ B sl' gs)) (hs : (assignEach (e :: es) X.env).map (·.2) = assign e X.env :: (assignEach es X.env).map (·.2) := by rfl) : PGs X (e :: es) (gDs Γ B (sl ++ sl') (consT g gs)) := by
  refine ⟨fun pins s σ H vs us Q I r h => (pgs_cons h1 h2 hs).run pins s σ H vs us Q I r ?_⟩
  obtain ⟨w, ρ, z, ds, S, rd, ρ', e, q⟩ := h
  unfold consT at e
  split at e
  · obtain ⟨ρ1, e1, e2⟩ := Option.bind_eq_some_iff.mp e
    cases rd with
    | cons a b =>
      refine ⟨_, _, rfl, w, ρ, z, _, S, a, ρ1, e1, fun σ1 S1 k1 l1 => ⟨w, ρ1, z, _, S1, b, ρ', e2, fun σ2 S2 k2 l2 => q σ2 S2 (fun j hj => ?_) (l2.trans l1)⟩⟩
      rw [k2 j (fun m => hj (List.mem_append_right _ m)), k1 j (fun m => hj (List.mem_append_left _ m))]
  · cases e
/-- (a, b, ..) = a tuple -/
def tupT (n : Nat) (g : TgsF) : TgF := fun d ρ => match d with
  | .tup ds => if ds.length = n then g ds ρ else none
  | _ => none
theorem g_tup {es : List Expr} {kk n : Nat} {sl : List Nat} {g : TgsF} (hK : X.K = Γ.K) (hc : X.calm = true) (h : PGs X es (gDs Γ B sl g)) (hn : (assignEach es X.env).length = n := by rfl) (hst : (assignEach es X.env).findIdx? (·.1) = none := by rfl) : PG X (.Tuple es kk pos) (gD Γ B sl (tupT n g)) := by
  refine ⟨fun pins s σ H v u Q I r hq => (pg_tup hc h hn hst).run pins s σ H v u Q I r ?_⟩
  obtain ⟨w, ρ, z, d, S, rd, ρ', e, q⟩ := hq
  unfold tupT at e
  split at e
  · split at e
    · cases rd with
      | tup h1 h2 => exact ⟨_, _, rfl, by rw [hK]; exact S.KT h1, by rw [h2.length]; assumption, w, ρ, z, _, S, h2, ρ', e, q⟩
    · cases e
  · cases e
end
end NW
set_option maxHeartbeats 400000
/-! List comprehensions, statements, loops. -/
namespace NW
open PySem PySem.Spec PyProof.Rows L2

section
variable {X : Cx} {Γ : Gam} {B : Bs} {Wx : WX} {k : Nat} {a b e tg : Expr} {es : List Expr} {m ma mb : M D} {ml : M (List D)} {pos : Pos}
/-- no exception may leave -/
abbrev Wx0 : WX := fun _ _ _ _ => False
theorem resTo.wx {α : Type} {Wx Wx' : WX} {w : W} {ρ : En} {σ : Sl} {H : Hp} {r : Res α} {Q : α → W → Z → Hp → Prop} (h : resTo Γ B Wx w ρ σ H r Q) (hn : ∀ x z, r ≠ .exc x z) : resTo Γ B Wx' w ρ σ H r Q := by
  cases r with
  | ok a z => exact h
  | exc x z => exact absurd rfl (hn x z)
  | bad => exact h

/-! ### [elt for target in iter if test] -/
def wipeE (ρ : En) : List Nat → En
  | [] => ρ
  | v :: vs => (wipeE ρ vs).set v none
theorem wipeE_length (ρ : En) : ∀ vs, (wipeE ρ vs).length = ρ.length
  | [] => rfl
  | v :: vs => by unfold wipeE; rw [List.length_set, wipeE_length ρ vs]
theorem wipeE_some {ρ : En} {i : Nat} {x : DV} : ∀ {vs : List Nat}, (wipeE ρ vs)[i]? = some (some x) → ρ[i]? = some (some x) ∧ i ∉ vs
  | [], h => ⟨h, by simp⟩
  | v :: vs, h => by
    unfold wipeE at h
    by_cases hi : v = i
    · subst hi
      by_cases hv : v < (wipeE ρ vs).length
      · rw [List.getElem?_set_self hv] at h; cases h
      · rw [List.getElem?_eq_none (by simpa using hv)] at h; cases h
    · rw [List.getElem?_set_ne hi] at h
      obtain ⟨h1, h2⟩ := wipeE_some h
      exact ⟨h1, by simp only [List.mem_cons, not_or]; exact ⟨fun e => hi e.symm, h2⟩⟩
theorem wipe_get {σ : Sl} {i : Nat} : ∀ {vs : List Nat}, i ∉ vs → (wipe σ vs)[i]? = σ[i]?
  | [], _ => rfl
  | v :: vs, h => by
    unfold wipe
    simp only [List.mem_cons, not_or] at h
    rw [List.getElem?_set_ne (Ne.symm h.1)]
    exact wipe_get h.2
theorem SI.wipe {w : W} {ρ : En} {z : Z} {σ : Sl} {H : Hp} (S : SI Γ B w ρ z σ H) (vs : List Nat) : SI Γ B w (wipeE ρ vs) z (wipe σ vs) H where
  wi := S.wi
  st := S.st
  len := by rw [wipeE_length, wipe_length]; exact S.len
  sh := fun i d h => by
    obtain ⟨h1, h2⟩ := wipeE_some h
    rw [wipe_get h2]
    exact S.sh i d h1
  own := fun i o h => by
    obtain ⟨h1, h2⟩ := wipeE_some h
    rw [wipe_get h2]
    exact S.own i o h1
  dis := fun i j o u c h1 h2 h3 h4 => by
    obtain ⟨g1, k1⟩ := wipeE_some h1
    obtain ⟨g2, k2⟩ := wipeE_some h2
    rw [wipe_get k1] at h3
    rw [wipe_get k2] at h4
    exact S.dis i j o u c g1 g2 h3 h4
  exn := fun i x h => by
    obtain ⟨h1, h2⟩ := wipeE_some h
    rw [wipe_get h2]
    exact S.exn i x h1
  fnv := fun i x h => by
    obtain ⟨h1, h2⟩ := wipeE_some h
    rw [wipe_get h2]
    exact S.fnv i x h1
theorem wipe_back {σ σ' : Sl} {sl vs : List Nat} (hs : ∀ j ∈ sl, j ∈ vs) (hl : σ'.length = σ.length) (h : ∀ j, j ∉ sl → σ'[j]? = σ[j]?) : wipe σ' vs = wipe σ vs := by
  have gen : ∀ (τ : Sl) (us : List Nat) (i : Nat), (L2.wipe τ us)[i]? = if i ∈ us ∧ i < τ.length then some none else τ[i]? := by
    intro τ us
    induction us with
    | nil => intro i; simp [L2.wipe]
    | cons u us ih =>
      intro i
      unfold L2.wipe
      by_cases e : u = i
      · subst e
        by_cases hu : u < τ.length
        · rw [List.getElem?_set_self (by rw [L2.wipe_length]; exact hu)]
          simp [hu]
        · rw [List.getElem?_eq_none (by rw [List.length_set, L2.wipe_length]; omega)]
          simp [hu]
      · rw [List.getElem?_set_ne e, ih i]
        have : i ≠ u := fun q => e q.symm
        simp [this]
  apply List.ext_getElem?
  intro i
  rw [gen, gen, hl]
  by_cases hi : i ∈ vs
  · by_cases hlt : i < σ.length
    · simp [hi, hlt]
    · simp only [hi, hlt, and_false, if_false]
      rw [List.getElem?_eq_none (by omega), List.getElem?_eq_none (by omega)]
  · simp only [hi, false_and, if_false]
    exact h i (fun m => hi (hs i m))
/-- the block, item by item -/
def lcGo (g : TgF) (mt : M Bool) (me : M D) (ρ : En) : List D → List D → Z → Res (List D)
  | [], acc, z => .ok acc z
  | d :: ds, acc, z => match g d ρ with
    | none => .bad
    | some ρ1 => match mt ρ1 z with
      | .ok false z1 => lcGo g mt me ρ ds acc z1
      | .ok true z1 => match me ρ1 z1 with
        | .ok y z2 => if acc.length < sizeLine then lcGo g mt me ρ ds (acc ++ [y]) z2 else .bad
        | _ => .bad
      | _ => .bad
def mLc (it : M (List D)) (g : TgF) (mt : M Bool) (me : M D) (vs : List Nat) : M (List D) := fun ρ z => (it ρ z).bind fun ds z1 => lcGo g mt me (wipeE ρ vs) ds [] z1
theorem pts_yes : PTs X [] (tDT Γ B Wx (mRet true)) := pts_weak pts_nil fun σ H Q ⟨w, ρ, z, S, q⟩ => q.ok S
theorem pts_if {c : Expr} {mt : M Bool} (h : PT X c (tDT Γ B Wx mt)) : PTs X [c] (tDT Γ B Wx mt) := pts_one h
/-- what stands outside of the world is changed -/
theorem WI.mut {w : W} {z : Z} {H : Hp} (I : WI Γ w z H) {p : Addr} {o : HO} (h1 : w.R p = none) (h2 : p ∉ w.pl) (h3 : (∃ xs, H p = some (.lst xs)) ∨ ∃ C dx fs, H p = some (.ins C dx fs)) : WI Γ w z (upd H p o) := by
  refine ⟨fun a u h => ?_, I.len, fun n mo h => ?_, I.nd, I.nt, Tabs.mutL I.tb h3⟩
  · rw [upd_ne (ne_of_none h h1)]; exact I.le _ _ h
  · obtain ⟨a, g1, g2, g3⟩ := I.st n mo h
    have ha : a ≠ p := fun e => h2 (e ▸ List.mem_of_getElem? g1)
    exact ⟨a, g1, g2, g3.keep (fun _ _ h => h) (fun _ _ h => h) fun u hu => by rw [upd_ne ha]; exact hu⟩
theorem SI.mut {w : W} {ρ : En} {z : Z} {σ : Sl} {H : Hp} (S : SI Γ B w ρ z σ H) {p : Addr} {o : HO} (h1 : w.R p = none) (h2 : p ∉ w.pl) (h3 : ∀ (i : Nat) (u : OV), ρ[i]? = some (some (.own u)) → σ[i]? ≠ some (some (.ref p))) (h4 : B.H p = none) (h5 : (∃ xs, H p = some (.lst xs)) ∨ ∃ C dx fs, H p = some (.ins C dx fs)) : SI Γ B w ρ z σ (upd H p o) where
  wi := S.wi.mut h1 h2 h5
  st := ⟨S.st.r, S.st.t, fun a u h t k => by rw [upd_ne (ne_of_none h h4)]; exact S.st.k a u h t k, S.st.f, S.st.n, fun a u h => by
    by_cases e : a = p
    · subst e; exact ⟨o, upd_same⟩
    · rw [upd_ne e]; exact S.st.y a u h⟩
  len := S.len
  sh := S.sh
  own := fun i u h => by
    obtain ⟨a, g1, g2, g3, g4, g5⟩ := S.own i u h
    have ne : a ≠ p := fun e => h3 i u h (e ▸ g1)
    refine ⟨a, g1, ?_, g3, g4, g5⟩
    cases u with
    | lst es => obtain ⟨ys, k1, k2⟩ := g2; exact ⟨ys, by rw [upd_ne ne]; exact k1, k2⟩
  dis := S.dis
  exn := S.exn
  fnv := S.fnv
theorem Step.mut {w w1 : W} {H H1 : Hp} (s : Step w H w1 H1) {p : Addr} {o : HO} (hp : H p = none) : Step w H w1 (upd H1 p o) :=
  ⟨s.r, s.t, fun a u h t k => by rw [upd_ne (ne_of_none h hp)]; exact s.k a u h t k, s.f, s.n, fun a u h => by rw [upd_ne (ne_of_none h hp)]; exact s.y a u h⟩
variable {iter elt : Expr} {ifs : List Expr} {scope : Scope} {own : List (Str × Nat)} {mi : M (List D)} {g : TgF} {sl : List Nat} {mt : M Bool} {me : M D}
theorem lc_to {vs : List Nat} (hsl : ∀ j ∈ sl, j ∈ vs) : ∀ σ H Q, tF Γ B Wx (mLc mi g mt me vs) σ H Q → tLc (tBI Γ B Wx mi) (gD Γ B sl g) (tDT Γ B Wx0 mt) (tD Γ B Wx0 me) vs σ H Q := fun σ H Q ⟨w, ρ, z, S, q⟩ => by
  refine ⟨w, ρ, z, S, q.bind.mono fun ds w1 z1 H1 _ s1 ⟨S1, _, q1⟩ J Fut hf it => fun L0 hD => ?_⟩
  -- the new list
  obtain ⟨n1, n2⟩ := S1.notOwn (w' := w1) hD
  obtain ⟨S2, s2, o2, r2, t2⟩ := S1.lstO (ds := []) (vs := []) .nil hD
  have hD0 : H L0 = none := none_back s1 hD
  -- the state ahead of the i-th item
  let P : Nat → Hp → Prop := fun i H3 => ∃ w3 z3 acc, SI Γ B w3 (wipeE ρ vs) z3 (wipe σ vs) H3 ∧ Step w1 H1 w3 H3 ∧ OwnRep Γ w3 H3 L0 (.lst acc) ∧ w3.R L0 = none ∧ L0 ∉ w3.pl ∧
    (∀ es zf, lcGo g mt me (wipeE ρ vs) (ds.drop i) acc z3 = .ok es zf → ∀ w4 H4, SI Γ B w4 ρ zf σ H4 → Step w1 H1 w4 H4 → OwnRep Γ w4 H4 L0 (.lst es) → w4.R L0 = none → L0 ∉ w4.pl → Q (.ref L0) H4) ∧ (∃ es zf, lcGo g mt me (wipeE ρ vs) (ds.drop i) acc z3 = .ok es zf)
  have q1' : ∃ es zf, lcGo g mt me (wipeE ρ vs) ds [] z1 = .ok es zf := by
    cases hr : lcGo g mt me (wipeE ρ vs) ds [] z1 with
    | ok es zf => exact ⟨es, zf, rfl⟩
    | exc x zf =>
      exfalso
      have : ∀ (l acc : List D) (z : Z) x zf, lcGo g mt me (wipeE ρ vs) l acc z ≠ .exc x zf := by
        intro l
        induction l with
        | nil => intro acc z x zf h; cases h
        | cons d l ih =>
          intro acc z x zf h
          unfold lcGo at h
          split at h
          · cases h
          · split at h
            · exact ih _ _ _ _ h
            · split at h
              · split at h
                · exact ih _ _ _ _ h
                · cases h
              · cases h
            · cases h
      exact this _ _ _ _ _ hr
    | bad => rw [hr] at q1; exact q1.elim
  refine ⟨fun i n H3 => n = ds.length - i ∧ i ≤ ds.length ∧ P i H3, ⟨ds.length, by simp, Nat.zero_le _, w1, z1, [], S2.wipe vs, s2, o2, r2, t2, fun es zf hr w4 H4 S4 s4 o4 r4 t4 => ?_, by simpa using q1'⟩, ?_⟩
  · rw [List.drop_zero] at hr
    rw [hr] at q1
    exact q1 w4 H4 S4 s4 L0 o4 r4 t4 hD0
  · rintro i n H3 ⟨rfl, hi, w3, z3, acc, S3, s3, o3, r3, t3, fin, es, zf, hr⟩
    have F3 := hf w3 H3 s3
    by_cases hlt : i < ds.length
    · refine .inr ⟨it.go i w3 z3 H3 F3 S3.wi hlt, fun H' => P (i + 1) H', fun H' p' => ⟨ds.length - (i + 1), by omega, rfl, hlt, p'⟩, fun x H' y => ?_⟩
      obtain ⟨w4, I4, s4, r4⟩ := it.yld i w3 z3 H3 x H' ds[i] F3 S3.wi (List.getElem?_eq_getElem hlt) y
      rw [List.drop_eq_getElem_cons hlt] at hr fin
      have S4 := S3.carry I4 s4
      have o4 := o3.step s4 t3
      have s14 := s3.trans s4
      obtain ⟨u3, hu3⟩ := o3.there
      have r4' : w4.R L0 = none := s4.f _ _ hu3 r3
      have t4' : L0 ∉ w4.pl := fun hm => by
        rcases s4.n _ hm with h | h
        · exact t3 h
        · rw [hu3] at h; cases h
      unfold lcGo at hr fin
      cases hg1 : g ds[i] (wipeE ρ vs) with
      | none => rw [hg1] at hr; cases hr
      | some ρ1 =>
        rw [hg1] at hr fin
        dsimp only at hr fin
        refine ⟨w4, wipeE ρ vs, z3, ds[i], S4, r4, ρ1, hg1, fun σ' S5 k5 l5 => ⟨?_, ?_⟩⟩
        · exact wipe_back hsl l5 (fun j hj => k5 j hj) |>.trans (by
            apply wipe_back (sl := vs) (fun j h => h) (wipe_length σ vs) fun j hj => wipe_get hj)
        · refine ⟨w4, ρ1, z3, S5, ?_⟩
          cases ht1 : mt ρ1 z3 with
          | exc x zz => rw [ht1] at hr; cases hr
          | bad => rw [ht1] at hr; cases hr
          | ok b z5 =>
            rw [ht1] at hr fin
            intro w6 H6 S6 s6
            have o6 := o4.step s6 t4'
            obtain ⟨u4, hu4⟩ := o4.there
            have r6' : w6.R L0 = none := s6.f _ _ hu4 r4'
            have t6' : L0 ∉ w6.pl := fun hm => by
              rcases s6.n _ hm with h | h
              · exact t4' h
              · rw [hu4] at h; cases h
            have s16 := s14.trans s6
            have back : ∀ {w7 : W} {z7 : Z} {H7 : Hp}, SI Γ B w7 ρ1 z7 σ' H7 → Step w1 H1 w7 H7 → SI Γ B w7 (wipeE ρ vs) z7 (wipe σ vs) H7 := fun {w7 z7 H7} S7 s7 => ((S1.wipe vs).carry S7.wi s7)
            cases b with
            | false =>
              refine iteF ?_
              dsimp only at hr fin
              exact ⟨w6, z5, acc, back S6 s16, s16, o6, r6', t6', fin, es, zf, hr⟩
            | true =>
              refine iteT ⟨w6, ρ1, z5, S6, ?_⟩
              dsimp only at hr fin
              cases he1 : me ρ1 z5 with
              | exc x zz => rw [he1] at hr; cases hr
              | bad => rw [he1] at hr; cases hr
              | ok yv z6 =>
                rw [he1] at hr fin
                dsimp only at hr fin
                intro w7 H7 S7 s7 v rv
                obtain ⟨xs, hx, rx⟩ := o6.step s7 t6'
                obtain ⟨u6, hu6⟩ := o6.there
                have r7' : w7.R L0 = none := s7.f _ _ hu6 r6'
                have t7' : L0 ∉ w7.pl := fun hm => by
                  rcases s7.n _ hm with h | h
                  · exact t6' h
                  · rw [hu6] at h; cases h
                have s17 := s16.trans s7
                by_cases hz : acc.length < sizeLine
                · rw [if_pos hz] at hr fin
                  refine ⟨xs, hx, by rw [rx.length]; exact hz, w7, z6, acc ++ [yv], ?_, s17.mut hD, ⟨_, upd_same, rx.append (.cons rv .nil)⟩, r7', t7', fin, es, zf, hr⟩
                  exact (back S7 s17).mut r7' t7' (fun i u h e => by
                    obtain ⟨h1, h2⟩ := wipeE_some h
                    rw [wipe_get h2] at e
                    exact n1 i u h1 e) n2 (.inl ⟨_, hx⟩)
                · rw [if_neg hz] at hr; cases hr
    · have e : i = ds.length := by omega
      subst e
      refine .inl ⟨it.stop w3 z3 H3 F3 S3.wi, ?_⟩
      rw [List.drop_length] at fin
      exact fin acc z3 rfl w3 H3 (S1.carry S3.wi s3) s3 o3 r3 t3
theorem f_lc (hc : X.calm = true) (nd : X.N.Nodup) (hi : PI X tg iter (tBI Γ B Wx mi)) (ok : BlkOk X.N X.env.scope scope own)
    (hg : ∀ (s : Shared) (H : Hp) (C : Addr) (cl : List (Str × Addr)) (fp : List Addr), PG (X.blk s H scope (compEnvC scope cl C X.env) fp) tg (gD Γ B sl g)) (ht : ∀ (s : Shared) (H : Hp) (C : Addr) (cl : List (Str × Addr)) (fp : List Addr), PTs (X.blk s H scope (compEnvC scope cl C X.env) fp) ifs (tDT Γ B Wx0 mt))
    (he : ∀ (s : Shared) (H : Hp) (C : Addr) (cl : List (Str × Addr)) (fp : List Addr), PE (X.blk s H scope (compEnvC scope cl C X.env) fp) elt (tD Γ B Wx0 me)) (hsl : ∀ j ∈ sl, j ∈ own.map (·.2) := by decide) (hs : ∀ x, foldedSetIterable iter X.env x = pure x := by intro _; rfl) :
    PE X (.ListComp elt [⟨tg, iter, ifs, 0⟩] scope pos) (tF Γ B Wx (mLc mi g mt me (own.map (·.2)))) := pe_weak (pe_lc hc nd hi ok hg ht he hs) (lc_to hsl)
end
end NW
set_option maxHeartbeats 400000
/-! Statements. -/
namespace NW
open PySem PySem.Spec PyProof.Rows L2

section
variable {X : Cx} {Γ : Gam} {B : Bs} {Wx : WX} {RT : RTT} {k : Nat} {a b e tg : Expr} {es : List Expr} {m ma mb : M D} {ml : M (List D)} {pos : Pos} {st : Stmt} {rest sts : List Stmt} {ms mt mu : MS}
abbrev DS (X : Cx) (Γ : Gam) (B : Bs) (Wx : WX) (RT : RTT) (st : Stmt) (ms : MS) : Prop := PS X st (tDS Γ B Wx RT ms)
abbrev DSs (X : Cx) (Γ : Gam) (B : Bs) (Wx : WX) (RT : RTT) (st : List Stmt) (ms : MS) : Prop := PSs X st (tDS Γ B Wx RT ms)
def sNx : MS := fun ρ z => .nx ρ z
def SR.then (r : SR) (b : MS) : SR := match r with
  | .nx ρ z => b ρ z
  | .rt d z => .rt d z
  | .bk ρ z => .bk ρ z
  | .ct ρ z => .ct ρ z
  | .exc x ρ z => .exc x ρ z
  | .bad => .bad
def sSeq (a b : MS) : MS := fun ρ z => (a ρ z).then b
theorem srTo.ext {w w' : W} {D : Ends} {r : SR} (h : srTo Γ B Wx RT w D r) (x : Ext w w') : srTo Γ B Wx RT w' D r := by
  cases r with
  | nx ρ z => exact fun σ w1 H1 S y => h σ w1 H1 S (x.trans y)
  | rt d z => exact h
  | bk ρ z => exact fun σ w1 H1 S y => h σ w1 H1 S (x.trans y)
  | ct ρ z => exact fun σ w1 H1 S y => h σ w1 H1 S (x.trans y)
  | exc x ρ z => exact h
  | bad => exact h
theorem srTo.mono {w : W} {D D' : Ends} {r : SR} (h : srTo Γ B Wx RT w D r) (h1 : ∀ ρ z σ w' H', SI Γ B w' ρ z σ H' → Ext w w' → D.nx σ H' → D'.nx σ H') (h2 : ∀ v H, D.rt v H → D'.rt v H) (h3 : ∀ ρ z σ w' H', SI Γ B w' ρ z σ H' → Ext w w' → D.bk σ H' → D'.bk σ H')
    (h4 : ∀ ρ z σ w' H', SI Γ B w' ρ z σ H' → Ext w w' → D.ct σ H' → D'.ct σ H') : srTo Γ B Wx RT w D' r := by
  cases r with
  | nx ρ z => exact fun σ w1 H1 S y => h1 _ _ _ _ _ S y (h σ w1 H1 S y)
  | rt d z => exact fun v w1 H1 I s r => h2 _ _ (h v w1 H1 I s r)
  | bk ρ z => exact fun σ w1 H1 S y => h3 _ _ _ _ _ S y (h σ w1 H1 S y)
  | ct ρ z => exact fun σ w1 H1 S y => h4 _ _ _ _ _ S y (h σ w1 H1 S y)
  | exc x ρ z => exact h
  | bad => exact h
theorem s_nil : DSs X Γ B Wx RT [] sNx := pss_weak pss_nil fun D σ H ⟨w, ρ, z, S, q⟩ => q σ w H S (.refl w)
theorem s_cons (h1 : DS X Γ B Wx RT st ms) (h2 : DSs X Γ B Wx RT rest mt) : DSs X Γ B Wx RT (st :: rest) (sSeq ms mt) := pss_weak (pss_cons h1 h2) fun D σ H ⟨w, ρ, z, S, q⟩ => ⟨w, ρ, z, S, by
  unfold sSeq at q
  cases e : ms ρ z with
  | nx ρ1 z1 =>
    rw [e] at q
    exact fun σ1 w1 H1 S1 x => ⟨w1, ρ1, z1, S1, srTo.ext (r := mt ρ1 z1) q x⟩
  | rt d z1 => rw [e] at q; exact q
  | bk ρ1 z1 => rw [e] at q; exact q
  | ct ρ1 z1 => rw [e] at q; exact q
  | exc x ρ1 z1 => rw [e] at q; exact q
  | bad => rw [e] at q; exact q⟩
theorem s_one (h1 : DS X Γ B Wx RT st ms) : DSs X Γ B Wx RT [st] ms := pss_one h1
/-- an expression, then a statement's end -/
def Res.to {α : Type} (r : Res α) (ρ : En) (f : α → Z → SR) : SR := match r with
  | .ok a z => f a z
  | .exc x z => .exc x ρ z
  | .bad => .bad
theorem srTo.to {α : Type} {w : W} {D : Ends} {r : Res α} {ρ : En} {f : α → Z → SR} {σ : Sl} {H : Hp} (h : srTo Γ B Wx RT w D (r.to ρ f)) :
    resTo Γ B Wx w ρ σ H r fun a w1 z1 H1 => SI Γ B w1 ρ z1 σ H1 ∧ Step w H w1 H1 ∧ srTo Γ B Wx RT w1 D (f a z1) := by
  cases r with
  | ok a z => exact fun w1 H1 S s => ⟨S, s, srTo.ext (r := f a z) h s.ext⟩
  | exc x z => exact fun cls dd w1 H1 S s r => h cls dd σ w1 H1 S r
  | bad => exact h
def sExpr (m : M D) : MS := fun ρ z => (m ρ z).to ρ fun _ z1 => .nx ρ z1
theorem s_expr (h : PE X e (tB Γ B Wx m)) (hs : swapsWith e none pos.line X.env = pure false := by rfl) : DS X Γ B Wx RT (.Expr e pos) (sExpr m) := ps_weak (ps_expr h hs) fun D σ H ⟨w, ρ, z, S, q⟩ =>
  ⟨w, ρ, z, S, q.to.mono fun d w1 z1 H1 _ _ ⟨S1, s1, q1⟩ v _ => q1 σ w1 H1 S1 (.refl _)⟩
theorem s_doc {x : Str} {j : Nat} {p : Pos} : DS X Γ B Wx RT (.Expr (.Constant (.str x) j p) pos) sNx := ps_weak ps_doc fun D σ H ⟨w, ρ, z, S, q⟩ => q σ w H S (.refl w)
def sRet (m : M D) : MS := fun ρ z => (m ρ z).to ρ fun d z1 => .rt d z1
theorem s_ret (h : PE X e (tD Γ B Wx m)) : DS X Γ B Wx (RTn Γ) (.Return (some e) pos) (sRet m) := ps_weak (ps_ret h) fun D σ H ⟨w, ρ, z, S, q⟩ =>
  ⟨w, ρ, z, S, q.to.mono fun d w1 z1 H1 _ _ ⟨S1, s1, q1⟩ v r => q1 v w1 H1 S1.wi S1.st r⟩
theorem s_retN : DS X Γ B Wx (RTn Γ) (.Return none pos) (fun _ z => .rt .non z) := ps_weak ps_retN fun D σ H ⟨w, ρ, z, S, q⟩ => q .non w H S.wi S.st .non
/-- a new list is handed back -/
def sRetF (m : M (List D)) : MS := fun ρ z => (m ρ z).to ρ fun ds z1 => .rt (.lst ds) z1
theorem s_retF (h : PE X e (tF Γ B Wx ml)) : DS X Γ B Wx (RTf Γ B) (.Return (some e) pos) (sRetF ml) := ps_weak (ps_ret h) fun D σ H ⟨w, ρ, z, S, q⟩ =>
  ⟨w, ρ, z, S, q.to.mono fun ds w1 z1 H1 _ _ ⟨S1, s1, q1⟩ p o1 o2 o3 hp => q1 _ w1 H1 S1.wi S1.st ⟨ds, p, rfl, rfl, o1, o2, o3, (S.notOwn (w' := w) hp).2⟩⟩
theorem s_pass : DS X Γ B Wx RT (.Pass pos) sNx := ps_weak ps_pass fun D σ H ⟨w, ρ, z, S, q⟩ => q σ w H S (.refl w)
theorem s_break : DS X Γ B Wx RT (.Break pos) (fun ρ z => .bk ρ z) := ps_weak ps_break fun D σ H ⟨w, ρ, z, S, q⟩ => q σ w H S (.refl w)
theorem s_cont : DS X Γ B Wx RT (.Continue pos) (fun ρ z => .ct ρ z) := ps_weak ps_continue fun D σ H ⟨w, ρ, z, S, q⟩ => q σ w H S (.refl w)
def sIf (c : M Bool) (a b : MS) : MS := fun ρ z => (c ρ z).to ρ fun k z1 => if k = true then a ρ z1 else b ρ z1
theorem s_if {c : Expr} {mc : M Bool} {as bs : List Stmt} (hc : PT X c (tDT Γ B Wx mc)) (ha : DSs X Γ B Wx RT as ms) (hb : DSs X Γ B Wx RT bs mt) : DS X Γ B Wx RT (.If c as bs pos) (sIf mc ms mt) := ps_weak (ps_if hc ha hb) fun D σ H ⟨w, ρ, z, S, q⟩ =>
  ⟨w, ρ, z, S, q.to.mono fun k w1 z1 H1 _ _ ⟨S1, s1, q1⟩ => by
    cases k with
    | true => exact iteT ⟨w1, ρ, z1, S1, q1⟩
    | false => exact iteF ⟨w1, ρ, z1, S1, q1⟩⟩
/-! ### stores -/
def sTo (g : TgF) (d : D) (ρ : En) (z : Z) : SR := match g d ρ with
  | some ρ' => .nx ρ' z
  | none => .bad
def sAsg (g : TgF) (m : M D) : MS := fun ρ z => (m ρ z).to ρ fun d z1 => sTo g d ρ z1
theorem s_asg {sl : List Nat} {g : TgF} (h : PE X e (tD Γ B Wx m)) (hg : PG X tg (gD Γ B sl g)) (hs : swapsWithSole [tg] e pos.line X.env = pure false := by rfl) (hw : swappedStores [tg] e X.env = pure none := by rfl)
    (h1 : (assignEach [tg] X.env).map (·.2) = [assign tg X.env] := by rfl) : DS X Γ B Wx RT (.Assign [tg] e pos) (sAsg g m) := ps_weak (ps_asg h hg hs hw h1) fun D σ H ⟨w, ρ, z, S, q⟩ =>
  ⟨w, ρ, z, S, q.to.mono fun d w1 z1 H1 _ _ ⟨S1, s1, q1⟩ v rv => by
    unfold sTo at q1
    cases e : g d ρ with
    | none => rw [e] at q1; exact q1.elim
    | some ρ' => rw [e] at q1; exact ⟨w1, ρ, z1, d, S1, rv, ρ', e, fun σ' S' _ _ => q1 σ' w1 H1 S' (.refl _)⟩⟩
/-- a new list, owned by the slot -/
def setO (i : Nat) (o : OV) (ρ : En) : Option En := if i < ρ.length then some (ρ.set i (some (.own o))) else none
theorem SI.setOwn {w : W} {ρ : En} {z : Z} {σ : Sl} {H : Hp} (S : SI Γ B w ρ z σ H) {o : OV} {p : Addr} (r : OwnRep Γ w H p o) (h1 : w.R p = none) (h2 : p ∉ w.pl) (h3 : B.H p = none) (h4 : ∀ (j : Nat) (u : OV), ρ[j]? = some (some (.own u)) → σ[j]? ≠ some (some (.ref p))) {i : Nat} (hi : i < ρ.length) : SI Γ B w (ρ.set i (some (.own o))) z (σ.set i (some (.ref p))) H where
  wi := S.wi
  st := S.st
  len := by rw [List.length_set, List.length_set]; exact S.len
  sh := fun j d' h => by
    by_cases e : i = j
    · subst e
      rw [List.getElem?_set_self hi] at h
      cases h
    · rw [List.getElem?_set_ne e] at h
      rw [List.getElem?_set_ne e]
      exact S.sh j d' h
  own := fun j u h => by
    by_cases e : i = j
    · subst e
      rw [List.getElem?_set_self hi] at h
      cases h
      exact ⟨p, List.getElem?_set_self (by rw [← S.len]; exact hi), r, h1, h2, h3⟩
    · rw [List.getElem?_set_ne e] at h
      rw [List.getElem?_set_ne e]
      exact S.own j u h
  dis := fun j l u v c g1 g2 g3 g4 => by
    have hs : i < σ.length := by rw [← S.len]; exact hi
    by_cases e : i = j
    · by_cases e' : i = l
      · exact e.symm.trans e'
      · subst e
        rw [List.getElem?_set_self hs] at g3
        cases g3
        rw [List.getElem?_set_ne e'] at g2 g4
        exact absurd g4 (h4 l v g2)
    · by_cases e' : i = l
      · subst e'
        rw [List.getElem?_set_self hs] at g4
        cases g4
        rw [List.getElem?_set_ne e] at g1 g3
        exact absurd g3 (h4 j u g1)
      · rw [List.getElem?_set_ne e] at g1 g3
        rw [List.getElem?_set_ne e'] at g2 g4
        exact S.dis j l u v c g1 g2 g3 g4
  exn := fun j x h => by
    by_cases e : i = j
    · subst e; rw [List.getElem?_set_self hi] at h; cases h
    · rw [List.getElem?_set_ne e] at h
      rw [List.getElem?_set_ne e]
      exact S.exn j x h
  fnv := fun j x h => by
    by_cases e : i = j
    · subst e; rw [List.getElem?_set_self hi] at h; cases h
    · rw [List.getElem?_set_ne e] at h
      rw [List.getElem?_set_ne e]
      exact S.fnv j x h
def sOwn (i : Nat) (m : M (List D)) : MS := fun ρ z => (m ρ z).to ρ fun ds z1 => match setO i (.lst ds) ρ with
  | some ρ' => .nx ρ' z1
  | none => .bad
theorem own_to {i : Nat} {D : Ends} {σ : Sl} {H : Hp} : tDS Γ B Wx RT (sOwn i ml) D σ H → tF Γ B Wx ml σ H fun x H1 => D.nx (σ.set i (some x)) H1 := fun ⟨w, ρ, z, S, q⟩ =>
  ⟨w, ρ, z, S, q.to.mono fun ds w1 z1 H1 _ _ ⟨S1, s1, q1⟩ p o1 o2 o3 hp => by
    cases e : setO i (.lst ds) ρ with
    | none => rw [e] at q1; exact q1.elim
    | some ρ' =>
      rw [e] at q1
      unfold setO at e
      obtain ⟨rfl, hl⟩ := ite_some e
      obtain ⟨n1, n2⟩ := S.notOwn (w' := w) hp
      exact q1 _ w1 H1 (S1.setOwn o1 o2 o3 n2 n1 hl) (.refl _)⟩
theorem asg_to {i : Nat} {D : Ends} {σ : Sl} {H : Hp} : tDS Γ B Wx RT (sAsg (setE i) m) D σ H → tD Γ B Wx m σ H fun x H1 => D.nx (σ.set i (some x)) H1 := fun ⟨w, ρ, z, S, q⟩ =>
  ⟨w, ρ, z, S, q.to.mono fun d w1 z1 H1 _ _ ⟨S1, s1, q1⟩ v rv => by
    unfold sTo at q1
    cases e : setE i d ρ with
    | none => rw [e] at q1; exact q1.elim
    | some ρ' =>
      rw [e] at q1
      unfold setE at e
      obtain ⟨rfl, hl⟩ := ite_some e
      exact q1 _ w1 H1 (S1.set rv hl) (.refl _)⟩
theorem s_own (i : Nat) {x : Str} {p : Pos} (nd : X.N.Nodup) (h : PE X e (tF Γ B Wx ml)) (hi : X.N[i]? = some x := by rfl) (hx : Loc X.env.scope x := by first | exact Or.inl rfl | exact Or.inr rfl) (hf : X.fn x = true ∨ X.env.scope.names.lookup x = some .local := by first | exact .inl rfl | exact .inr rfl)
    (hs : swapsWithSole [.Name x p] e pos.line X.env = pure false := by rfl) (hw : swappedStores [.Name x p] e X.env = pure none := by rfl) : DS X Γ B Wx RT (.Assign [.Name x p] e pos) (sOwn i ml) := ps_weak (ps_asg h (pg_name nd hi hx hf) hs hw) fun D σ H q => own_to q
/-- an owned list is shared from here on (no statement of the text) -/
def frz (i : Nat) (ρ : En) : Option En := match ρ[i]? with
  | some (some (.own (.lst ds))) => some (ρ.set i (some (.sh (.lst ds))))
  | _ => none
def sFrz (i : Nat) (ms : MS) : MS := fun ρ z => match frz i ρ with
  | some ρ' => ms ρ' z
  | none => .bad
theorem s_frz (i : Nat) (h : DSs X Γ B Wx RT sts ms) : DSs X Γ B Wx RT sts (sFrz i ms) := pss_weak h fun D σ H ⟨w, ρ, z, S, q⟩ => by
  unfold sFrz at q
  cases e : frz i ρ with
  | none => rw [e] at q; exact q.elim
  | some ρ' =>
    rw [e] at q
    unfold frz at e
    split at e
    · rename_i ds he
      cases e
      obtain ⟨p, g1, g2, g3, g4, g5⟩ := S.own _ _ he
      have hi : i < ρ.length := (List.getElem?_eq_some_iff.mp he).1
      -- the slot forgotten, the list frozen, the slot shared
      have S1 : SI Γ B w (ρ.set i none) z σ H := by
        refine ⟨S.wi, S.st, by rw [List.length_set]; exact S.len, fun j d h => ?_, fun j o h => ?_, fun j l u v c k1 k2 k3 k4 => ?_, fun j x h => by
          by_cases e : i = j
          · subst e; rw [List.getElem?_set_self hi] at h; cases h
          · rw [List.getElem?_set_ne e] at h; exact S.exn j x h, fun j x h => by
          by_cases e : i = j
          · subst e; rw [List.getElem?_set_self hi] at h; cases h
          · rw [List.getElem?_set_ne e] at h; exact S.fnv j x h⟩
        · by_cases e : i = j
          · subst e; rw [List.getElem?_set_self hi] at h; cases h
          · rw [List.getElem?_set_ne e] at h; exact S.sh j d h
        · by_cases e : i = j
          · subst e; rw [List.getElem?_set_self hi] at h; cases h
          · rw [List.getElem?_set_ne e] at h; exact S.own j o h
        · by_cases e : i = j
          · subst e; rw [List.getElem?_set_self hi] at k1; cases k1
          · by_cases e' : i = l
            · subst e'; rw [List.getElem?_set_self hi] at k2; cases k2
            · rw [List.getElem?_set_ne e] at k1
              rw [List.getElem?_set_ne e'] at k2
              exact S.dis j l u v c k1 k2 k3 k4
      obtain ⟨w2, S2, mono, r, e1, e2, e3⟩ := S1.frozen g2 g3 g4 (fun j u h hj => by
        by_cases e : i = j
        · subst e; rw [List.getElem?_set_self hi] at h; cases h
        · rw [List.getElem?_set_ne e] at h
          exact e (S.dis i j _ _ p he h g1 hj)) (.inl g5)
      have S3 := S2.set r (i := i) (by rw [List.length_set]; exact hi)
      rw [List.set_set] at S3
      have hσ : σ.set i (some (.ref p)) = σ := by
        apply List.ext_getElem?
        intro j
        by_cases e : i = j
        · subst e
          rw [List.getElem?_set_self (by rw [← S.len]; exact hi), g1]
        · rw [List.getElem?_set_ne e]
      rw [hσ] at S3
      exact ⟨w2, _, z, S3, srTo.ext (r := ms _ z) q ⟨e2, fun n a h => by rw [e1]; exact h⟩⟩
    · cases e

/-! ### loops -/
def forGo (g : TgF) (body : MS) : List D → En → Z → SR
  | [], ρ, z => .nx ρ z
  | d :: ds, ρ, z => match g d ρ with
    | none => .bad
    | some ρ1 => match body ρ1 z with
      | .nx ρ2 z2 => forGo g body ds ρ2 z2
      | .ct ρ2 z2 => forGo g body ds ρ2 z2
      | .bk ρ2 z2 => .nx ρ2 z2
      | .rt d z2 => .rt d z2
      | .exc x ρ2 z2 => .exc x ρ2 z2
      | .bad => .bad
def sFor (it : M (List D)) (g : TgF) (body : MS) : MS := fun ρ z => (it ρ z).to ρ fun ds z1 => forGo g body ds ρ z1
theorem s_for {iter : Expr} {body : List Stmt} {mi : M (List D)} {sl : List Nat} {g : TgF} {mb : MS} (hp : PassesOwn (model X.prog X.w) X.A X.env X.xe) (hc : X.calm = true) (hi : PI X tg iter (tDI Γ B Wx mi)) (hg : PG X tg (gD Γ B sl g)) (hb : DSs X Γ B Wx RT body mb)
    (hs : ∀ x, foldedSetIterable iter X.env x = pure x := by intro _; rfl) : DS X Γ B Wx RT (.For tg iter body [] pos) (sFor mi g mb) := ps_weak (ps_for hp hc hi hg hb hs) fun D σ H ⟨w, ρ, z, S, q⟩ => by
  refine ⟨w, ρ, z, S, q.to.mono fun ds w1 z1 H1 _ _ ⟨S1, s1, q1⟩ J Fut hf it => ?_⟩
  let P : Nat → Sl → Hp → Prop := fun i σ3 H3 => ∃ w3 ρ3 z3, SI Γ B w3 ρ3 z3 σ3 H3 ∧ Ext w1 w3 ∧ srTo Γ B Wx RT w3 D (forGo g mb (ds.drop i) ρ3 z3)
  refine ⟨fun i n σ3 H3 => n = ds.length - i ∧ i ≤ ds.length ∧ P i σ3 H3, ⟨ds.length, by simp, Nat.zero_le _, w1, ρ, z1, S1, .refl _, q1⟩, ?_⟩
  rintro i n σ3 H3 ⟨rfl, hi, w3, ρ3, z3, S3, x3, q3⟩
  have F3 := hf w3 H3 x3
  by_cases hlt : i < ds.length
  · refine .inr ⟨it.go i w3 z3 H3 F3 S3.wi hlt, fun σ' H' => P (i + 1) σ' H', fun σ' H' p' => ⟨ds.length - (i + 1), by omega, rfl, hlt, p'⟩, fun x H' y => ?_⟩
    obtain ⟨w4, I4, s4, r4⟩ := it.yld i w3 z3 H3 x H' ds[i] F3 S3.wi (List.getElem?_eq_getElem hlt) y
    rw [List.drop_eq_getElem_cons hlt] at q3
    unfold forGo at q3
    cases hg1 : g ds[i] ρ3 with
    | none => rw [hg1] at q3; exact q3.elim
    | some ρ4 =>
      rw [hg1] at q3
      dsimp only at q3
      have x4 : Ext w1 w4 := x3.trans s4.ext
      refine ⟨w4, ρ3, z3, ds[i], S3.carry I4 s4, r4, ρ4, hg1, fun σ5 S5 _ _ => ⟨w4, ρ4, z3, S5, ?_⟩⟩
      cases hb1 : mb ρ4 z3 with
      | nx ρ6 z6 =>
        rw [hb1] at q3
        exact fun σ6 w6 H6 S6 x6 => ⟨w6, ρ6, z6, S6, x4.trans x6, srTo.ext (r := forGo g mb (ds.drop (i + 1)) ρ6 z6) q3 (s4.ext.trans x6)⟩
      | ct ρ6 z6 =>
        rw [hb1] at q3
        exact fun σ6 w6 H6 S6 x6 => ⟨w6, ρ6, z6, S6, x4.trans x6, srTo.ext (r := forGo g mb (ds.drop (i + 1)) ρ6 z6) q3 (s4.ext.trans x6)⟩
      | bk ρ6 z6 =>
        rw [hb1] at q3
        exact fun σ6 w6 H6 S6 x6 => q3 σ6 w6 H6 S6 (s4.ext.trans x6)
      | rt d6 z6 => rw [hb1] at q3; exact q3
      | exc x6 ρ6 z6 => rw [hb1] at q3; exact q3
      | bad => rw [hb1] at q3; exact q3
  · have e : i = ds.length := by omega
    subst e
    refine .inl ⟨it.stop w3 z3 H3 F3 S3.wi, ?_⟩
    rw [List.drop_length] at q3
    exact q3 σ3 w3 H3 S3 (.refl _)
/-! ### name = [.. for ..] on one line, the name a local that is no cell -/
section
variable {iter elt : Expr} {ifs : List Expr} {scope : Scope} {own : List (Str × Nat)} {mi : M (List D)} {g : TgF} {sl : List Nat} {mt : M Bool} {me : M D} {y : Str} {py spos : Pos}
theorem s_asgLc (i : Nat) (hc : X.calm = true) (nd : X.N.Nodup) (hi : PI X tg iter (tBI Γ B Wx mi)) (ok : BlkOk X.N X.env.scope scope own)
    (hg : ∀ (s : Shared) (H : Hp) (C : Addr) (cl : List (Str × Addr)) (fp : List Addr), PG (X.blk s H scope (compEnvC scope cl C X.env) fp) tg (gD Γ B sl g)) (ht : ∀ (s : Shared) (H : Hp) (C : Addr) (cl : List (Str × Addr)) (fp : List Addr), PTs (X.blk s H scope (compEnvC scope cl C X.env) fp) ifs (tDT Γ B Wx0 mt))
    (he : ∀ (s : Shared) (H : Hp) (C : Addr) (cl : List (Str × Addr)) (fp : List Addr), PE (X.blk s H scope (compEnvC scope cl C X.env) fp) elt (tD Γ B Wx0 me))
    (hsw : swapsWith (.ListComp elt [⟨tg, iter, ifs, 0⟩] scope pos) (some (.Name y py)) spos.line X.env = pure true) (hy : X.N[i]? = some y := by rfl) (hyl : X.env.scope.names.lookup y = some .local := by rfl) (hsl : ∀ j ∈ sl, j ∈ own.map (·.2) := by decide) (hs : ∀ x, foldedSetIterable iter X.env x = pure x := by intro _; rfl) :
    DS X Γ B Wx RT (.Assign [.Name y py] (.ListComp elt [⟨tg, iter, ifs, 0⟩] scope pos) spos) (sAsg (setE i) (mFz (mLc mi g mt me (own.map (·.2))))) :=
  ps_weak (ps_setLc hc nd hy hyl hsw hi ok hg ht he hs) fun D σ H q => lc_to hsl _ _ _ (fz_to _ _ _ (asg_to q))
theorem s_ownLc (i : Nat) (hc : X.calm = true) (nd : X.N.Nodup) (hi : PI X tg iter (tBI Γ B Wx mi)) (ok : BlkOk X.N X.env.scope scope own)
    (hg : ∀ (s : Shared) (H : Hp) (C : Addr) (cl : List (Str × Addr)) (fp : List Addr), PG (X.blk s H scope (compEnvC scope cl C X.env) fp) tg (gD Γ B sl g)) (ht : ∀ (s : Shared) (H : Hp) (C : Addr) (cl : List (Str × Addr)) (fp : List Addr), PTs (X.blk s H scope (compEnvC scope cl C X.env) fp) ifs (tDT Γ B Wx0 mt))
    (he : ∀ (s : Shared) (H : Hp) (C : Addr) (cl : List (Str × Addr)) (fp : List Addr), PE (X.blk s H scope (compEnvC scope cl C X.env) fp) elt (tD Γ B Wx0 me))
    (hsw : swapsWith (.ListComp elt [⟨tg, iter, ifs, 0⟩] scope pos) (some (.Name y py)) spos.line X.env = pure true) (hy : X.N[i]? = some y := by rfl) (hyl : X.env.scope.names.lookup y = some .local := by rfl) (hsl : ∀ j ∈ sl, j ∈ own.map (·.2) := by decide) (hs : ∀ x, foldedSetIterable iter X.env x = pure x := by intro _; rfl) :
    DS X Γ B Wx RT (.Assign [.Name y py] (.ListComp elt [⟨tg, iter, ifs, 0⟩] scope pos) spos) (sOwn i (mLc mi g mt me (own.map (·.2)))) :=
  ps_weak (ps_setLc hc nd hy hyl hsw hi ok hg ht he hs) fun D σ H q => lc_to hsl _ _ _ (own_to q)
end
end
end NW
set_option maxHeartbeats 400000
/-! Defs and their calls. -/
namespace NW
open PySem PySem.Spec PyProof.Rows L2

/-- a def's promise where no repr runs around the call -/
structure FnG (P : Program) (w : World) (K : PySem.W.Frag) (mg : Str → Option Value) (base : Heap) (k : Nat) (f : Addr) (fd : FuncData) (ps : List Str) (sp : Sp) : Prop where
  len : ∀ vs H Q E, sp vs H Q E → vs.length = ps.length
  run : ∀ (A : Around) (outer : List Env) (s : Shared) (H : Hp) (args : Args) (us : List Value) (vs : List V) (Q : VK) (E : XK), Room k A → A.guards = some [] → Env0 P w K mg base A outer s H → BindsTo s fd args (ps.zip us) → Vals vs us → sp vs H Q E →
    codeAny (model P w) A (.call (.ref f) args) (CR (L2.CX P w) outer P w H s Q E) s
theorem FnG.mono {P : Program} {w : World} {K : PySem.W.Frag} {mg : Str → Option Value} {base : Heap} {j k : Nat} {f : Addr} {fd : FuncData} {ps : List Str} {sp : Sp} (F : FnG P w K mg base j f fd ps sp) (h : j ≤ k) : FnG P w K mg base k f fd ps sp :=
  ⟨F.len, fun A outer s H args us vs Q E hr => F.run A outer s H args us vs Q E (hr.mono h)⟩
theorem FnG.imp {P : Program} {w : World} {K : PySem.W.Frag} {mg : Str → Option Value} {base : Heap} {k : Nat} {f : Addr} {fd : FuncData} {ps : List Str} {sp sp' : Sp} (F : FnG P w K mg base k f fd ps sp)
    (h : ∀ vs H Q E, sp' vs H Q E → sp vs H Q E) : FnG P w K mg base k f fd ps sp' :=
  ⟨fun vs H Q E q => F.len vs H Q E (h _ _ _ _ q), fun A outer s H args us vs Q E hr hg he hb hv hs => F.run A outer s H args us vs Q E hr hg he hb hv (h _ _ _ _ hs)⟩
theorem FnOk.toG {P : Program} {w : World} {K : PySem.W.Frag} {mg : Str → Option Value} {base : Heap} {k : Nat} {f : Addr} {fd : FuncData} {ps : List Str} {sp : Sp} (F : FnOk P w K mg base (L2.CX P w) k f fd ps sp) : FnG P w K mg base k f fd ps sp :=
  ⟨F.len, fun A outer s H args us vs Q E hr _ => F.run A outer s H args us vs Q E hr⟩
/-- by its body -/
theorem fnG_of {P : Program} {w : World} {K : PySem.W.Frag} {mg : Str → Option Value} {base : Heap} {k : Nat} {f : Addr} {name qual : Str} {params : Arguments} {body : List Stmt} {scope : Scope} {dV kV doc pm cdv ct oc : Value} {an od : Option Addr}
    {osl : Array (Option Value)} {N ps : List Str} {sp : Sp} (lk : K.lookup f = some ⟨oc, od, .func (PySem.W.fnOf name qual params body scope dV kV doc pm an cdv ct), osl⟩) (hcd : PySem.W.codeIn K cdv qual = true) (S : FnScope N ps scope)
    (len : ∀ vs H Q E, sp vs H Q E → vs.length = ps.length)
    (hbody : ∀ (A : Around) (outer : List Env) (s : Shared) (H : Hp) (vs : List V) (Q : VK) (E : XK), Room k (A.deeper (envOfC qual scope s.heap.objs.size f cdv)) → A.guards = some [] → sp vs H Q E →
      ∃ t, PSs (cxOf (L2.CX P w) P w K mg base N qual scope f cdv A outer s H E) body t ∧ t { nx := fun _ H' => Q .non H', rt := Q } (start N vs) H) :
    FnG P w K mg base (k + 1) f (PySem.W.fnOf name qual params body scope dV kV doc pm an cdv ct) ps sp := by
  refine ⟨len, fun A outer s H args us vs Q E hr hg e0 hb r hsp => ?_⟩
  have hl := len _ _ _ _ hsp
  have KX : K.In s.heap := e0.mod.kin.keeps fun b o e => (e0.bs b o e).1
  have lim : s.heap.NoLimit := e0.mod.nolimit.keeps fun b o e => (e0.bs b o e).1
  refine codeAny_call_function hr.depth (KX _ _ lk) rfl S.co S.gen rfl (PySem.W.codeRec_of KX hcd) (hb _ _ _ _ (wpAny_newFunctionEnv_cells S.kind (fun ⟨n, v⟩ hy => ?_) fun env he s1 x => ?_))
  · rcases S.par n (List.of_mem_zip hy).1 with q | q
    · exact .inl q
    · exact .inr ⟨q, PySem.W.cellsFrom_some _ _ _ (.inl q)⟩
  subst he
  refine ⟨lim.keeps x.toInCall.keep, codeAny_func ?_⟩
  obtain ⟨t, ht, hq⟩ := hbody A outer s H vs Q E (hr.deeper _) hg hsp
  have I := inv_start (CX := L2.CX P w) (E := E) S hr.hd e0 hl r x
  refine wpAny_mono (ht.run [] s1 (start N vs) H _ I hq) (fun fl s' hs => ?_) fun e s' hs => hs
  cases fl with
  | ret u =>
    obtain ⟨v, σ', H', J, rv, q⟩ := hs
    exact ⟨v, H', J.os, J.bare, J.base, J.hok, rv, q⟩
  | next =>
    obtain ⟨σ', H', J, q⟩ := hs
    exact ⟨V.non, H', J.os, J.bare, J.base, J.hok, (rfl : RelV V.non Value.none), q⟩
  | brk => obtain ⟨_, _, _, q⟩ := hs; exact False.elim q
  | cont => obtain ⟨_, _, _, q⟩ := hs; exact False.elim q

section
variable {Γ : Gam}
/-- a call's end, by the mirror -/
def fnTo (Γ : Gam) (RT : RTT) (w : W) (H : Hp) (r : Res D) (Q : VK) (E : XK) : Prop := match r with
  | .ok d z => ∀ v w' H', WI Γ w' z H' → Step w H w' H' → RT w' H' d v → Q v H'
  | .exc x z => ∀ cls dd w' H', WI Γ w' z H' → Step w H w' H' → RepX Γ w' x cls dd H' → E cls dd H'
  | .bad => False
/-- hands back data -/
def spD (Γ : Gam) (n : Nat) (F : FM) : Sp := fun vs H Q E => vs.length = n ∧ ∃ w z ds, WI Γ w z H ∧ RepL Γ w ds vs ∧ fnTo Γ (RTn Γ) w H (F ds z) Q E
/-- hands back a new list -/
def spF (Γ : Gam) (n : Nat) (F : FM) : Sp := fun vs H Q E => vs.length = n ∧ ∃ w z ds, WI Γ w z H ∧ RepL Γ w ds vs ∧ fnTo Γ (RTf Γ (bs w H)) w H (F ds z) Q E
def startE (n : Nat) (ds : List D) : En := ds.map (fun d => some (.sh d)) ++ List.replicate (n - ds.length) none
def endR (r : SR) : Res D := match r with
  | .nx _ z => .ok .non z
  | .rt d z => .ok d z
  | .exc x _ z => .exc x z
  | _ => .bad
/-- .. of a def that hands back a new list -/
def endRF (r : SR) : Res D := match r with
  | .rt d z => .ok d z
  | .exc x _ z => .exc x z
  | _ => .bad
def runBF (n : Nat) (ms : MS) : FM := fun ds z => endRF (ms (startE n ds) z)
def runB (n : Nat) (ms : MS) : FM := fun ds z => endR (ms (startE n ds) z)
theorem SI.start {w : W} {z : Z} {H : Hp} {N : List Str} {ds : List D} {vs : List V} (I : WI Γ w z H) (r : RepL Γ w ds vs) : SI Γ (bs w H) w (startE N.length ds) z (start N vs) H where
  wi := I
  st := .refl _ _
  len := by unfold startE L2.start; simp [r.length]
  sh := fun i d h => by
    unfold startE at h
    by_cases hi : i < ds.length
    · rw [List.getElem?_append_left (by simpa using hi), List.getElem?_map] at h
      obtain ⟨d', h1, h2⟩ := Option.map_eq_some_iff.mp h
      cases h2
      obtain ⟨v, h3, h4⟩ := r.get h1
      refine ⟨v, ?_, h4⟩
      unfold L2.start
      rw [List.getElem?_append_left (by rw [List.length_map, r.length]; exact hi), List.getElem?_map, h3]
      rfl
    · rw [List.getElem?_append_right (by simpa using hi), List.getElem?_replicate] at h
      split at h <;> cases h
  own := fun i o h => by
    unfold startE at h
    by_cases hi : i < ds.length
    · rw [List.getElem?_append_left (by simpa using hi), List.getElem?_map] at h
      obtain ⟨d', h1, h2⟩ := Option.map_eq_some_iff.mp h
      cases h2
    · rw [List.getElem?_append_right (by simpa using hi), List.getElem?_replicate] at h
      split at h <;> cases h
  dis := fun i j o u c h => by
    intro h2
    unfold startE at h
    by_cases hi : i < ds.length
    · rw [List.getElem?_append_left (by simpa using hi), List.getElem?_map] at h
      obtain ⟨d', h1, h2⟩ := Option.map_eq_some_iff.mp h
      cases h2
    · rw [List.getElem?_append_right (by simpa using hi), List.getElem?_replicate] at h
      split at h <;> cases h
  exn := fun i x h => by
    unfold startE at h
    by_cases hi : i < ds.length
    · rw [List.getElem?_append_left (by simpa using hi), List.getElem?_map] at h
      obtain ⟨d', h1, h2⟩ := Option.map_eq_some_iff.mp h
      cases h2
    · rw [List.getElem?_append_right (by simpa using hi), List.getElem?_replicate] at h
      split at h <;> cases h
  fnv := fun i x h => by
    unfold startE at h
    by_cases hi : i < ds.length
    · rw [List.getElem?_append_left (by simpa using hi), List.getElem?_map] at h
      obtain ⟨d', h1, h2⟩ := Option.map_eq_some_iff.mp h
      cases h2
    · rw [List.getElem?_append_right (by simpa using hi), List.getElem?_replicate] at h
      split at h <;> cases h
variable {P : Program} {w : World} {K : PySem.W.Frag} {mg : Str → Option Value} {base : Heap}
abbrev WxE (E : XK) : WX := fun cls dd _ H => E cls dd H
theorem body_to {RT : RTT} {w0 : W} {H : Hp} {ms : MS} {ρ : En} {z : Z} {Q : VK} {E : XK} (h : fnTo Γ RT w0 H (endR (ms ρ z)) Q E) (hn : ∀ w' H' , RT w' H' .non .non) : srTo Γ (bs w0 H) (WxE E) RT w0 { nx := fun _ H' => Q .non H', rt := Q } (ms ρ z) := by
  cases e : ms ρ z with
  | nx ρ' z' => rw [e] at h; exact fun σ w' H' S _ => h .non w' H' S.wi S.st (hn _ _)
  | rt d z' => rw [e] at h; exact fun v w' H' I s r => h v w' H' I s r
  | bk ρ' z' => rw [e] at h; exact h.elim
  | ct ρ' z' => rw [e] at h; exact h.elim
  | exc x ρ' z' => rw [e] at h; exact fun cls dd σ w' H' S r => h cls dd w' H' S.wi S.st r
  | bad => rw [e] at h; exact h
/-- what a body's derivation is given -/
abbrev CxF (P : Program) (w : World) (K : PySem.W.Frag) (mg : Str → Option Value) (base : Heap) (N : List Str) (qual : Str) (st : Stmt) (f : Addr) (cdv : Value) (A : Around) (outer : List Env) (s : Shared) (H : Hp) (E : XK) : Cx :=
  cxOf (L2.CX P w) P w K mg base N qual (defScope st) f cdv A outer s H E
theorem fn_d {x qual : Str} {st : Stmt} {f : Addr} {fd : FuncData} {N ps : List Str} {k : Nat} {ms : MS} {cls : Nat → Addr} {tb : List (Addr × Str)} (F : Fun K x qual st f fd) (S : FnScope N ps (defScope st))
    (hbody : ∀ (cdv : Value) (A : Around) (outer : List Env) (s : Shared) (H : Hp) (E : XK) (B : Bs), Dv ⟨K, cls, tb⟩ (CxF P w K mg base N qual st f cdv A outer s H E) (WxE E) k → PassesOwn (model P w) (CxF P w K mg base N qual st f cdv A outer s H E).A (CxF P w K mg base N qual st f cdv A outer s H E).env (CxF P w K mg base N qual st f cdv A outer s H E).xe →
      DSs (CxF P w K mg base N qual st f cdv A outer s H E) ⟨K, cls, tb⟩ B (WxE E) (RTn ⟨K, cls, tb⟩) (defBody st) ms) : FnG P w K mg base (k + 1) f fd ps (spD ⟨K, cls, tb⟩ ps.length (runB N.length ms)) := by
  obtain ⟨oc, od, kV, doc, pm, an, cdv, ct, osl, rfl, lk, hcd⟩ := F.ex
  refine fnG_of lk hcd S (fun vs H Q E h => h.1) fun A outer s H vs Q E hr hg hsp => ?_
  obtain ⟨hl, w0, z, ds, I, r, h⟩ := hsp
  refine ⟨_, hbody cdv A outer s H E (bs w0 H) ⟨rfl, rfl, S.nd, hr, hg, takes_of rfl rfl rfl rfl⟩ (passes_of rfl), w0, _, z, SI.start I r, body_to h fun _ _ => .non⟩
theorem fn_f {x qual : Str} {st : Stmt} {f : Addr} {fd : FuncData} {N ps : List Str} {k : Nat} {ms : MS} {cls : Nat → Addr} {tb : List (Addr × Str)} (F : Fun K x qual st f fd) (S : FnScope N ps (defScope st))
    (hbody : ∀ (cdv : Value) (A : Around) (outer : List Env) (s : Shared) (H : Hp) (E : XK) (B : Bs), Dv ⟨K, cls, tb⟩ (CxF P w K mg base N qual st f cdv A outer s H E) (WxE E) k → PassesOwn (model P w) (CxF P w K mg base N qual st f cdv A outer s H E).A (CxF P w K mg base N qual st f cdv A outer s H E).env (CxF P w K mg base N qual st f cdv A outer s H E).xe →
      DSs (CxF P w K mg base N qual st f cdv A outer s H E) ⟨K, cls, tb⟩ B (WxE E) (RTf ⟨K, cls, tb⟩ B) (defBody st) ms) : FnG P w K mg base (k + 1) f fd ps (spF ⟨K, cls, tb⟩ ps.length (runBF N.length ms)) := by
  obtain ⟨oc, od, kV, doc, pm, an, cdv, ct, osl, rfl, lk, hcd⟩ := F.ex
  refine fnG_of lk hcd S (fun vs H Q E h => h.1) fun A outer s H vs Q E hr hg hsp => ?_
  obtain ⟨hl, w0, z, ds, I, r, h⟩ := hsp
  refine ⟨_, hbody cdv A outer s H E (bs w0 H) ⟨rfl, rfl, S.nd, hr, hg, takes_of rfl rfl rfl rfl⟩ (passes_of rfl), w0, _, z, SI.start I r, ?_⟩
  have h' : fnTo ⟨K, cls, tb⟩ (RTf ⟨K, cls, tb⟩ (bs w0 H)) w0 H (endRF (ms (startE N.length ds) z)) Q E := h
  cases e : ms (startE N.length ds) z with
  | nx ρ' z' => rw [e] at h'; exact h'.elim
  | rt d z' => rw [e] at h'; exact fun v w' H' I s r => h' v w' H' I s r
  | bk ρ' z' => rw [e] at h'; exact h'.elim
  | ct ρ' z' => rw [e] at h'; exact h'.elim
  | exc x ρ' z' => rw [e] at h'; exact fun cls dd σ w' H' S r => h' cls dd w' H' S.wi S.st r
  | bad => rw [e] at h'; exact h'
end

section
variable {Γ : Gam} {P : Program} {w : World} {K : PySem.W.Frag} {mg : Str → Option Value} {base : Heap}
theorem fn_dn {x qual : Str} {st : Stmt} {f : Addr} {fd : FuncData} {k n : Nat} {F0 : FM} {cls : Nat → Addr} {tb : List (Addr × Str)} (N ps : List Str) (ms : MS) (F : Fun K x qual st f fd) (S : FnScope N ps (defScope st)) (hF : F0 = runB N.length ms) (hn : n = ps.length)
    (hbody : ∀ (cdv : Value) (A : Around) (outer : List Env) (s : Shared) (H : Hp) (E : XK) (B : Bs), Dv ⟨K, cls, tb⟩ (CxF P w K mg base N qual st f cdv A outer s H E) (WxE E) k → PassesOwn (model P w) (CxF P w K mg base N qual st f cdv A outer s H E).A (CxF P w K mg base N qual st f cdv A outer s H E).env (CxF P w K mg base N qual st f cdv A outer s H E).xe →
      DSs (CxF P w K mg base N qual st f cdv A outer s H E) ⟨K, cls, tb⟩ B (WxE E) (RTn ⟨K, cls, tb⟩) (defBody st) ms) : FnG P w K mg base (k + 1) f fd ps (spD ⟨K, cls, tb⟩ n F0) := by
  subst hF hn
  exact fn_d F S hbody
theorem fn_fn {x qual : Str} {st : Stmt} {f : Addr} {fd : FuncData} {k n : Nat} {F0 : FM} {cls : Nat → Addr} {tb : List (Addr × Str)} (N ps : List Str) (ms : MS) (F : Fun K x qual st f fd) (S : FnScope N ps (defScope st)) (hF : F0 = runBF N.length ms) (hn : n = ps.length)
    (hbody : ∀ (cdv : Value) (A : Around) (outer : List Env) (s : Shared) (H : Hp) (E : XK) (B : Bs), Dv ⟨K, cls, tb⟩ (CxF P w K mg base N qual st f cdv A outer s H E) (WxE E) k → PassesOwn (model P w) (CxF P w K mg base N qual st f cdv A outer s H E).A (CxF P w K mg base N qual st f cdv A outer s H E).env (CxF P w K mg base N qual st f cdv A outer s H E).xe →
      DSs (CxF P w K mg base N qual st f cdv A outer s H E) ⟨K, cls, tb⟩ B (WxE E) (RTf ⟨K, cls, tb⟩ B) (defBody st) ms) : FnG P w K mg base (k + 1) f fd ps (spF ⟨K, cls, tb⟩ n F0) := by
  subst hF hn
  exact fn_f F S hbody
end
/-! ### calls -/
section
variable {X : Cx} {Γ : Gam} {B : Bs} {Wx : WX} {k j : Nat} {a b e : Expr} {es : List Expr} {m ma mb : M D} {ml : M (List D)} {pos : Pos} {f : Addr} {fd : FuncData} {ps : List Str} {F : FM}
theorem hu64 (V : Dv Γ X Wx k) : X.A.units + 64 < cLine := V.room.units
theorem Dv.blk {s : Shared} {H : Hp} {scope : Scope} {cenv : Env} {fp : List Addr} (V : Dv Γ X Wx k) : Dv Γ (X.blk s H scope cenv fp) Wx0 k := ⟨V.hK, V.calm, V.nd, V.room, V.grd, takes0⟩
theorem run_fnG {sp : Sp} {dvs : List V} {ds : List Value} {E : XK} {pins : List (Addr × Obj)} {σ : Sl} {H : Hp} {s : Shared} {Q : VK} {us : List Value} {vs : List V} (G : FnG X.prog X.w X.K X.mg X.base k f fd ps sp) (hr : Room k X.A) (hg : X.A.guards = some []) (hb : Binds X.K fd ps ds) (hd : Vals dvs ds) (hx : PassesAt (L2.CX X.prog X.w) X σ E)
    (I : Inv X pins σ H s) (r : Vals vs us) (h : sp (vs ++ dvs) H Q E) : wpAny (model X.prog X.w) X.A (call (.ref f) us) (EP X pins σ Q) X.xe s := by
  have r2 : Vals (vs ++ dvs) (us ++ ds) := r.append hd
  have hl : (us ++ ds).length = ps.length := by rw [← r2.length]; exact G.len _ _ _ _ h
  refine wpAny_call (codeAny_mono (G.run X.A X.stack s H ⟨us, []⟩ (us ++ ds) (vs ++ dvs) Q E hr hg I.env0 (hb s us I.kIn hl) r2 h) fun r s' hq => ?_)
  cases r with
  | error e => exact hx pins H s e s' I hq
  | ok fl =>
    cases fl with
    | ret u => exact I.after hq
    | next => exact False.elim hq
    | brk => exact False.elim hq
    | cont => exact False.elim hq
def mApp (n : Nat) (F : FM) (ml : M (List D)) : M D := mBind ml fun ds _ z => if ds.length = n then F ds z else .bad
def itemsL : D → Option (List D)
  | .lst ds => some ds
  | _ => none
/-- the arguments are there: the def's promise from the mirror's rest -/
theorem app_to {w : W} {ρ : En} {z : Z} {σ : Sl} {H : Hp} {ds : List D} {vs : List V} {Q : VK} {n : Nat} (S : SI Γ B w ρ z σ H) (r : RepL Γ w ds vs) (q : resTo Γ B Wx w ρ σ H (if ds.length = n then F ds z else .bad) fun d w' _ H' => ∀ v, Rep Γ w' d v → Q v H') : spD Γ n F vs H Q (fun cls dd H' => Wx cls dd σ H') := by
  split at q
  · refine ⟨r.length.trans (by assumption), w, z, ds, S.wi, r, ?_⟩
    cases e : F ds z with
    | ok d z1 => rw [e] at q; exact fun v w' H' I s rv => q w' H' (S.carry I s) s v rv
    | exc x z1 => rw [e] at q; exact fun cls dd w' H' I s rx => q cls dd w' H' (S.carry I s) s rx
    | bad => rw [e] at q; exact q
  · exact q.elim
theorem appF_to {w : W} {ρ : En} {z : Z} {σ : Sl} {H : Hp} {ds : List D} {vs : List V} {Q : VK} {n : Nat} (S : SI Γ B w ρ z σ H) (r : RepL Γ w ds vs)
    (q : resTo Γ B Wx w ρ σ H ((if ds.length = n then F ds z else .bad).bind fun d z1 => mOpt (fun _ => itemsL d) ρ z1) fun ds w' _ H' => ∀ p, OwnRep Γ w' H' p (.lst ds) → w'.R p = none → p ∉ w'.pl → H p = none → Q (.ref p) H') : spF Γ n F vs H Q (fun cls dd H' => Wx cls dd σ H') := by
  split at q
  · refine ⟨r.length.trans (by assumption), w, z, ds, S.wi, r, ?_⟩
    cases e : F ds z with
    | ok d z1 =>
      rw [e] at q
      obtain ⟨es, he, q⟩ := resTo.opt (f := fun _ => itemsL d) (ρ := ρ) (z := z1) q
      rintro v w' H' I s ⟨ds', p, rfl, rfl, o1, o2, o3, o4⟩
      cases he
      exact q w' H' (S.carry I s) s p o1 o2 o3 o4
    | exc x z1 => rw [e] at q; exact fun cls dd w' H' I s rx => q cls dd w' H' (S.carry I s) s rx
    | bad => rw [e] at q; exact q
  · exact q.elim
variable {x : Str} {p : Pos}
theorem call_args {sp : Sp} {n : Nat} {te : TE} (V : Dv Γ X Wx j) (G : FnG X.prog X.w X.K X.mg X.base k f fd ps sp) (hm : X.mg x = some (.ref f)) (hkp : PySem.W.keepIn X.K (.ref f) = true) (hb : Binds X.K fd ps []) {ta : TA} (ha : PA X (e :: es) ta)
    (h : ∀ σ H Q, te σ H Q → ta σ H fun vs H1 => sp vs H1 Q (fun cls dd H' => Wx cls dd σ H')) (hj : k ≤ j) (hg : Gl X x) (hdb : (x == ("__debug__" : Str)) = false)
    (he : starEach (e :: es) X.env = (false, eval e X.env) :: starEach es X.env) (hpl : (backTo pos (starEach es X.env)).any (·.1) = false) : PE X (.Call (.Name x p) (e :: es) [] pos) te := by
  refine ⟨fun pins s σ H Q I q => ?_⟩
  refine wpAny_Call_Name_kw (ld_glob I hg hm ?_ hdb)
  refine PySem.W.callWith_K (h₀ := X.base) I.ok.mod.kin hkp (thn (ha.run pos pins s σ H _ I (h σ H Q q)) fun us s1 ⟨vs, H1, I1, r, q1⟩ => ⟨I1.kIn, ?_⟩) he hpl
  refine run_fnG (dvs := []) G (V.room.mono hj) V.grd hb .nil (passAt V.tk σ) I1 r ?_
  rw [List.append_nil]
  exact q1
theorem d_call {n : Nat} (V : Dv Γ X Wx j) (G : FnG X.prog X.w X.K X.mg X.base k f fd ps (spD Γ n F)) (hm : X.mg x = some (.ref f)) (hkp : PySem.W.keepIn X.K (.ref f) = true) (hb : Binds X.K fd ps []) (ha : PA X (e :: es) (tDA Γ B Wx ml)) (hj : k ≤ j := by decide) (hg : Gl X x := by rfl) (hdb : (x == ("__debug__" : Str)) = false := by decide)
    (he : starEach (e :: es) X.env = (false, eval e X.env) :: starEach es X.env := by rfl) (hpl : (backTo pos (starEach es X.env)).any (·.1) = false := by rfl) : PE X (.Call (.Name x p) (e :: es) [] pos) (tD Γ B Wx (mApp n F ml)) :=
  call_args (n := 0) V G hm hkp hb ha (fun σ H Q ⟨w, ρ, z, S, q⟩ => ⟨w, ρ, z, S, q.bind.mono fun ds w1 z1 H1 _ _ ⟨S1, s1, q1⟩ vs rvs => app_to S1 rvs q1⟩) hj hg hdb he hpl
/-- a def that hands back a new list -/
def mAppF (n : Nat) (F : FM) (ml : M (List D)) : M (List D) := mBind ml fun ds ρ z => (if ds.length = n then F ds z else .bad).bind fun d z1 => mOpt (fun _ => itemsL d) ρ z1
theorem f_call {n : Nat} (V : Dv Γ X Wx j) (G : FnG X.prog X.w X.K X.mg X.base k f fd ps (spF Γ n F)) (hm : X.mg x = some (.ref f)) (hkp : PySem.W.keepIn X.K (.ref f) = true) (hb : Binds X.K fd ps []) (ha : PA X (e :: es) (tDA Γ B Wx ml)) (hj : k ≤ j := by decide) (hg : Gl X x := by rfl) (hdb : (x == ("__debug__" : Str)) = false := by decide)
    (he : starEach (e :: es) X.env = (false, eval e X.env) :: starEach es X.env := by rfl) (hpl : (backTo pos (starEach es X.env)).any (·.1) = false := by rfl) : PE X (.Call (.Name x p) (e :: es) [] pos) (tF Γ B Wx (mAppF n F ml)) :=
  call_args (n := 0) V G hm hkp hb ha (fun σ H Q ⟨w, ρ, z, S, q⟩ => ⟨w, ρ, z, S, q.bind.mono fun ds w1 z1 H1 _ t1 ⟨S1, s1, q1⟩ vs rvs => appF_to S1 rvs (q1.mono fun _ _ _ _ _ _ k p o1 o2 o3 o4 => k p o1 o2 o3 (none_back t1 o4))⟩) hj hg hdb he hpl
end
end NW
set_option maxHeartbeats 400000
/-! The store's lists; a law's end. -/
namespace NW
open PySem PySem.Spec PyProof.Rows L2

section
variable {X : Cx} {Γ : Gam} {B : Bs} {Wx : WX} {RT : RTT} {k j : Nat} {a b e : Expr} {es : List Expr} {m ma mb : M D} {ml : M (List D)} {pos : Pos}
/-! ### a new list goes into the store -/
theorem WI.alloc {w : W} {z : Z} {H : Hp} (I : WI Γ w z H) {p : Addr} {mo : MO} (h1 : w.R p = none) (h2 : p ∉ w.pl) (h3 : ObRep Γ w H p mo) : WI Γ ⟨w.R, w.pl ++ [p]⟩ (z ++ [mo]) H := by
  have up : ∀ (n : Nat) (a : Addr), w.pl[n]? = some a → (w.pl ++ [p])[n]? = some a := fun n a h => by
    rw [List.getElem?_append_left (List.getElem?_eq_some_iff.mp h).1]; exact h
  refine ⟨I.le, by simp [I.len], fun n mo' h => ?_, ?_, I.nt, I.tb⟩
  · by_cases hn : n < z.length
    · rw [List.getElem?_append_left hn] at h
      obtain ⟨a, g1, g2, g3⟩ := I.st n mo' h
      exact ⟨a, up n a g1, g2, g3.keep (fun _ _ h => h) up fun _ h => h⟩
    · rw [List.getElem?_append_right (by omega)] at h
      have hn0 : n - z.length = 0 := by
        have := (List.getElem?_eq_some_iff.mp h).1
        simp at this
        omega
      rw [hn0] at h
      cases h
      refine ⟨p, ?_, h1, h3.keep (fun _ _ h => h) up fun _ h => h⟩
      show (w.pl ++ [p])[n]? = some p
      rw [List.getElem?_append_right (by rw [I.len]; omega), I.len, hn0]
      rfl
  · rw [List.nodup_append]
    exact ⟨I.nd, by simp, fun a ha b hb e => h2 (by simp at hb; subst hb; subst e; exact ha)⟩
def sMob (i : Nat) (m : M (List D)) : MS := fun ρ z => (m ρ z).to ρ fun ds z1 => match setE i (.mob z1.length) ρ with
  | some ρ' => .nx ρ' (z1 ++ [.lst ds])
  | none => .bad
theorem s_mob (i : Nat) {x : Str} {p : Pos} (nd : X.N.Nodup) (h : PE X e (tF Γ B Wx ml)) (hi : X.N[i]? = some x := by rfl) (hx : Loc X.env.scope x := by first | exact Or.inl rfl | exact Or.inr rfl) (hf : X.fn x = true ∨ X.env.scope.names.lookup x = some .local := by first | exact .inl rfl | exact .inr rfl)
    (hs : swapsWithSole [.Name x p] e pos.line X.env = pure false := by rfl) (hw : swappedStores [.Name x p] e X.env = pure none := by rfl) : DS X Γ B Wx RT (.Assign [.Name x p] e pos) (sMob i ml) := ps_weak (ps_asg h (pg_name nd hi hx hf) hs hw) fun D σ H ⟨w, ρ, z, S, q⟩ =>
  ⟨w, ρ, z, S, q.to.mono fun ds w1 z1 H1 _ t1 ⟨S1, s1, q1⟩ p o1 o2 o3 hp => by
    cases e : setE i (.mob z1.length) ρ with
    | none => rw [e] at q1; exact q1.elim
    | some ρ' =>
      rw [e] at q1
      unfold setE at e
      obtain ⟨rfl, hl⟩ := ite_some e
      obtain ⟨n1, n2⟩ := S.notOwn (w' := w) hp
      obtain ⟨xs, o1, o4⟩ := o1
      have up : ∀ (n : Nat) (a : Addr), w1.pl[n]? = some a → (w1.pl ++ [p])[n]? = some a := fun n a h => by
        rw [List.getElem?_append_left (List.getElem?_eq_some_iff.mp h).1]; exact h
      have I2 : WI Γ ⟨w1.R, w1.pl ++ [p]⟩ (z1 ++ [.lst ds]) H1 := S1.wi.alloc o2 o3 ⟨xs, o1, o4⟩
      have s2 : Step w H ⟨w1.R, w1.pl ++ [p]⟩ H1 := ⟨t1.r, fun n a h => up n a (t1.t n a h), t1.k, t1.f, fun a h => by
        rcases List.mem_append.mp h with h | h
        · exact t1.n a h
        · simp at h; subst h; exact .inr hp, t1.y⟩
      have S2 := S.carry I2 s2
      have r2 : Rep Γ ⟨w1.R, w1.pl ++ [p]⟩ (.mob z1.length) (.ref p) := .mob (by
        show (w1.pl ++ [p])[z1.length]? = some p
        rw [← S1.wi.len, List.getElem?_append_right (Nat.le_refl _)]; simp)
      exact q1 _ _ H1 (S2.set r2 hl) ⟨fun _ _ h => h, up⟩⟩
/-- o[i] = e, o a list of the store -/
def setM (z : Z) (o i v : D) : Option Z := match o, i with
  | .mob n, .int c => match z[n]? with
    | some (.lst ds) => (ixN ds.length c).map fun j => z.set n (.lst (ds.set j v))
    | _ => none
  | _, _ => none
def sSetM (mv mo mi : M D) : MS := fun ρ z => (mv ρ z).to ρ fun v z1 => (mo ρ z1).to ρ fun o z2 => (mi ρ z2).to ρ fun i z3 => match setM z3 o i v with
  | some z4 => .nx ρ z4
  | none => .bad
theorem WI.setMob {w : W} {z : Z} {H : Hp} (I : WI Γ w z H) {n : Nat} {p : Addr} {ds ds' : List D} {xs' : List V} (hz : z[n]? = some (.lst ds)) (hp : w.pl[n]? = some p) (r : RepL Γ w ds' xs') : WI Γ w (z.set n (.lst ds')) (upd H p (.lst xs')) ∧ Step w H w (upd H p (.lst xs')) := by
  have hpm : p ∈ w.pl := List.mem_of_getElem? hp
  obtain ⟨u, hu, hR⟩ := I.th hpm
  have hnz : n < z.length := (List.getElem?_eq_some_iff.mp hz).1
  obtain ⟨p', q1, _, xs0, q2, _⟩ := I.st n _ hz
  cases hp.symm.trans q1
  refine ⟨⟨fun a o h => ?_, by rw [List.length_set]; exact I.len, fun l mo h => ?_, I.nd, I.nt, Tabs.mutL I.tb (.inl ⟨_, q2⟩)⟩, ⟨fun _ _ h => h, fun _ _ h => h, fun a o h _ k => ?_, fun _ _ _ h => h, fun _ h => .inl h, fun a o h => ?_⟩⟩
  · rw [upd_ne (ne_of_none h hR)]; exact I.le a o h
  · by_cases e : n = l
    · subst e
      rw [List.getElem?_set_self hnz] at h
      cases h
      exact ⟨p, hp, hR, xs', upd_same, r⟩
    · rw [List.getElem?_set_ne e] at h
      obtain ⟨c, g1, g2, g3⟩ := I.st l mo h
      have ne : c ≠ p := fun q => by
        subst q
        obtain ⟨l1, e1⟩ := List.getElem?_eq_some_iff.mp hp
        obtain ⟨l2, e2⟩ := List.getElem?_eq_some_iff.mp g1
        exact e ((List.getElem_inj I.nd).mp (e1.trans e2.symm))
      exact ⟨c, g1, g2, g3.keep (fun _ _ h => h) (fun _ _ h => h) fun o ho => by rw [upd_ne ne]; exact ho⟩
  · rw [upd_ne (fun q : a = p => k (by rw [q]; exact hpm))]; exact h
  · by_cases e : a = p
    · subst e; exact ⟨_, upd_same⟩
    · exact ⟨o, by rw [upd_ne e]; exact h⟩
theorem s_setM {o i : Expr} {mo mi : M D} {tpos : Pos} (he : PE X e (tD Γ B Wx m)) (ho : PE X o (tD Γ B Wx mo)) (hi : PE X i (tD Γ B Wx mi))
    (hsub : ∀ v, assign (.Subscript o i tpos) X.env v = (do
      let ov ← holding [v] (eval o X.env)
      let iv ← holding [v, ov] (eval i X.env)
      standAt tpos
      holding [v, ov, iv] (setItem ov iv v)
      release [v, ov, iv] []) := by intro _; rfl)
    (hs : swapsWithSole [.Subscript o i tpos] e pos.line X.env = pure false := by rfl) (hw : swappedStores [.Subscript o i tpos] e X.env = pure none := by rfl) : DS X Γ B Wx RT (.Assign [.Subscript o i tpos] e pos) (sSetM m mo mi) :=
  ps_weak (ps_asg he (pg_sub ho hi set_list hsub) hs hw) fun D σ H ⟨w, ρ, z, S, q⟩ => ⟨w, ρ, z, S, q.to.mono fun v w1 z1 H1 _ _ ⟨S1, s1, q1⟩ vv rv =>
    ⟨w1, ρ, z1, S1, q1.to.mono fun ov w2 z2 H2 _ _ ⟨S2, s2, q2⟩ vo ro => ⟨w2, ρ, z2, S2, q2.to.mono fun iv w3 z3 H3 _ _ ⟨S3, s3, q3⟩ vi ri => by
      cases e : setM z3 ov iv v with
      | none => rw [e] at q3; exact q3.elim
      | some z4 =>
        rw [e] at q3
        unfold setM at e
        split at e
        · split at e
          · rename_i ds hz
            obtain ⟨j, hj, rfl⟩ := Option.map_eq_some_iff.mp e
            obtain ⟨p, xs, rfl, g1, g2, g3⟩ := (RepB.of (ro.step s3)).mobl S3 hz
            cases ri
            refine ⟨p, xs, _, j, rfl, rfl, g2, by rw [g3.length]; exact hj, ?_⟩
            obtain ⟨I4, s4⟩ := S3.wi.setMob hz g1 (g3.set j ((rv.step s2).step s3))
            exact q3 σ w3 _ (S3.carry I4 s4) (.refl _)
          · cases e
        · cases e⟩⟩⟩
end

/-! ### a law's end -/
theorem law_end {P : Program} {w : World} {K : PySem.W.Frag} {mg mb : Str → Option Value} {k : Nat} {fa a : Addr} {fd : FuncData} {x : Str} {sp : Sp} {s₁ : Shared} {vs : List Value} {ns : List Int}
    (KX : K.In s₁.heap) (hns : s₁.heap.Ns mainGlobals mg) (hb : s₁.heap.Ns builtinsNs mb) (hbb : ∀ x : Str, x ≠ "__name__" → mb x = bootBuiltins x) (hlim : s₁.heap.NoLimit) (hg : s₁.gens = #[])
    (ha : s₁.heap.get? a = some { cls := .type "list", data := .seq vs.toArray }) (hi : IntsAre vs ns) (hl : ns.length ≤ sizeLine) (hr : Room k callerA)
    (F : ∀ base : Heap, K.In base → base.Ns mainGlobals mg → FnG P w K mg base k fa fd [x] sp) (hbind : ∀ (s : Shared) (u : Value), BindsTo s fd ⟨[u], []⟩ [(x, u)])
    (hsp : ∀ H : Hp, SqS K H a (ns.map V.int) → (∀ b, H b ≠ none → ∃ o, H b = some (.frz o (.lst (ns.map V.int)))) → sp [.ref a] H (fun v _ => v = .bl true) fun _ _ _ => False) :
    codeAny (model P w) callerA (.call (.ref fa) ⟨[.ref a], []⟩) (fun r s' => r = .ok (.ret (.bool true)) ∧ OldK s₁.heap s'.heap ∧ s'.os = s₁.os ∧ AllBare s'.gens) s₁ := by
  have rv := vals_ints hi
  have lenV := hi.length
  -- one H for both: what is written is not tracked
  obtain ⟨H, hOnly, hS, hok, hK⟩ : ∃ H : Hp, (∀ b, H b ≠ none → b = a ∧ H b = some (.frz { cls := .type "list", data := .seq vs.toArray } (.lst (ns.map V.int)))) ∧ SqS K H a (ns.map V.int) ∧ HOk P w H s₁.heap ∧ (H a ≠ none → K.lookup a = none) := by
    cases hk : K.lookup a with
    | some o =>
      have e := KX a o hk
      rw [ha] at e
      cases e
      exact ⟨fun _ => none, fun b h => absurd rfl h, .inr ⟨_, _, hk, by rw [List.size_toArray, lenV]; exact hl, by simpa using rv⟩, fun b u z => (by cases (show (none : Option HO) = some u from z)), fun h => absurd rfl h⟩
    | none =>
      let ob : HO := .frz { cls := .type "list", data := .seq vs.toArray } (.lst (ns.map V.int))
      have at_a : (fun b => if b = a then some ob else none : Hp) a = some ob := if_pos rfl
      refine ⟨fun b => if b = a then some ob else none, fun b h => ?_, .inl (.inr ⟨_, at_a⟩), fun b u z => ?_, fun _ => rfl⟩
      · by_cases e : b = a
        · exact ⟨e, if_pos e⟩
        · exact absurd (if_neg e) h
      · by_cases e : b = a
        · subst e
          rw [at_a] at z
          cases z
          exact ⟨ha, by rw [List.length_map]; exact hl, vs, _, rv, ha⟩
        · have : (none : Option HO) = some u := (if_neg e).symm.trans z
          cases this
  have free : ∀ {b : Addr} {o : Obj}, s₁.heap.get? b = some o → H b = none → (hidT s₁.heap H).get? b = some o := fun e n => hidT_get e n
  have nsK : ∀ {b : Addr} {m : Str → Option Value}, s₁.heap.Ns b m → (hidT s₁.heap H).Ns b m := by
    rintro b m ⟨o, es, ep, e, d, r⟩
    refine ⟨o, es, ep, free e ?_, d, r⟩
    cases q : H b with
    | none => rfl
    | some u =>
      obtain ⟨rfl, _⟩ := hOnly b (by rw [q]; simp)
      rw [ha] at e
      cases e
      cases (show Data.seq vs.toArray _ = Data.dict es ep from d)
  have hKb : K.In (hidT s₁.heap H) := fun b o e => free (KX b o e) (by
    cases q : H b with
    | none => rfl
    | some u =>
      obtain ⟨rfl, _⟩ := hOnly b (by rw [q]; simp)
      rw [hK (by rw [q]; simp)] at e
      cases e)
  obtain ⟨mc, lim1, lim2⟩ := hlim
  have e0 : Env0 P w K mg (hidT s₁.heap H) callerA [] s₁ H :=
    ⟨rfl, ⟨hKb, nsK hns, ⟨mb, nsK hb, hbb⟩, ⟨mc, nsK lim1, lim2⟩⟩, fun b o e => of_hidT e, Nat.le_of_eq (hidT_size _ _), trivial, fun b hb => absurd (show b ∈ ([] : List Addr) from hb) (by simp), hok, .of_eq hg⟩
  have run := (F _ hKb (nsK hns)).run callerA [] s₁ H ⟨[.ref a], []⟩ [.ref a] [.ref a] _ _ hr rfl e0 (hbind s₁ (.ref a)) (.cons rfl .nil) (hsp H hS fun b h => ⟨_, (hOnly b h).2⟩)
  refine codeAny_mono run fun r s' h => ?_
  cases r with
  | error e =>
    obtain ⟨_, _, _, _, _, _, _, _, _, _, _, _, z⟩ := h
    exact z.elim
  | ok fl =>
    cases fl with
    | next => exact False.elim h
    | brk => exact False.elim h
    | cont => exact False.elim h
    | ret u =>
      obtain ⟨v, H', os, bare, un, hok', r', q⟩ := h
      cases (show v = .bl true from q)
      obtain rfl : u = Value.bool true := r'
      refine ⟨rfl, OldK.of_keep fun b o e => ?_, os, bare⟩
      cases q : H b with
      | none => exact un.keep b o e q (by intro z; exact absurd (show b ∈ ([] : List Addr) from z) (by simp)) (by simp)
      | some u =>
        obtain ⟨_, z⟩ := hOnly b (by rw [q]; simp)
        obtain ⟨e1, _⟩ := hok b _ z
        obtain ⟨e2, _⟩ := hok' b _ (un.frzs b _ _ z)
        rw [e] at e1
        cases e1
        exact e2
theorem walk_ofG {l : PySem.W.OpenLaw} {n k : Nat} {q : Program} {loose : List Str} {XP : (Str → Option Value) → Heap → Prop} {YP : World → Heap → Prop} {d : DefRec} {K : Params → PySem.W.Frag} {sp : World → Sp} {x : Str}
    (hn : l.most = some n) (hn2 : n ≤ sizeLine) (hdf : d.params.defaults = []) (hr : Room k callerA) (hY : ∀ (w : World) (h : Heap), YP w h → (K w.params).In h)
    (F : ∀ (w : World) (mg : Str → Option Value) (fa : Addr) (h : Heap), (K w.params).In h → h.Ns mainGlobals mg → mg d.name = some (.ref fa) →
      ∃ fd : FuncData, (∀ (s : Shared) (u : Value), BindsTo s fd ⟨[u], []⟩ [(x, u)]) ∧ ∀ base : Heap, (K w.params).In base → base.Ns mainGlobals mg → FnG l.prog w (K w.params) mg base k fa fd [x] (sp w))
    (hsp : ∀ (w : World) (H : Hp) (a : Addr) (ns : List Int), ns.length ≤ n → SqS (K w.params) H a (ns.map V.int) → (∀ b, H b ≠ none → ∃ o, H b = some (.frz o (.lst (ns.map V.int)))) → sp w [.ref a] H (fun v _ => v = .bl true) fun _ _ _ => False) :
    PySem.W.WalkO q loose XP YP l.row.toRowW d [] (fun f vs => PySem.call f vs) := by
  refine Att.attach_call hn hdf fun w s₀ s₁ mg mb fa o pm cd doc a vs ns G Y ho hd hcd hmg hobj hints hlen hg => ?_
  have KX := hY w _ Y
  obtain ⟨fd, hb, hF⟩ := F w mg fa _ KX G.T.g hmg
  exact law_end KX G.T.g G.T.b G.T.builtins G.T.nolimit hg hobj hints (Nat.le_trans hlen hn2) hr hF hb fun H h1 h2 => hsp w H a ns hlen h1 h2
/-- a law's promise: True, for every list of at most so many ints -/
theorem repL_ints {Γ : Gam} {w : W} : ∀ ns : List Int, RepL Γ w (ns.map D.int) (ns.map V.int)
  | [] => .nil
  | n :: ns => .cons (.int n) (repL_ints ns)
theorem law_sp {Γ : Gam} {F : FM} {H : Hp} {a : Addr} {ns : List Int} (htb : Γ.tb = []) (hF : ∃ z', F [.lst (ns.map .int)] [] = .ok (.bl true) z') (h1 : SqS Γ.K H a (ns.map V.int)) (h2 : ∀ b, H b ≠ none → ∃ o, H b = some (.frz o (.lst (ns.map V.int)))) : spD Γ 1 F [.ref a] H (fun v _ => v = .bl true) (fun _ _ _ => False) := by
  obtain ⟨z', hF⟩ := hF
  refine ⟨rfl, ⟨H, []⟩, [], [.lst (ns.map .int)], ⟨fun _ _ h => h, rfl, fun n mo h => (by simp at h), .nil, fun b o h => (by
    obtain ⟨o', e⟩ := h2 b (by rw [show H b = some o from h]; simp)
    rw [show H b = some o from h] at e
    cases e
    exact fun _ => nofun), (by rw [htb]; exact fun p hp => absurd hp (by simp))⟩, .cons (.lst h1 (repL_ints ns)) .nil, ?_⟩
  rw [hF]
  intro v w' H' _ _ r
  cases r
  rfl
end NW
set_option maxHeartbeats 400000
/-! Short words for the printed derivations. -/
namespace NW
open PySem PySem.Spec PyProof.Rows L2
section
variable {X : Cx} {Γ : Gam} {B : Bs} {Wx : WX} {RT : RTT} {k j : Nat} {a b e tg : Expr} {es : List Expr} {m ma mb : M D} {ml : M (List D)} {pos : Pos}
/-- is, is not of truths -/
def isBB (_ : Z) : D → D → Option Bool
  | .bl a, .bl b => some (decide (a = b))
  | _, _ => none
theorem ob_isB : OpB Γ B rIsB isBB := by
  intro w ρ z σ H d e k v u Q S rv ru h q
  unfold isBB at h
  split at h
  · cases h
    cases rv.bl; cases ru.bl
    exact ⟨_, _, rfl, rfl, q⟩
  · cases h
/-- a constant of the module -/
theorem d_globS {x c : Str} (hm : ∃ t, X.mg x = some (.str c t)) (hg : Gl X x := by rfl) (hd : (x == ("__debug__" : Str)) = false := by decide) : PE X (.Name x pos) (tD Γ B Wx (mRet (.str c))) :=
  let ⟨t, hm⟩ := hm
  d_glob (fun _ => .str c) hm ⟨t, rfl⟩ hg hd
theorem d_globI {x : Str} {c : Int} (hm : ∃ t, X.mg x = some (.int c t)) (hg : Gl X x := by rfl) (hd : (x == ("__debug__" : Str)) = false := by decide) : PE X (.Name x pos) (tD Γ B Wx (mRet (.int c))) :=
  let ⟨t, hm⟩ := hm
  d_glob (fun _ => .int c) hm ⟨t, rfl⟩ hg hd
end

/-- a def of the text, as it stands behind the top -/
structure Dn (K : PySem.W.Frag) (mg : Str → Option Value) (x qual : Str) (st : Stmt) (ps : List Str) where
  f : Addr
  fd : FuncData
  F : Fun K x qual st f fd
  m : mg x = some (.ref f)
  b : Binds K fd ps []
def dn_mk {K : PySem.W.Frag} {h : Heap} {mg : Str → Option Value} (X : K.In h) (G : h.Ns mainGlobals mg) {x qual : Str} {st : Stmt} {ps : List Str} {f : Addr} {oc kV doc pm cdv ct : Value} {od an : Option Addr} {osl : Array (Option Value)}
    (ha : PySem.W.nsIn K mainGlobals x = some (some (.ref f))) (l : K.lookup f = some ⟨oc, od, .func (PySem.W.fnOf x qual (defArgs st) (defBody st) (defScope st) .none kV doc pm an cdv ct), osl⟩) (c : PySem.W.codeIn K cdv qual = true) (kp : PySem.W.keepIn K (.ref f) = true)
    (hb : ∀ (kV doc pm : Value) (an : Option Addr) (cdv ct : Value) (us : List Value), us.length = ps.length → bindArgs (PySem.W.fnOf x qual (defArgs st) (defBody st) (defScope st) .none kV doc pm an cdv ct) ⟨us, []⟩ = pure (ps.zip us)) : Dn K mg x qual st ps :=
  ⟨f, _, fun_mk l c kp, PySem.W.mg_of X G ha, (fun_mk (st := st) l c kp).binds hb⟩
end NW
set_option maxHeartbeats 400000
/-! The mirrors reckoned: plain Lean. -/
namespace NW
open PySem PySem.Spec PyProof.Rows L2
section
variable {α β : Type} {ρ : En} {z : Z}
def ofO (o : Option α) (z : Z) : Res α := match o with
  | some a => .ok a z
  | none => .bad
@[simp] theorem ofO_some (a : α) : ofO (some a) z = .ok a z := rfl
@[simp] theorem ofO_none : ofO (none : Option α) z = .bad := rfl
@[simp] theorem rb_ok (a : α) (f : α → Z → Res β) : (Res.ok a z).bind f = f a z := rfl
@[simp] theorem rb_exc (x : XD) (f : α → Z → Res β) : (Res.exc x z : Res α).bind f = .exc x z := rfl
@[simp] theorem rb_bad (f : α → Z → Res β) : (Res.bad : Res α).bind f = .bad := rfl
@[simp] theorem ap_ret (a : α) : mRet a ρ z = .ok a z := rfl
@[simp] theorem ap_bind (m : M α) (f : α → M β) : mBind m f ρ z = (m ρ z).bind fun a z1 => f a ρ z1 := rfl
@[simp] theorem ap_opt (f : Z → Option α) : mOpt f ρ z = ofO (f z) z := by unfold mOpt ofO; cases f z <;> rfl
def varO (o : Option (Option DV)) (z : Z) : Res D := match o with
  | some (some (.sh d)) => .ok d z
  | _ => .bad
@[simp] theorem varO_sh (d : D) : varO (some (some (.sh d))) z = .ok d z := rfl
@[simp] theorem ap_var (i : Nat) : mVar i ρ z = varO ρ[i]? z := rfl
def ownO (o : Option (Option DV)) (z : Z) : Res D := match o with
  | some (some (.own (.lst ds))) => .ok (.lst ds) z
  | _ => .bad
@[simp] theorem ownO_own (ds : List D) : ownO (some (some (.own (.lst ds)))) z = .ok (.lst ds) z := rfl
@[simp] theorem ap_own (i : Nat) : mOwn i ρ z = ownO ρ[i]? z := rfl
@[simp] theorem ap_op2 (f : Z → D → D → Option α) (a b : M D) : mOp2 f a b ρ z = (a ρ z).bind fun x z1 => (b ρ z1).bind fun y z2 => ofO (f z2 x y) z2 := by simp [mOp2]
@[simp] theorem ap_op1 (f : Z → D → Option α) (a : M D) : mOp1 f a ρ z = (a ρ z).bind fun x z1 => ofO (f z1 x) z1 := by simp [mOp1]
@[simp] theorem ap_if (c : M Bool) (a b : M α) : mIf c a b ρ z = (c ρ z).bind fun k z1 => if k = true then a ρ z1 else b ρ z1 := by
  simp only [mIf, ap_bind, mif_app]
@[simp] theorem ap_not (c : M Bool) : mNot c ρ z = (c ρ z).bind fun k z1 => .ok (!k) z1 := rfl
@[simp] theorem ap_and (a b : M Bool) : mAnd a b ρ z = (a ρ z).bind fun k z1 => if k = true then b ρ z1 else .ok false z1 := by
  simp only [mAnd, ap_bind, mif_app]; rfl
@[simp] theorem ap_or (a b : M Bool) : mOr a b ρ z = (a ρ z).bind fun k z1 => if k = true then .ok true z1 else b ρ z1 := by
  simp only [mOr, ap_bind, mif_app]; rfl
@[simp] theorem ap_bl (a : M Bool) : mBl a ρ z = (a ρ z).bind fun k z1 => .ok (.bl k) z1 := rfl
@[simp] theorem ap_nil : (mNil : M (List α)) ρ z = .ok [] z := rfl
@[simp] theorem ap_cons (a : M α) (r : M (List α)) : mCons a r ρ z = (a ρ z).bind fun x z1 => (r ρ z1).bind fun xs z2 => .ok (x :: xs) z2 := rfl
@[simp] theorem ap_map (f : α → β) (a : M α) : mMap f a ρ z = (a ρ z).bind fun x z1 => .ok (f x) z1 := rfl
@[simp] theorem ap_fz (m : M (List D)) : mFz m ρ z = (m ρ z).bind fun x z1 => .ok (.lst x) z1 := rfl
@[simp] theorem ap_chain (f g : Z → D → D → Option Bool) (a b c : M D) : mChain f g a b c ρ z = (a ρ z).bind fun x z1 => (b ρ z1).bind fun y z2 => (ofO (f z2 x y) z2).bind fun k z3 => if k = true then (c ρ z3).bind fun y' z4 => ofO (g z4 y y') z4 else .ok false z3 := by
  simp only [mChain, ap_bind, ap_opt, mif_app, ap_ret]
@[simp] theorem ap_test (m : M D) : mTest m ρ z = (m ρ z).bind fun d z1 => ofO (toB d) z1 := by simp [mTest]
@[simp] theorem ap_andV (a b : M D) : mAndV a b ρ z = (a ρ z).bind fun d z1 => (ofO (toB d) z1).bind fun k z2 => if k = true then b ρ z2 else .ok (.bl false) z2 := by
  simp only [mAndV, ap_bind, ap_opt, mif_app, ap_ret]
@[simp] theorem ap_orV (a b : M D) : mOrV a b ρ z = (a ρ z).bind fun d z1 => (ofO (toB d) z1).bind fun k z2 => if k = true then .ok (.bl true) z2 else b ρ z2 := by
  simp only [mOrV, ap_bind, ap_opt, mif_app, ap_ret]
@[simp] theorem ap_notV (a : M D) : mNotV a ρ z = (a ρ z).bind fun d z1 => (ofO (toB d) z1).bind fun k z2 => .ok (.bl (!k)) z2 := by
  simp only [mNotV, ap_bind, ap_opt, ap_ret]
@[simp] theorem toB_bl (b : Bool) : toB (.bl b) = some b := rfl
@[simp] theorem toI_int (b : Int) : toI (.int b) = some b := rfl
@[simp] theorem ap_tup (ml : M (List D)) : mTup ml ρ z = (ml ρ z).bind fun ds z1 => ofO ((fit ds).map .tup) z1 := by simp [mTup]
@[simp] theorem ap_lst (ml : M (List D)) : mLst ml ρ z = (ml ρ z).bind fun ds z1 => ofO (fit ds) z1 := by simp [mLst]
@[simp] theorem ap_sl (f : Z → D → Option Int → Option Int → Option α) (m : M D) (lo hi : M (Option Int)) : mSl f m lo hi ρ z = (m ρ z).bind fun d z1 => (lo ρ z1).bind fun l z2 => (hi ρ z2).bind fun h z3 => ofO (f z3 d l h) z3 := by simp [mSl]
@[simp] theorem ap_call (f : Z → List D → Option α) (ml : M (List D)) : mCall f ml ρ z = (ml ρ z).bind fun ds z1 => ofO (f z1 ds) z1 := by simp [mCall]
@[simp] theorem ap_join (a m : M D) : mJoin a m ρ z = (a ρ z).bind fun d0 z0 => (ofO (isS z0 d0) z0).bind fun d z1 => (m ρ z1).bind fun d' z2 => ofO (joinD z2 d d') z2 := by
  simp only [mJoin, ap_bind, ap_op1, ap_opt]
  cases a ρ z <;> rfl
@[simp] theorem ap_items (m : M D) : mItems m ρ z = (m ρ z).bind fun d z1 => ofO (itemsD d) z1 := by simp [mItems]
@[simp] theorem ap_app (n : Nat) (F : FM) (ml : M (List D)) : mApp n F ml ρ z = (ml ρ z).bind fun ds z1 => if ds.length = n then F ds z1 else .bad := rfl
@[simp] theorem ap_appF (n : Nat) (F : FM) (ml : M (List D)) : mAppF n F ml ρ z = (ml ρ z).bind fun ds z1 => (if ds.length = n then F ds z1 else .bad).bind fun d z2 => ofO (itemsL d) z2 := by simp [mAppF]
@[simp] theorem ap_lc (it : M (List D)) (g : TgF) (mt : M Bool) (me : M D) (vs : List Nat) : mLc it g mt me vs ρ z = (it ρ z).bind fun ds z1 => lcGo g mt me (wipeE ρ vs) ds [] z1 := rfl
/-! statements -/
@[simp] theorem to_ok (a : α) (f : α → Z → SR) : (Res.ok a z).to ρ f = f a z := rfl
@[simp] theorem to_exc (x : XD) (f : α → Z → SR) : (Res.exc x z : Res α).to ρ f = .exc x ρ z := rfl
@[simp] theorem to_bad (f : α → Z → SR) : (Res.bad : Res α).to ρ f = .bad := rfl
@[simp] theorem th_nx (b : MS) : (SR.nx ρ z).then b = b ρ z := rfl
@[simp] theorem th_rt (d : D) (b : MS) : (SR.rt d z).then b = .rt d z := rfl
@[simp] theorem th_bk (b : MS) : (SR.bk ρ z).then b = .bk ρ z := rfl
@[simp] theorem th_ct (b : MS) : (SR.ct ρ z).then b = .ct ρ z := rfl
@[simp] theorem th_exc (x : XD) (b : MS) : (SR.exc x ρ z).then b = .exc x ρ z := rfl
@[simp] theorem th_bad (b : MS) : SR.bad.then b = .bad := rfl
@[simp] theorem ap_nx : sNx ρ z = .nx ρ z := rfl
@[simp] theorem ap_seq (a b : MS) : sSeq a b ρ z = (a ρ z).then b := rfl
@[simp] theorem ap_expr (m : M D) : sExpr m ρ z = (m ρ z).to ρ fun _ z1 => .nx ρ z1 := rfl
@[simp] theorem ap_sret (m : M D) : sRet m ρ z = (m ρ z).to ρ fun d z1 => .rt d z1 := rfl
@[simp] theorem ap_retF (m : M (List D)) : sRetF m ρ z = (m ρ z).to ρ fun d z1 => .rt (.lst d) z1 := rfl
@[simp] theorem ap_sif (c : M Bool) (a b : MS) : sIf c a b ρ z = (c ρ z).to ρ fun k z1 => if k = true then a ρ z1 else b ρ z1 := rfl
def nxO (o : Option En) (z : Z) : SR := match o with
  | some ρ' => .nx ρ' z
  | none => .bad
@[simp] theorem nxO_some : nxO (some ρ) z = .nx ρ z := rfl
@[simp] theorem ap_asg (g : TgF) (m : M D) : sAsg g m ρ z = (m ρ z).to ρ fun d z1 => nxO (g d ρ) z1 := rfl
@[simp] theorem ap_sown (i : Nat) (m : M (List D)) : sOwn i m ρ z = (m ρ z).to ρ fun ds z1 => nxO (setO i (.lst ds) ρ) z1 := rfl
@[simp] theorem ap_frz (i : Nat) (ms : MS) : sFrz i ms ρ z = (nxO (frz i ρ) z).then ms := by
  unfold sFrz nxO; cases frz i ρ <;> rfl
@[simp] theorem ap_mob (i : Nat) (m : M (List D)) : sMob i m ρ z = (m ρ z).to ρ fun ds z1 => nxO (setE i (.mob z1.length) ρ) (z1 ++ [.lst ds]) := rfl
def nxZ (o : Option Z) (ρ : En) : SR := match o with
  | some z => .nx ρ z
  | none => .bad
@[simp] theorem nxZ_some : nxZ (some z) ρ = .nx ρ z := rfl
@[simp] theorem ap_setM (mv mo mi : M D) : sSetM mv mo mi ρ z = (mv ρ z).to ρ fun v z1 => (mo ρ z1).to ρ fun o z2 => (mi ρ z2).to ρ fun i z3 => nxZ (setM z3 o i v) ρ := rfl
@[simp] theorem ap_for (it : M (List D)) (g : TgF) (body : MS) : sFor it g body ρ z = (it ρ z).to ρ fun ds z1 => forGo g body ds ρ z1 := rfl
@[simp] theorem endR_nx : endR (.nx ρ z) = .ok .non z := rfl
@[simp] theorem endR_rt (d : D) : endR (.rt d z) = .ok d z := rfl
@[simp] theorem endR_exc (x : XD) : endR (.exc x ρ z) = .exc x z := rfl
@[simp] theorem endRF_rt (d : D) : endRF (.rt d z) = .ok d z := rfl
@[simp] theorem setE_in (i : Nat) (d : D) (h : i < ρ.length) : setE i d ρ = some (ρ.set i (some (.sh d))) := if_pos h
@[simp] theorem setO_in (i : Nat) (o : OV) (h : i < ρ.length) : setO i o ρ = some (ρ.set i (some (.own o))) := if_pos h
@[simp] theorem fit_in (ds : List D) (h : ds.length ≤ sizeLine) : fit ds = some ds := if_pos h
@[simp] theorem itemsL_lst (ds : List D) : itemsL (.lst ds) = some ds := rfl
@[simp] theorem itemsD_lst (ds : List D) : itemsD (.lst ds) = some ds := rfl
@[simp] theorem itemsD_tup (ds : List D) : itemsD (.tup ds) = some ds := rfl
@[simp] theorem itemsD_str (x : Str) : itemsD (.str x) = some (x.cps.toList.map sgn) := rfl
@[simp] theorem isS_str (x : Str) : isS z (.str x) = some (.str x) := rfl
@[simp] theorem add_int (a b : Int) : addD z (.int a) (.int b) = some (.int (a + b)) := rfl
@[simp] theorem i2_int (f : Int → Int → Option D) (a b : Int) : int2 f z (.int a) (.int b) = f a b := rfl
@[simp] theorem cI_int (p : Int → Int → Bool) (a b : Int) : cmpI p z (.int a) (.int b) = some (p a b) := rfl
@[simp] theorem eq_int' (a b : Int) : eqD z (.int a) (.int b) = some (decide (a = b)) := rfl
@[simp] theorem eq_str' (a b : Str) : eqD z (.str a) (.str b) = some (decide (a = b)) := rfl
@[simp] theorem eq_bl' (a b : Bool) : eqD z (.bl a) (.bl b) = some (decide (a = b)) := rfl
@[simp] theorem is_bl (a b : Bool) : isBB z (.bl a) (.bl b) = some (decide (a = b)) := rfl
@[simp] theorem len_lst (ds : List D) : lenD z [.lst ds] = some (.int ds.length) := rfl
@[simp] theorem len_tup (ds : List D) : lenD z [.tup ds] = some (.int ds.length) := rfl
@[simp] theorem len_strD (x : Str) (h : x.length ≤ sizeLine) : lenD z [.str x] = some (.int x.length) := if_pos h
@[simp] theorem int_int (a : Int) : intD z [.int a] = some (.int a) := rfl
@[simp] theorem list_lst (ds : List D) : listD z [.lst ds] = some ds := rfl
@[simp] theorem list_tup (ds : List D) : listD z [.tup ds] = some ds := rfl
@[simp] theorem ix_lst (ds : List D) (i : Int) : ixD z (.lst ds) (.int i) = atI ds i := rfl
@[simp] theorem ix_tupD (ds : List D) (i : Int) : ixD z (.tup ds) (.int i) = atI ds i := rfl
@[simp] theorem tru_bl (b : Bool) : truD z (.bl b) = some b := rfl
@[simp] theorem sl_lst (ds : List D) (l h : Option Int) : slL z (.lst ds) l h = some (cutL ds l h) := rfl
@[simp] theorem sl_tupD (ds : List D) (l h : Option Int) : slD z (.tup ds) l h = some (.tup (cutL ds l h)) := rfl
@[simp] theorem sl_strD (x : Str) (l h : Option Int) (hx : x.length ≤ sizeLine) : slD z (.str x) l h = some (.str (cutS x l h)) := if_pos hx
end
theorem subI_eq (a b : Int) : subI a b = some (.int (a - b)) := rfl
theorem mulI_l {a b : Int} (h : -(2 ^ 64) < a ∧ a < 2 ^ 64) : mulI a b = some (.int (a * b)) := if_pos (.inl h)
theorem mulI_r {a b : Int} (h : -(2 ^ 64) < b ∧ b < 2 ^ 64) : mulI a b = some (.int (a * b)) := if_pos (.inr h)
theorem modI_p {a b : Int} (h : 0 < b) : modI a b = some (.int (a % b)) := if_pos h
theorem divI_p {a b : Int} (h : 0 < b) (h2 : b < 1073741824) : divI a b = some (.int (a / b)) := if_pos ⟨h, h2⟩
theorem powI_p {a b : Int} (h : 0 ≤ b) (h2 : b ≤ 1000000) (h3 : a.natAbs < 2 ^ 64) : powI a b = some (.int (a ^ b.toNat)) := if_pos ⟨h, h2, h3⟩
theorem atI_ofNat {α : Type} (xs : List α) (n : Nat) (h : n < xs.length) : atI xs (n : Int) = some xs[n] := atI_nat (List.getElem?_eq_getElem h)
theorem atI_nn {α : Type} (xs : List α) (i : Int) (h : 0 ≤ i) (h2 : i < xs.length) : atI xs i = xs[i.toNat]? := by
  obtain ⟨n, rfl⟩ := Int.eq_ofNat_of_zero_le h
  rw [atI_ofNat xs n (by omega)]
  simp
/-- the source of draws -/
def SrcOk (mo : MO) : Prop := ∃ (cells : List Int) (a b c d : Int), mo = .lst [.lst (cells.map .int), .int a, .int b, .int c, .int d] ∧ 0 ≤ a
end NW
set_option maxHeartbeats 400000
/-! Loops of the mirrors, by what holds. -/
namespace NW
open PySem PySem.Spec PyProof.Rows L2
/-- a comprehension that draws: P of the store, E of each item -/
theorem lcGo_inv {P : Z → Prop} {E : D → Prop} {g : TgF} {mt : M Bool} {me : M D} {ρ : En} : ∀ (ds acc : List D) (z : Z), P z → (∀ y ∈ acc, E y) → acc.length + ds.length ≤ sizeLine →
    (∀ d ∈ ds, ∀ z, P z → ∃ ρ1, g d ρ = some ρ1 ∧ ∃ b z1, mt ρ1 z = .ok b z1 ∧ P z1 ∧ (b = true → ∃ y z2, me ρ1 z1 = .ok y z2 ∧ P z2 ∧ E y)) →
    ∃ ys z', lcGo g mt me ρ ds acc z = .ok ys z' ∧ P z' ∧ (∀ y ∈ ys, E y) ∧ ys.length ≤ acc.length + ds.length
  | [], acc, z, hp, ha, _, _ => ⟨acc, z, rfl, hp, ha, by simp⟩
  | d :: ds, acc, z, hp, ha, hl, h => by
    obtain ⟨ρ1, e1, b, z1, e2, hp1, h2⟩ := h d (by simp) z hp
    simp only [List.length_cons] at hl
    unfold lcGo
    rw [e1]
    dsimp only
    rw [e2]
    cases b with
    | false =>
      obtain ⟨ys, z', r1, r2, r3, r4⟩ := lcGo_inv ds acc z1 hp1 ha (by omega) fun d hd => h d (by simp [hd])
      exact ⟨ys, z', r1, r2, r3, by simp only [List.length_cons]; omega⟩
    | true =>
      obtain ⟨y, z2, e3, hp2, hy⟩ := h2 rfl
      dsimp only
      rw [e3]
      dsimp only
      rw [if_pos (by omega)]
      obtain ⟨ys, z', r1, r2, r3, r4⟩ := lcGo_inv ds (acc ++ [y]) z2 hp2 (fun x hx => by
        rcases List.mem_append.mp hx with hx | hx
        · exact ha x hx
        · simp at hx; subst hx; exact hy) (by simp; omega) fun d hd => h d (by simp [hd])
      exact ⟨ys, z', r1, r2, r3, by simp at r4 ⊢; omega⟩
/-- .. every item once -/
theorem lcGo_all {P : Z → Prop} {E : D → Prop} {g : TgF} {me : M D} {ρ : En} : ∀ (ds acc : List D) (z : Z), P z → (∀ y ∈ acc, E y) → acc.length + ds.length ≤ sizeLine →
    (∀ d ∈ ds, ∀ z, P z → ∃ ρ1, g d ρ = some ρ1 ∧ ∃ y z2, me ρ1 z = .ok y z2 ∧ P z2 ∧ E y) →
    ∃ ys z', lcGo g (mRet true) me ρ ds acc z = .ok ys z' ∧ P z' ∧ (∀ y ∈ ys, E y) ∧ ys.length = acc.length + ds.length
  | [], acc, z, hp, ha, _, _ => ⟨acc, z, rfl, hp, ha, by simp⟩
  | d :: ds, acc, z, hp, ha, hl, h => by
    obtain ⟨ρ1, e1, y, z2, e3, hp2, hy⟩ := h d (by simp) z hp
    simp only [List.length_cons] at hl
    unfold lcGo
    rw [e1]
    dsimp only [mRet]
    rw [e3]
    dsimp only
    rw [if_pos (by omega)]
    obtain ⟨ys, z', r1, r2, r3, r4⟩ := lcGo_all ds (acc ++ [y]) z2 hp2 (fun x hx => by
      rcases List.mem_append.mp hx with hx | hx
      · exact ha x hx
      · simp at hx; subst hx; exact hy) (by simp; omega) fun d hd => h d (by simp [hd])
    exact ⟨ys, z', r1, r2, r3, by simp at r4 ⊢; omega⟩
/-- one that draws nothing -/
theorem lcGo_map {g : TgF} {me : M D} {ρ : En} (f : D → D) : ∀ (ds acc : List D) (z : Z), acc.length + ds.length ≤ sizeLine →
    (∀ d ∈ ds, ∃ ρ1, g d ρ = some ρ1 ∧ me ρ1 z = .ok (f d) z) → lcGo g (mRet true) me ρ ds acc z = .ok (acc ++ ds.map f) z
  | [], acc, z, _, _ => by simp [lcGo]
  | d :: ds, acc, z, hl, h => by
    obtain ⟨ρ1, e1, e3⟩ := h d (by simp)
    simp only [List.length_cons] at hl
    unfold lcGo
    rw [e1]
    dsimp only [mRet]
    rw [e3]
    dsimp only
    rw [if_pos (by omega)]
    have := lcGo_map f ds (acc ++ [f d]) z (by simp; omega) fun d hd => h d (by simp [hd])
    rw [this]
    simp
/-- a for that keeps on -/
theorem forGo_inv {I : En → Z → Prop} {g : TgF} {body : MS} : ∀ (ds : List D) (ρ : En) (z : Z), I ρ z → (∀ d ∈ ds, ∀ ρ z, I ρ z → ∃ ρ1, g d ρ = some ρ1 ∧ ∃ ρ2 z2, body ρ1 z = .nx ρ2 z2 ∧ I ρ2 z2) → ∃ ρ' z', forGo g body ds ρ z = .nx ρ' z' ∧ I ρ' z'
  | [], ρ, z, h, _ => ⟨ρ, z, rfl, h⟩
  | d :: ds, ρ, z, h, k => by
    obtain ⟨ρ1, e1, ρ2, z2, e2, h2⟩ := k d (by simp) ρ z h
    obtain ⟨ρ', z', e3, h3⟩ := forGo_inv ds ρ2 z2 h2 fun d hd => k d (by simp [hd])
    refine ⟨ρ', z', ?_, h3⟩
    unfold forGo
    rw [e1]
    dsimp only
    rw [e2]
    exact e3
/-- by the turn -/
theorem forGo_ix {I : Nat → En → Z → Prop} {g : TgF} {body : MS} (all : List D) : ∀ (ds : List D) (n : Nat) (ρ : En) (z : Z), n + ds.length = all.length → all.drop n = ds → I n ρ z →
    (∀ i d, all[i]? = some d → ∀ ρ z, I i ρ z → ∃ ρ1, g d ρ = some ρ1 ∧ ∃ ρ2 z2, body ρ1 z = .nx ρ2 z2 ∧ I (i + 1) ρ2 z2) → ∃ ρ' z', forGo g body ds ρ z = .nx ρ' z' ∧ I all.length ρ' z'
  | [], n, ρ, z, hl, _, h, _ => ⟨ρ, z, rfl, by simp at hl; subst hl; exact h⟩
  | d :: ds, n, ρ, z, hl, hd, h, k => by
    have e0 : all[n]? = some d := by
      have := congrArg (fun l => l[0]?) hd
      simpa [List.getElem?_drop] using this
    obtain ⟨ρ1, e1, ρ2, z2, e2, h2⟩ := k n d e0 ρ z h
    obtain ⟨ρ', z', e3, h3⟩ := forGo_ix all ds (n + 1) ρ2 z2 (by simp at hl; omega) (by rw [← List.drop_drop, hd]; rfl) h2 k
    refine ⟨ρ', z', ?_, h3⟩
    unfold forGo
    rw [e1]
    dsimp only
    rw [e2]
    exact e3
theorem len_rng (lo : Int) (n : Nat) : (rngD lo n).length = n := by simp [rngD]
theorem len_cps (x : Str) : x.length = x.cps.toList.length := by simp [Str.length]
theorem cps_ext {x y : Str} (h : x.cps = y.cps) : x = y := by cases x; cases y; simp_all
theorem strsOf_of {E : Str → Prop} : ∀ {ys : List D}, (∀ y ∈ ys, ∃ x, y = .str x ∧ E x) → ∃ xs, strsOf ys = some xs ∧ xs.length = ys.length ∧ ∀ x ∈ xs, E x
  | [], _ => ⟨[], rfl, rfl, by simp⟩
  | y :: ys, h => by
    obtain ⟨x, rfl, hx⟩ := h y (by simp)
    obtain ⟨xs, e, l, k⟩ := strsOf_of (ys := ys) fun y hy => h y (by simp [hy])
    exact ⟨x :: xs, by simp [strsOf, e], by simp [l], by simpa [hx] using k⟩
theorem blsOf_map {α : Type} (f : α → Bool) : ∀ l : List α, blsOf (l.map fun a => .bl (f a)) = some (l.map f)
  | [] => rfl
  | a :: l => by simp [blsOf, blsOf_map f l]
theorem reprD_bl (z : Z) (b : Bool) : reprD z [.bl b] = some (.str (PyData.shown (.bool b))) := by
  unfold reprD
  cases b <;> (simp [toPy, PyData.showable, PyData.hasDict, PyData.depth, PyData.shown]; decide)
end NW
set_option maxHeartbeats 400000
/-! Instances of own classes: fields, methods, C(..), len(o). -/
namespace NW
open PySem PySem.Spec PyProof.Rows L2

/-! ### fields -/
def putD (f : Str) (d : D) : List (Str × D) → List (Str × D)
  | [] => [(f, d)]
  | (g, x) :: r => if g = f then (g, d) :: r else (g, x) :: putD f d r
section
variable {Γ : Gam} {w : W}
theorem put_rep {f : Str} {d : D} {v : V} (rv : Rep Γ w d v) : ∀ {fs : List (Str × D)} {fvs : List (Str × V)}, fvs.map (·.1) = fs.map (·.1) → RepL Γ w (fs.map (·.2)) (fvs.map (·.2)) →
    (putF f v fvs).map (·.1) = (putD f d fs).map (·.1) ∧ RepL Γ w ((putD f d fs).map (·.2)) ((putF f v fvs).map (·.2))
  | [], [], _, _ => ⟨rfl, .cons rv .nil⟩
  | [], _ :: _, h, _ => by cases h
  | _ :: _, [], h, _ => by cases h
  | (g, x) :: fs, (g', y) :: fvs, h, r => by
    simp only [List.map_cons, List.cons.injEq] at h
    obtain ⟨e, h⟩ := h
    subst e
    simp only [List.map_cons] at r
    cases r with
    | cons r1 r2 =>
      unfold putF putD
      by_cases q : g' = f
      · rw [if_pos q, if_pos q]
        exact ⟨by simp only [List.map_cons, h], .cons rv r2⟩
      · rw [if_neg q, if_neg q]
        obtain ⟨a, b⟩ := put_rep rv h r2
        exact ⟨by simp only [List.map_cons, a], .cons r1 b⟩
theorem look_rep {f : Str} : ∀ {fs : List (Str × D)} {fvs : List (Str × V)} {d : D}, fvs.map (·.1) = fs.map (·.1) → RepL Γ w (fs.map (·.2)) (fvs.map (·.2)) → fs.lookup f = some d → ∃ v, fvs.lookup f = some v ∧ Rep Γ w d v
  | [], _, _, _, _, e => by cases e
  | _ :: _, [], _, h, _, _ => by cases h
  | (g, x) :: fs, (g', y) :: fvs, d, h, r, e => by
    simp only [List.map_cons, List.cons.injEq] at h
    obtain ⟨e', h⟩ := h
    subst e'
    simp only [List.map_cons] at r
    cases r with
    | cons r1 r2 =>
      rw [List.lookup_cons] at e ⊢
      cases q : (f == g') with
      | true =>
        rw [q] at e
        cases e
        exact ⟨y, rfl, r1⟩
      | false =>
        rw [q] at e
        exact look_rep h r2 e
theorem look_none {f : Str} : ∀ {fs : List (Str × D)} {fvs : List (Str × V)}, fvs.map (·.1) = fs.map (·.1) → fs.lookup f = none → fvs.lookup f = none
  | [], [], _, _ => rfl
  | [], _ :: _, h, _ => by cases h
  | _ :: _, [], h, _ => by cases h
  | (g, x) :: fs, (g', y) :: fvs, h, e => by
    simp only [List.map_cons, List.cons.injEq] at h
    obtain ⟨e', h⟩ := h
    subst e'
    rw [List.lookup_cons] at e ⊢
    cases q : (f == g') with
    | true => rw [q] at e; cases e
    | false =>
      rw [q] at e
      exact look_none h e
theorem fst_zip {α β : Type} : ∀ {xs : List α} {ys : List β}, xs.length = ys.length → (xs.zip ys).map (·.1) = xs
  | [], [], _ => rfl
  | [], _ :: _, h => by cases h
  | _ :: _, [], h => by cases h
  | x :: xs, y :: ys, h => by
    simp only [List.zip_cons_cons, List.map_cons, List.cons.injEq, true_and]
    exact fst_zip (by simpa using h)
theorem snd_zip {α β : Type} : ∀ {xs : List α} {ys : List β}, xs.length = ys.length → (xs.zip ys).map (·.2) = ys
  | [], [], _ => rfl
  | [], _ :: _, h => by cases h
  | _ :: _, [], h => by cases h
  | x :: xs, y :: ys, h => by
    simp only [List.zip_cons_cons, List.map_cons, List.cons.injEq, true_and]
    exact snd_zip (by simpa using h)
end
/-- the instance that a value is: its class, its fields -/
def insOf (z : Z) : D → Option (Nat × List (Str × D))
  | .obj c ns ds => some (c, ns.zip ds)
  | .mob n => match z[n]? with
    | some (.ins c fs) => some (c, fs)
    | _ => none
  | _ => none
section
variable {Γ : Gam} {B : Bs} {w : W} {ρ : En} {z : Z} {σ : Sl} {H : Hp}
theorem Rep.insAt {d : D} {v : V} {c : Nat} {fs : List (Str × D)} (r : Rep Γ w d v) (I : WI Γ w z H) (h : insOf z d = some (c, fs)) :
    ∃ a dx fvs, v = .ref a ∧ H a = some (.ins (Γ.cls c) dx fvs) ∧ fvs.map (·.1) = fs.map (·.1) ∧ RepL Γ w (fs.map (·.2)) (fvs.map (·.2)) := by
  unfold insOf at h
  split at h
  · cases h
    cases r with
    | obj h1 h2 h3 =>
      rename_i ns ds a dx fvs
      have hl : ns.length = ds.length := by rw [← h2, List.length_map, ← h3.length, List.length_map]
      exact ⟨a, dx, fvs, rfl, I.le _ _ h1, by rw [fst_zip hl]; exact h2, by rw [snd_zip hl]; exact h3⟩
  · split at h
    · rename_i hz
      cases h
      cases r with
      | mob h1 =>
        obtain ⟨a, g1, g2, dx, fvs, g3, g4, g5⟩ := I.st _ _ hz
        rw [h1] at g1
        cases g1
        exact ⟨_, dx, fvs, rfl, g3, g4, g5⟩
    · cases h
  · cases h
end
/-- o.f -/
def fldD (c : Nat) (f : Str) (z : Z) (o : D) : Option D := (insOf z o).bind fun p => if p.1 = c then p.2.lookup f else none
section
variable {X : Cx} {Γ : Gam} {B : Bs} {Wx : WX} {RT : RTT} {k j : Nat} {a b e o : Expr} {es : List Expr} {m ma mb mo mv : M D} {ml : M (List D)} {pos : Pos} {f : Str}
theorem d_fld (c : Nat) (hK : X.K = Γ.K) (hc : Cls Γ.K (Γ.cls c)) (hn : NoAttr Γ.K (Γ.cls c) f) (he : PE X e (tD Γ B Wx m)) (hb : attributeBase e f X.env (eval e X.env) = eval e X.env := by rfl) : PE X (.Attribute e f pos) (tD Γ B Wx (mOp1 (fldD c f) m)) :=
  pe_weak (pe_fld he hb) fun σ H Q ⟨w, ρ, z, S, q⟩ => ⟨w, ρ, z, S, q.bind.mono fun d w1 z1 H1 _ _ ⟨S1, s1, q1⟩ v rv => by
    obtain ⟨d', hd, q2⟩ := q1.opt
    unfold fldD at hd
    obtain ⟨⟨c', fs⟩, h1, h2⟩ := Option.bind_eq_some_iff.mp hd
    obtain ⟨rfl, h3⟩ : c' = c ∧ fs.lookup f = some d' := by
      dsimp only at h2
      split at h2
      · exact ⟨by assumption, h2⟩
      · cases h2
    obtain ⟨a, dx, fvs, rfl, g1, g2, g3⟩ := rv.insAt S1.wi h1
    obtain ⟨u, g4, g5⟩ := look_rep g2 g3 h3
    exact ⟨a, _, dx, fvs, u, rfl, g1, by rw [hK]; exact hc, by rw [hK]; exact hn, g4, q2.ok S1 u g5⟩⟩
/-- a mutable thing is another from here on -/
theorem WI.setMo {w : W} {z : Z} {H : Hp} (I : WI Γ w z H) {n : Nat} {p : Addr} {mo mo' : MO} {ob : HO} (hz : z[n]? = some mo) (hp : w.pl[n]? = some p) (r : ObRep Γ w (upd H p ob) p mo') : WI Γ w (z.set n mo') (upd H p ob) ∧ Step w H w (upd H p ob) := by
  have hpm : p ∈ w.pl := List.mem_of_getElem? hp
  obtain ⟨u, hu, hR⟩ := I.th hpm
  have hnz : n < z.length := (List.getElem?_eq_some_iff.mp hz).1
  obtain ⟨p', q1, _, q2⟩ := I.st n _ hz
  cases hp.symm.trans q1
  have q3 : (∃ xs, H p = some (.lst xs)) ∨ ∃ C dx fs, H p = some (.ins C dx fs) := by
    cases mo with
    | lst ds => obtain ⟨xs, q2, _⟩ := q2; exact .inl ⟨_, q2⟩
    | ins c fs => obtain ⟨dx, fvs, q2, _⟩ := q2; exact .inr ⟨_, _, _, q2⟩
  refine ⟨⟨fun a o h => ?_, by rw [List.length_set]; exact I.len, fun l mo h => ?_, I.nd, I.nt, Tabs.mutL I.tb q3⟩, ⟨fun _ _ h => h, fun _ _ h => h, fun a o h _ k => ?_, fun _ _ _ h => h, fun _ h => .inl h, fun a o h => ?_⟩⟩
  · rw [upd_ne (ne_of_none h hR)]; exact I.le a o h
  · by_cases e : n = l
    · subst e
      rw [List.getElem?_set_self hnz] at h
      cases h
      exact ⟨p, hp, hR, r⟩
    · rw [List.getElem?_set_ne e] at h
      obtain ⟨c, g1, g2, g3⟩ := I.st l mo h
      have ne : c ≠ p := fun q => by
        subst q
        obtain ⟨l1, e1⟩ := List.getElem?_eq_some_iff.mp hp
        obtain ⟨l2, e2⟩ := List.getElem?_eq_some_iff.mp g1
        exact e ((List.getElem_inj I.nd).mp (e1.trans e2.symm))
      exact ⟨c, g1, g2, g3.keep (fun _ _ h => h) (fun _ _ h => h) fun o ho => by rw [upd_ne ne]; exact ho⟩
  · rw [upd_ne (fun q : a = p => k (by rw [q]; exact hpm))]; exact h
  · by_cases e : a = p
    · subst e; exact ⟨_, upd_same⟩
    · exact ⟨o, by rw [upd_ne e]; exact h⟩
/-- o.f = e, o an instance of the store -/
def setF (c : Nat) (f : Str) (z : Z) (o v : D) : Option Z := match o with
  | .mob n => match z[n]? with
    | some (.ins c' fs) => if c' = c ∧ fs.length < 1000 then some (z.set n (.ins c (putD f v fs))) else none
    | _ => none
  | _ => none
def sSetF (c : Nat) (f : Str) (mv mo : M D) : MS := fun ρ z => (mv ρ z).to ρ fun v z1 => (mo ρ z1).to ρ fun o z2 => match setF c f z2 o v with
  | some z3 => .nx ρ z3
  | none => .bad
theorem s_setF (c : Nat) {pos' : Pos} (hK : X.K = Γ.K) (hc : Cls Γ.K (Γ.cls c)) (hn : NoAttr Γ.K (Γ.cls c) f) (he : PE X e (tD Γ B Wx mv)) (ho : PE X o (tD Γ B Wx mo)) (hs : swapsWith e (some (.Attribute o f pos')) pos.line X.env = pure false := by rfl) :
    DS X Γ B Wx RT (.Assign [.Attribute o f pos'] e pos) (sSetF c f mv mo) := ps_weak (ps_fld ho he hs) fun D σ H ⟨w, ρ, z, S, q⟩ =>
  ⟨w, ρ, z, S, q.to.mono fun dv w1 z1 H1 _ _ ⟨S1, s1, q1⟩ v rv => ⟨w1, ρ, z1, S1, q1.to.mono fun od w2 z2 H2 _ _ ⟨S2, s2, q2⟩ u ru => by
    cases e : setF c f z2 od dv with
    | none => rw [e] at q2; exact q2.elim
    | some z3 =>
      rw [e] at q2
      unfold setF at e
      split at e
      · rename_i n
        split at e
        · rename_i c' fs hz
          split at e
          · rename_i hc'
            obtain ⟨rfl, hl⟩ := hc'
            cases e
            cases ru with
            | mob hp =>
              rename_i a
              obtain ⟨a', g1, g2, dx, fvs, g3, g4, g5⟩ := S2.wi.st _ _ hz
              rw [hp] at g1
              cases g1
              have hlen : fvs.length = fs.length := by have := congrArg List.length g4; simpa using this
              refine ⟨a, _, dx, fvs, rfl, g3, by rw [hK]; exact hc, by rw [hK]; exact hn, by omega, ?_⟩
              obtain ⟨k1, k2⟩ := put_rep (f := f) (rv.step s2) g4 g5
              obtain ⟨I3, s3⟩ := S2.wi.setMo (mo' := .ins c' (putD f dv fs)) hz hp ⟨dx, _, upd_same, k1, k2⟩
              exact q2 σ w2 _ (S2.carry I3 s3) (.refl _)
          · cases e
        · cases e
      · cases e⟩⟩

/-! ### methods -/
def methD (c : Nat) (m : Str) (z : Z) (o : D) : Option D := (insOf z o).bind fun p => if p.1 = c ∧ p.2.lookup m = none then some o else none
def mMeth (c : Nat) (m : Str) (n : Nat) (F : FM) (mo : M D) (ml : M (List D)) : M D := mBind (mOp1 (methD c m) mo) fun o => mBind ml fun ds _ z => if (o :: ds).length = n then F (o :: ds) z else .bad
def mMethF (c : Nat) (m : Str) (n : Nat) (F : FM) (mo : M D) (ml : M (List D)) : M (List D) := mBind (mOp1 (methD c m) mo) fun o => mBind ml fun ds ρ z => (if (o :: ds).length = n then F (o :: ds) z else .bad).bind fun d z1 => mOpt (fun _ => itemsL d) ρ z1
theorem methD_at {c : Nat} {m : Str} {z : Z} {o o' : D} (h : methD c m z o = some o') : o' = o ∧ ∃ fs, insOf z o = some (c, fs) ∧ fs.lookup m = none := by
  unfold methD at h
  obtain ⟨⟨c', fs⟩, h1, h2⟩ := Option.bind_eq_some_iff.mp h
  dsimp only at h2
  split at h2
  · rename_i hh
    obtain ⟨rfl, hn⟩ := hh
    cases h2
    exact ⟨rfl, fs, h1, hn⟩
  · cases h2
variable {fa : Addr} {fd : FuncData} {ps : List Str} {F : FM} {mn : Str} {apos : Pos}
/-- tMeth at the caller's slots -/
def tMethS (Wx : WX) (C : Addr) (m : Str) (sp : Sp) (ta : TE) (t : TA) : TE := fun σ H Q => ta σ H fun x H1 => ∃ a dx fs, x = .ref a ∧ H1 a = some (.ins C dx fs) ∧ fs.lookup m = none ∧ t σ H1 fun vs H2 => sp (x :: vs) H2 Q (fun cls dd H' => Wx cls dd σ H')
theorem pe_methG {pl : Sem Bool} {sp : Sp} {C : Addr} {ta : TE} {t : TA} (V : Dv Γ X Wx j) (he : PE X o ta) (c : Cls X.K C) (hm : Meth X.K C mn fa) (G : FnG X.prog X.w X.K X.mg X.base k fa fd ps sp) (hb : Binds X.K fd ps []) (hj : k ≤ j) (ha : PA X (e :: es) t)
    (hst : starEach (e :: es) X.env = (false, eval e X.env) :: starEach es X.env) (hpl : (backTo pos (starEach es X.env)).any (·.1) = false)
    (ht : eval (.Call (.Attribute o mn apos) (e :: es) [] pos) X.env = (do
      let ov ← eval o X.env
      standAt apos.atName
      let (f, first) ← holding [ov] (getMethod ov mn pl)
      callWith pos f first (backTo pos (starEach (e :: es) X.env)) (backToKw pos (keywordEach [] X.env)))) :
    PE X (.Call (.Attribute o mn apos) (e :: es) [] pos) (tMethS Wx C mn sp ta t) := by
  refine ⟨fun pins s σ H Q I h => ?_⟩
  refine PySem.W.methodCall_KW (pl := pl) (thn (he.run pins s σ H _ I h) fun u s1 ⟨x, H1, I1, rx, a, dx, fs, ex, ea, l, q⟩ => ?_) ht
  subst ex
  obtain rfl : u = Value.ref a := rx
  refine getmeth_ok I1 ea c hm l ?_
  refine PySem.W.callWith_K (first := [.ref a]) (h₀ := X.base) I.ok.mod.kin hm.kp (thn (ha.run pos pins s1 σ H1 _ I1 q) fun us s2 ⟨vs, H2, I2, r, q2⟩ => ⟨I2.kIn, ?_⟩) hst hpl
  refine run_fnG (us := .ref a :: us) (vs := .ref a :: vs) (dvs := []) G (V.room.mono hj) V.grd hb .nil (passAt V.tk σ) I2 (.cons rfl r) ?_
  rw [List.append_nil]
  exact q2
theorem pe_methG0 {pl : Sem Bool} {sp : Sp} {C : Addr} {ta : TE} (V : Dv Γ X Wx j) (he : PE X o ta) (c : Cls X.K C) (hm : Meth X.K C mn fa) (G : FnG X.prog X.w X.K X.mg X.base k fa fd ps sp) (hb : Binds X.K fd ps []) (hj : k ≤ j)
    (ht : eval (.Call (.Attribute o mn apos) [] [] pos) X.env = (do
      let ov ← eval o X.env
      standAt apos.atName
      let (f, first) ← holding [ov] (getMethod ov mn pl)
      callWith pos f first (backTo pos (starEach [] X.env)) (backToKw pos (keywordEach [] X.env)))) :
    PE X (.Call (.Attribute o mn apos) [] [] pos) (tMethS Wx C mn sp ta tNil) := by
  refine ⟨fun pins s σ H Q I h => ?_⟩
  refine PySem.W.methodCall_KW (pl := pl) (thn (he.run pins s σ H _ I h) fun u s1 ⟨x, H1, I1, rx, a, dx, fs, ex, ea, l, q⟩ => ?_) ht
  subst ex
  obtain rfl : u = Value.ref a := rx
  refine getmeth_ok I1 ea c hm l ?_
  refine PySem.W.callWith_K0 (first := [.ref a]) I1.kIn hm.kp ?_
  exact run_fnG (us := [.ref a]) (vs := [.ref a]) (dvs := []) G (V.room.mono hj) V.grd hb .nil (passAt V.tk σ) I1 (.cons rfl .nil) q
theorem methTo {c n : Nat} {t : TA} (ht : ∀ σ H Q, tDA Γ B Wx ml σ H Q → t σ H Q) : ∀ σ H Q, tD Γ B Wx (mMeth c mn n F mo ml) σ H Q → tMethS Wx (Γ.cls c) mn (spD Γ n F) (tD Γ B Wx mo) t σ H Q := fun σ H Q ⟨w, ρ, z, S, q⟩ =>
  ⟨w, ρ, z, S, q.bind.bind.mono fun o w1 z1 H1 _ _ ⟨S1, s1, q1⟩ u ru => by
    obtain ⟨o', ho, q2⟩ := q1.opt
    obtain ⟨rfl, fs, h1, h2⟩ := methD_at ho
    obtain ⟨a, dx, fvs, rfl, g1, g2, g3⟩ := ru.insAt S1.wi h1
    refine ⟨a, dx, fvs, rfl, g1, look_none g2 h2, ht _ _ _ ⟨w1, ρ, z1, S1, ?_⟩⟩
    have q3 : resTo Γ B Wx w1 ρ σ H1 ((ml ρ z1).bind fun ds z => if (o' :: ds).length = n then F (o' :: ds) z else .bad) (fun d w' _ H' => ∀ v, Rep Γ w' d v → Q v H') := (q2 w1 H1 S1 (.refl _ _)).2.2
    exact q3.bind.mono fun ds w2 z2 H2 _ _ ⟨S2, s2, q4⟩ vs rvs => app_to S2 (.cons (ru.step s2) rvs) q4⟩
theorem d_meth {pl : Sem Bool} (c : Nat) {n : Nat} (V : Dv Γ X Wx j) (hc : Cls X.K (Γ.cls c)) (hm : Meth X.K (Γ.cls c) mn fa) (G : FnG X.prog X.w X.K X.mg X.base k fa fd ps (spD Γ n F)) (hb : Binds X.K fd ps []) (he : PE X o (tD Γ B Wx mo)) (ha : PA X (e :: es) (tDA Γ B Wx ml)) (hj : k ≤ j := by decide)
    (hst : starEach (e :: es) X.env = (false, eval e X.env) :: starEach es X.env := by rfl) (hpl : (backTo pos (starEach es X.env)).any (·.1) = false := by rfl)
    (ht : eval (.Call (.Attribute o mn apos) (e :: es) [] pos) X.env = (do
      let ov ← eval o X.env
      standAt apos.atName
      let (f, first) ← holding [ov] (getMethod ov mn pl)
      callWith pos f first (backTo pos (starEach (e :: es) X.env)) (backToKw pos (keywordEach [] X.env))) := by rfl) :
    PE X (.Call (.Attribute o mn apos) (e :: es) [] pos) (tD Γ B Wx (mMeth c mn n F mo ml)) := pe_weak (pe_methG V he hc hm G hb hj ha hst hpl ht) (methTo fun _ _ _ q => q)
theorem d_meth0 {pl : Sem Bool} (c : Nat) {n : Nat} (V : Dv Γ X Wx j) (hc : Cls X.K (Γ.cls c)) (hm : Meth X.K (Γ.cls c) mn fa) (G : FnG X.prog X.w X.K X.mg X.base k fa fd ps (spD Γ n F)) (hb : Binds X.K fd ps []) (he : PE X o (tD Γ B Wx mo)) (hj : k ≤ j := by decide)
    (ht : eval (.Call (.Attribute o mn apos) [] [] pos) X.env = (do
      let ov ← eval o X.env
      standAt apos.atName
      let (f, first) ← holding [ov] (getMethod ov mn pl)
      callWith pos f first (backTo pos (starEach [] X.env)) (backToKw pos (keywordEach [] X.env))) := by rfl) :
    PE X (.Call (.Attribute o mn apos) [] [] pos) (tD Γ B Wx (mMeth c mn n F mo mNil)) := pe_weak (pe_methG0 V he hc hm G hb hj ht) (methTo fun _ _ _ ⟨w, ρ, z, S, q⟩ => q.ok S [] .nil)
theorem methFTo {c n : Nat} {t : TA} (ht : ∀ σ H Q, tDA Γ B Wx ml σ H Q → t σ H Q) : ∀ σ H Q, tF Γ B Wx (mMethF c mn n F mo ml) σ H Q → tMethS Wx (Γ.cls c) mn (spF Γ n F) (tD Γ B Wx mo) t σ H Q := fun σ H Q ⟨w, ρ, z, S, q⟩ =>
  ⟨w, ρ, z, S, q.bind.bind.mono fun o w1 z1 H1 _ t1 ⟨S1, s1, q1⟩ u ru => by
    obtain ⟨o', ho, q2⟩ := q1.opt
    obtain ⟨rfl, fs, h1, h2⟩ := methD_at ho
    obtain ⟨a, dx, fvs, rfl, g1, g2, g3⟩ := ru.insAt S1.wi h1
    refine ⟨a, dx, fvs, rfl, g1, look_none g2 h2, ht _ _ _ ⟨w1, ρ, z1, S1, ?_⟩⟩
    have q3 : resTo Γ B Wx w1 ρ σ H1 ((ml ρ z1).bind fun ds z => (if (o' :: ds).length = n then F (o' :: ds) z else .bad).bind fun d z1 => mOpt (fun _ => itemsL d) ρ z1) (fun ds w' _ H' => ∀ p, OwnRep Γ w' H' p (.lst ds) → w'.R p = none → p ∉ w'.pl → H p = none → Q (.ref p) H') := (q2 w1 H1 S1 (.refl _ _)).2.2
    exact q3.bind.mono fun ds w2 z2 H2 _ t2 ⟨S2, s2, q4⟩ vs rvs => appF_to S2 (.cons (ru.step s2) rvs) (q4.mono fun _ _ _ _ _ _ k p o1 o2 o3 o4 => k p o1 o2 o3 (none_back t1 (none_back t2 o4)))⟩
theorem f_meth {pl : Sem Bool} (c : Nat) {n : Nat} (V : Dv Γ X Wx j) (hc : Cls X.K (Γ.cls c)) (hm : Meth X.K (Γ.cls c) mn fa) (G : FnG X.prog X.w X.K X.mg X.base k fa fd ps (spF Γ n F)) (hb : Binds X.K fd ps []) (he : PE X o (tD Γ B Wx mo)) (ha : PA X (e :: es) (tDA Γ B Wx ml)) (hj : k ≤ j := by decide)
    (hst : starEach (e :: es) X.env = (false, eval e X.env) :: starEach es X.env := by rfl) (hpl : (backTo pos (starEach es X.env)).any (·.1) = false := by rfl)
    (ht : eval (.Call (.Attribute o mn apos) (e :: es) [] pos) X.env = (do
      let ov ← eval o X.env
      standAt apos.atName
      let (f, first) ← holding [ov] (getMethod ov mn pl)
      callWith pos f first (backTo pos (starEach (e :: es) X.env)) (backToKw pos (keywordEach [] X.env))) := by rfl) :
    PE X (.Call (.Attribute o mn apos) (e :: es) [] pos) (tF Γ B Wx (mMethF c mn n F mo ml)) := pe_weak (pe_methG V he hc hm G hb hj ha hst hpl ht) (methFTo fun _ _ _ q => q)
theorem f_meth0 {pl : Sem Bool} (c : Nat) {n : Nat} (V : Dv Γ X Wx j) (hc : Cls X.K (Γ.cls c)) (hm : Meth X.K (Γ.cls c) mn fa) (G : FnG X.prog X.w X.K X.mg X.base k fa fd ps (spF Γ n F)) (hb : Binds X.K fd ps []) (he : PE X o (tD Γ B Wx mo)) (hj : k ≤ j := by decide)
    (ht : eval (.Call (.Attribute o mn apos) [] [] pos) X.env = (do
      let ov ← eval o X.env
      standAt apos.atName
      let (f, first) ← holding [ov] (getMethod ov mn pl)
      callWith pos f first (backTo pos (starEach [] X.env)) (backToKw pos (keywordEach [] X.env))) := by rfl) :
    PE X (.Call (.Attribute o mn apos) [] [] pos) (tF Γ B Wx (mMethF c mn n F mo mNil)) := pe_weak (pe_methG0 V he hc hm G hb hj ht) (methFTo fun _ _ _ ⟨w, ρ, z, S, q⟩ => q.ok S [] .nil)
end

/-! ### C(..), the instance frozen behind __init__ -/
mutual
/-- no mutable thing from the n-th on -/
def D.low (n : Nat) : D → Bool
  | .non => true
  | .bl _ => true
  | .int _ => true
  | .str _ => true
  | .tup ds => lowL n ds
  | .lst ds => lowL n ds
  | .obj _ _ ds => lowL n ds
  | .mob k => decide (k < n)
def lowL (n : Nat) : List D → Bool
  | [] => true
  | d :: ds => d.low n && lowL n ds
end
def MO.low (n : Nat) : MO → Bool
  | .lst ds => lowL n ds
  | .ins _ fs => lowL n (fs.map (·.2))
section
variable {Γ : Gam} {w w' : W} {n : Nat} (hR : ∀ a o, w.R a = some o → w'.R a = some o) (hpl : ∀ (k : Nat) (a : Addr), k < n → w.pl[k]? = some a → w'.pl[k]? = some a)
include hR hpl
mutual
theorem Rep.low : ∀ (d : D) (v : V), d.low n = true → Rep Γ w d v → Rep Γ w' d v
  | .non, _, _, h => by cases h; exact .non
  | .bl b, _, _, h => by cases h; exact .bl b
  | .int i, _, _, h => by cases h; exact .int i
  | .str x, _, _, h => by cases h; exact .str x
  | .tup ds, _, l, h => by
    unfold D.low at l
    cases h with
    | tup h1 h2 => exact .tup (SqT.le hR h1) (RepL.low ds _ l h2)
  | .lst ds, _, l, h => by
    unfold D.low at l
    cases h with
    | lst h1 h2 => exact .lst (SqS.le hR h1) (RepL.low ds _ l h2)
  | .obj c ns ds, _, l, h => by
    unfold D.low at l
    cases h with
    | obj h1 h2 h3 => exact .obj (hR _ _ h1) h2 (RepL.low ds _ l h3)
  | .mob k, _, l, h => by
    unfold D.low at l
    cases h with
    | mob h1 => exact .mob (hpl _ _ (of_decide_eq_true l) h1)
theorem RepL.low : ∀ (ds : List D) (vs : List V), lowL n ds = true → RepL Γ w ds vs → RepL Γ w' ds vs
  | [], _, _, h => by cases h; exact .nil
  | d :: ds, _, l, h => by
    unfold lowL at l
    rw [Bool.and_eq_true] at l
    cases h with
    | cons h1 h2 => exact .cons (Rep.low d _ l.1 h1) (RepL.low ds _ l.2 h2)
end
end
/-- the last of the store, an instance of C, is taken out of it -/
def popIns (c n : Nat) (z : Z) : Option (List (Str × D) × Z) := match z[n]? with
  | some (.ins c' fs) => if c' = c ∧ z.length = n + 1 ∧ (z.take n).all (·.low n) = true ∧ lowL n (fs.map (·.2)) = true then some (fs, z.take n) else none
  | _ => none
theorem WI.popIns {Γ : Gam} {w : W} {z z1 : Z} {H : Hp} {c n : Nat} {fs : List (Str × D)} (I : WI Γ w z H) (h : popIns c n z = some (fs, z1)) :
    ∃ x dx fvs, w.pl[n]? = some x ∧ w.R x = none ∧ H x = some (.ins (Γ.cls c) dx fvs) ∧ WI Γ ⟨upd w.R x (.ins (Γ.cls c) dx fvs), w.pl.take n⟩ z1 H ∧ Rep Γ ⟨upd w.R x (.ins (Γ.cls c) dx fvs), w.pl.take n⟩ (.obj c (fs.map (·.1)) (fs.map (·.2))) (.ref x) := by
  unfold NW.popIns at h
  split at h
  · rename_i c' fs' hz
    split at h
    · rename_i hh
      obtain ⟨rfl, hl, lz, lf⟩ := hh
      cases h
      obtain ⟨x, g1, g2, dx, fvs, g3, g4, g5⟩ := I.st _ _ hz
      have kR : ∀ a o, w.R a = some o → upd w.R x (.ins (Γ.cls c') dx fvs) a = some o := fun a o q => by rw [upd_ne (ne_of_none q g2)]; exact q
      have kP : ∀ (k : Nat) (a : Addr), k < n → w.pl[k]? = some a → (w.pl.take n)[k]? = some a := fun k a hk q => by rw [List.getElem?_take_of_lt hk]; exact q
      refine ⟨x, dx, fvs, g1, g2, g3, ⟨fun a o q => ?_, ?_, fun k mo hk => ?_, ?_, fun a o q => ?_, I.tb⟩, .obj upd_same g4 (RepL.low (n := n) kR kP _ _ lf g5)⟩
      · rcases upd_cases q with ⟨rfl, rfl⟩ | ⟨_, q⟩
        · exact g3
        · exact I.le _ _ q
      · rw [List.length_take, List.length_take, I.len]
      · have hkn : k < n := by
          have := (List.getElem?_eq_some_iff.mp hk).1
          rw [List.length_take] at this
          omega
        have hk' : z[k]? = some mo := by rw [List.getElem?_take_of_lt hkn] at hk; exact hk
        obtain ⟨a, e1, e2, e3⟩ := I.st _ _ hk'
        have ne : a ≠ x := fun q => by
          subst q
          obtain ⟨l1, q1⟩ := List.getElem?_eq_some_iff.mp e1
          obtain ⟨l2, q2⟩ := List.getElem?_eq_some_iff.mp g1
          have := (List.getElem_inj I.nd).mp (q1.trans q2.symm)
          omega
        refine ⟨a, kP k a hkn e1, by show upd w.R x _ a = none; rw [upd_ne ne]; exact e2, ?_⟩
        have lm : mo.low n = true := List.all_eq_true.mp lz mo (List.mem_of_getElem? hk)
        cases mo with
        | lst ds => obtain ⟨xs, q1, q2⟩ := e3; exact ⟨xs, q1, RepL.low (n := n) kR kP _ _ lm q2⟩
        | ins c2 fs2 => obtain ⟨dx2, fv2, q1, q2, q3⟩ := e3; exact ⟨dx2, fv2, q1, q2, RepL.low (n := n) kR kP _ _ lm q3⟩
      · exact (List.take_sublist _ _).nodup I.nd
      · rcases upd_cases q with ⟨rfl, rfl⟩ | ⟨_, q⟩
        · exact fun _ => nofun
        · exact I.nt _ _ q
    · cases h
  · cases h
def newTo (c n : Nat) (r : Res D) : Res D := match r with
  | .ok .non z => match popIns c n z with
    | some (fs, z1) => .ok (.obj c (fs.map (·.1)) (fs.map (·.2))) z1
    | none => .bad
  | .exc x z => .exc x z
  | _ => .bad
/-- .. or it stays in the store -/
def newMTo (n : Nat) (r : Res D) : Res D := match r with
  | .ok .non z => .ok (.mob n) z
  | .exc x z => .exc x z
  | _ => .bad
def mNewF (c n : Nat) (F : FM) (ml : M (List D)) : M D := mBind ml fun ds _ z => if (ds.length + 1) = n then newTo c z.length (F (.mob z.length :: ds) (z ++ [.ins c []])) else .bad
def mNewM (c n : Nat) (F : FM) (ml : M (List D)) : M D := mBind ml fun ds _ z => if (ds.length + 1) = n then newMTo z.length (F (.mob z.length :: ds) (z ++ [.ins c []])) else .bad
section
variable {X : Cx} {Γ : Gam} {B : Bs} {Wx : WX} {k j : Nat} {e : Expr} {es : List Expr} {ml : M (List D)} {pos p : Pos} {fa C : Addr} {fd : FuncData} {ps : List Str} {F : FM} {x : Str}
theorem make_guards {A : Around} {C : Addr} {us : List Value} {kw : List (Str × Value)} : (A.under (.builtin "type.__call__" ⟨.ref C :: us, kw⟩)).guards = A.guards := by
  first | rfl | simp [Around.under, Code.weight, Code.isCreation, Code.isGuard, Code.isCaller, Code.frames, Code.isFrame, guardIds]
def tMakeS (Wx : WX) (C : Addr) (sp : Sp) (t : TA) : TE := fun σ H Q => t σ H fun vs H1 => ∀ x dx, H1 x = none → H1 dx = none → dx ≠ x → sp (.ref x :: vs) (upd (upd H1 dx (.own x)) x (.ins C dx [])) (fun v H2 => v = .non ∧ Q (.ref x) H2) (fun cls dd H' => Wx cls dd σ H')
theorem run_makeG {sp : Sp} {pins : List (Addr × Obj)} {σ : Sl} {H : Hp} {s : Shared} {Q : VK} {us : List Value} {vs : List V} (V : Dv Γ X Wx j) (M : Mk X.K C fa) (G : FnG X.prog X.w X.K X.mg X.base k fa fd ps sp) (hb : Binds X.K fd ps []) (hj : k + 1 ≤ j) (I : Inv X pins σ H s) (r : Vals vs us)
    (h : ∀ x dx, H x = none → H dx = none → dx ≠ x → sp (.ref x :: vs) (upd (upd H dx (.own x)) x (.ins C dx [])) (fun v H2 => v = .non ∧ Q (.ref x) H2) (fun cls dd H' => Wx cls dd σ H')) :
    wpAny (model X.prog X.w) X.A (call (.ref C) us) (EP X pins σ Q) X.xe s := by
  have hq := h (s.heap.objs.size + 1) s.heap.objs.size (I.hok.fresh (Nat.le_succ _)) (I.hok.fresh (Nat.le_refl _)) (Nat.ne_of_lt (Nat.lt_succ_self _))
  have I2 := Inv.made (C := C) I
  have r2 : Vals (L2.V.ref (s.heap.objs.size + 1) :: vs) (Value.ref (s.heap.objs.size + 1) :: us) := .cons rfl r
  have hl : (Value.ref (s.heap.objs.size + 1) :: us ++ []).length = ps.length := by
    have e := r2.length
    rw [G.len _ _ _ _ hq] at e
    rw [List.append_nil]
    exact e.symm
  have hr := V.room.mono hj
  refine wpAny_call (make_map (f := fa) I.kIn M.makes M.init (beq_iff_eq.mp M.fn) (codeAny_mono (G.run _ X.stack _ _ ⟨Value.ref (s.heap.objs.size + 1) :: us, []⟩ (Value.ref (s.heap.objs.size + 1) :: us ++ []) _ _ _ (hr.make C us []) (make_guards.trans V.grd)
    (I2.env0.make C us []) (hb _ (Value.ref (s.heap.objs.size + 1) :: us) I2.kIn hl) (by rw [List.append_nil]; exact r2) hq) fun r s' hq' => ?_))
  cases r with
  | error e => exact passAt V.tk σ pins _ _ e s' I2 hq'
  | ok fl =>
    cases fl with
    | ret u =>
      obtain ⟨v, H', I3, rv, ev, q3⟩ := I2.after hq'
      subst ev
      exact ⟨rv, ⟨L2.V.ref (s.heap.objs.size + 1), H', I3, rfl, q3⟩⟩
    | next => exact False.elim hq'
    | brk => exact False.elim hq'
    | cont => exact False.elim hq'
theorem pe_makeG {sp : Sp} {t : TA} (V : Dv Γ X Wx j) (M : Mk X.K C fa) (G : FnG X.prog X.w X.K X.mg X.base k fa fd ps sp) (hb : Binds X.K fd ps []) (hj : k + 1 ≤ j) (hg : Gl X x) (hm : X.mg x = some (.ref C)) (ha : PA X (e :: es) t) (hdb : (x == ("__debug__" : Str)) = false)
    (he : starEach (e :: es) X.env = (false, eval e X.env) :: starEach es X.env) (hpl : (backTo pos (starEach es X.env)).any (·.1) = false) : PE X (.Call (.Name x p) (e :: es) [] pos) (tMakeS Wx C sp t) := by
  refine ⟨fun pins s σ H Q I h => ?_⟩
  refine wpAny_Call_Name_kw (ld_glob I hg hm ?_ hdb)
  refine PySem.W.callWith_K (h₀ := X.base) I.ok.mod.kin M.kp (thn (ha.run pos pins s σ H _ I h) fun us s1 ⟨vs, H1, I1, r, q⟩ => ⟨I1.kIn, ?_⟩) he hpl
  exact run_makeG V M G hb hj I1 r q
theorem pe_makeG0 {sp : Sp} (V : Dv Γ X Wx j) (M : Mk X.K C fa) (G : FnG X.prog X.w X.K X.mg X.base k fa fd ps sp) (hb : Binds X.K fd ps []) (hj : k + 1 ≤ j) (hg : Gl X x) (hm : X.mg x = some (.ref C)) (hdb : (x == ("__debug__" : Str)) = false) : PE X (.Call (.Name x p) [] [] pos) (tMakeS Wx C sp tNil) := by
  refine ⟨fun pins s σ H Q I h => ?_⟩
  refine wpAny_Call_Name_kw (ld_glob I hg hm ?_ hdb)
  exact PySem.W.callWith_K0 I.kIn M.kp (run_makeG (us := []) V M G hb hj I .nil h)
/-- the new instance in the store -/
theorem WI.made {w : W} {z : Z} {H : Hp} (I : WI Γ w z H) {x dx : Addr} (c : Nat) (hx : H x = none) (hd : H dx = none) (ne : dx ≠ x) :
    WI Γ ⟨w.R, w.pl ++ [x]⟩ (z ++ [.ins c []]) (upd (upd H dx (.own x)) x (.ins (Γ.cls c) dx [])) ∧ Step w H ⟨w.R, w.pl ++ [x]⟩ (upd (upd H dx (.own x)) x (.ins (Γ.cls c) dx [])) := by
  obtain ⟨I2, s2⟩ := I.newO (o := .own x) hd
  have hx2 : upd H dx (.own x) x = none := by rw [upd_ne ne.symm]; exact hx
  obtain ⟨I3, s3⟩ := I2.newO (o := .ins (Γ.cls c) dx []) hx2
  have hR : w.R x = none := by
    cases e : w.R x with
    | none => rfl
    | some o => have := I.le _ _ e; rw [hx] at this; cases this
  have hP : x ∉ w.pl := fun m => by obtain ⟨o, ho, _⟩ := I.th m; rw [hx] at ho; cases ho
  have s := s2.trans s3
  refine ⟨I3.alloc hR hP ⟨dx, [], upd_same, rfl, .nil⟩, ⟨s.r, fun n a h => ?_, s.k, s.f, fun a h => ?_, s.y⟩⟩
  · show (w.pl ++ [x])[n]? = some a
    rw [List.getElem?_append_left (List.getElem?_eq_some_iff.mp h).1]; exact h
  · rcases List.mem_append.mp h with h | h
    · exact .inl h
    · simp at h; subst h; exact .inr hx
theorem rep_at {w : W} {z : Z} {H : Hp} (I : WI Γ w z H) (x : Addr) : Rep Γ ⟨w.R, w.pl ++ [x]⟩ (.mob z.length) (.ref x) := .mob (by
  show (w.pl ++ [x])[z.length]? = some x
  rw [← I.len, List.getElem?_append_right (Nat.le_refl _)]; simp)
theorem newF_to {c n : Nat} {t : TA} (ht : ∀ σ H Q, tDA Γ B Wx ml σ H Q → t σ H Q) : ∀ σ H Q, tD Γ B Wx (mNewF c n F ml) σ H Q → tMakeS Wx (Γ.cls c) (spD Γ n F) t σ H Q := fun σ H Q ⟨w, ρ, z, S, q⟩ =>
  ht _ _ _ ⟨w, ρ, z, S, q.bind.mono fun ds w1 z1 H1 _ _ ⟨S1, s1, q1⟩ vs rvs x dx hx hd ne => by
    dsimp only at q1
    split at q1
    · rename_i hn
      obtain ⟨I2, s2⟩ := S1.wi.made c hx hd ne
      refine ⟨by rw [List.length_cons, rvs.length]; exact hn, _, _, .mob z1.length :: ds, I2, .cons (rep_at S1.wi x) (rvs.step s2), ?_⟩
      cases e : F (.mob z1.length :: ds) (z1 ++ [.ins c []]) with
      | ok d z2 =>
        rw [e] at q1
        unfold newTo at q1
        cases d with
        | non =>
          dsimp only at q1
          cases ep : popIns c z1.length z2 with
          | none => rw [ep] at q1; exact q1.elim
          | some pr =>
            obtain ⟨fs, z3⟩ := pr
            rw [ep] at q1
            intro v w' H' I' s' rv
            cases rv
            refine ⟨rfl, ?_⟩
            obtain ⟨x', dx', fvs, g1, g2, g3, g4, g5⟩ := I'.popIns ep
            have hx' : x' = x := by
              have := s'.t z1.length x (by
                show (w1.pl ++ [x])[z1.length]? = some x
                rw [← S1.wi.len, List.getElem?_append_right (Nat.le_refl _)]; simp)
              rw [g1] at this
              cases this; rfl
            subst hx'
            have st := s2.trans s'
            have s3 : Step w1 H1 ⟨upd w'.R x' (.ins (Γ.cls c) dx' fvs), w'.pl.take z1.length⟩ H' := by
              refine ⟨fun a o h => ?_, fun l a h => ?_, st.k, fun a o h hn => ?_, fun a h => st.n a (List.mem_of_mem_take h), st.y⟩
              · show upd w'.R x' _ a = some o
                rw [upd_ne (ne_of_none (st.r a o h) g2)]
                exact st.r a o h
              · have hl : l < z1.length := by rw [← S1.wi.len]; exact (List.getElem?_eq_some_iff.mp h).1
                show (w'.pl.take z1.length)[l]? = some a
                rw [List.getElem?_take_of_lt hl]
                exact st.t l a h
              · show upd w'.R x' _ a = none
                rw [upd_ne (ne_of_none h hx)]
                exact st.f a o h hn
            exact q1 _ H' (S1.carry g4 s3) s3 _ g5
        | _ => exact q1.elim
      | exc y z2 =>
        rw [e] at q1
        exact fun cls dd w' H' I' s' rx => q1 cls dd w' H' (S1.carry I' (s2.trans s')) (s2.trans s') rx
      | bad => rw [e] at q1; exact q1.elim
    · exact q1.elim⟩
theorem newM_to {c n : Nat} {t : TA} (ht : ∀ σ H Q, tDA Γ B Wx ml σ H Q → t σ H Q) : ∀ σ H Q, tD Γ B Wx (mNewM c n F ml) σ H Q → tMakeS Wx (Γ.cls c) (spD Γ n F) t σ H Q := fun σ H Q ⟨w, ρ, z, S, q⟩ =>
  ht _ _ _ ⟨w, ρ, z, S, q.bind.mono fun ds w1 z1 H1 _ _ ⟨S1, s1, q1⟩ vs rvs x dx hx hd ne => by
    dsimp only at q1
    split at q1
    · rename_i hn
      obtain ⟨I2, s2⟩ := S1.wi.made c hx hd ne
      refine ⟨by rw [List.length_cons, rvs.length]; exact hn, _, _, .mob z1.length :: ds, I2, .cons (rep_at S1.wi x) (rvs.step s2), ?_⟩
      cases e : F (.mob z1.length :: ds) (z1 ++ [.ins c []]) with
      | ok d z2 =>
        rw [e] at q1
        unfold newMTo at q1
        cases d with
        | non =>
          dsimp only at q1
          intro v w' H' I' s' rv
          cases rv
          exact ⟨rfl, q1 _ H' (S1.carry I' (s2.trans s')) (s2.trans s') _ ((rep_at S1.wi x).step s')⟩
        | _ => exact q1.elim
      | exc y z2 =>
        rw [e] at q1
        exact fun cls dd w' H' I' s' rx => q1 cls dd w' H' (S1.carry I' (s2.trans s')) (s2.trans s') rx
      | bad => rw [e] at q1; exact q1.elim
    · exact q1.elim⟩
theorem d_newF (c : Nat) {n : Nat} (V : Dv Γ X Wx j) (M : Mk X.K (Γ.cls c) fa) (G : FnG X.prog X.w X.K X.mg X.base k fa fd ps (spD Γ n F)) (hb : Binds X.K fd ps []) (hm : X.mg x = some (.ref (Γ.cls c))) (ha : PA X (e :: es) (tDA Γ B Wx ml)) (hj : k + 1 ≤ j := by decide) (hg : Gl X x := by rfl) (hdb : (x == ("__debug__" : Str)) = false := by decide)
    (he : starEach (e :: es) X.env = (false, eval e X.env) :: starEach es X.env := by rfl) (hpl : (backTo pos (starEach es X.env)).any (·.1) = false := by rfl) : PE X (.Call (.Name x p) (e :: es) [] pos) (tD Γ B Wx (mNewF c n F ml)) :=
  pe_weak (pe_makeG V M G hb hj hg hm ha hdb he hpl) (newF_to fun _ _ _ q => q)
theorem d_newM (c : Nat) {n : Nat} (V : Dv Γ X Wx j) (M : Mk X.K (Γ.cls c) fa) (G : FnG X.prog X.w X.K X.mg X.base k fa fd ps (spD Γ n F)) (hb : Binds X.K fd ps []) (hm : X.mg x = some (.ref (Γ.cls c))) (ha : PA X (e :: es) (tDA Γ B Wx ml)) (hj : k + 1 ≤ j := by decide) (hg : Gl X x := by rfl) (hdb : (x == ("__debug__" : Str)) = false := by decide)
    (he : starEach (e :: es) X.env = (false, eval e X.env) :: starEach es X.env := by rfl) (hpl : (backTo pos (starEach es X.env)).any (·.1) = false := by rfl) : PE X (.Call (.Name x p) (e :: es) [] pos) (tD Γ B Wx (mNewM c n F ml)) :=
  pe_weak (pe_makeG V M G hb hj hg hm ha hdb he hpl) (newM_to fun _ _ _ q => q)
theorem d_newF0 (c : Nat) {n : Nat} (V : Dv Γ X Wx j) (M : Mk X.K (Γ.cls c) fa) (G : FnG X.prog X.w X.K X.mg X.base k fa fd ps (spD Γ n F)) (hb : Binds X.K fd ps []) (hm : X.mg x = some (.ref (Γ.cls c))) (hj : k + 1 ≤ j := by decide) (hg : Gl X x := by rfl) (hdb : (x == ("__debug__" : Str)) = false := by decide) : PE X (.Call (.Name x p) [] [] pos) (tD Γ B Wx (mNewF c n F mNil)) :=
  pe_weak (pe_makeG0 V M G hb hj hg hm hdb) (newF_to fun _ _ _ ⟨w, ρ, z, S, q⟩ => q.ok S [] .nil)
theorem d_newM0 (c : Nat) {n : Nat} (V : Dv Γ X Wx j) (M : Mk X.K (Γ.cls c) fa) (G : FnG X.prog X.w X.K X.mg X.base k fa fd ps (spD Γ n F)) (hb : Binds X.K fd ps []) (hm : X.mg x = some (.ref (Γ.cls c))) (hj : k + 1 ≤ j := by decide) (hg : Gl X x := by rfl) (hdb : (x == ("__debug__" : Str)) = false := by decide) : PE X (.Call (.Name x p) [] [] pos) (tD Γ B Wx (mNewM c n F mNil)) :=
  pe_weak (pe_makeG0 V M G hb hj hg hm hdb) (newM_to fun _ _ _ ⟨w, ρ, z, S, q⟩ => q.ok S [] .nil)
end
end NW
set_option maxHeartbeats 2000000
/-! Own exceptions: C(..) whose __init__ says super().__init__(text) and stores its attributes. -/
namespace NW
open PySem PySem.Calls PyProof.Rows PySem.W

section
variable {prog : Program} {w : World} {A : Around} {E : Value → Shared → Prop} {s : Shared} {K : Frag} {C : Addr} {B : String} {bmB : List Value}
/-- the first attribute of an exception -/
theorem x_set0 {x t : Addr} {c2 : Value} {name : Str} {v : Value} {Q : Unit → Shared → Prop} (SF : StoreFacts B bmB "object.__setattr__" "object") (X : K.In s.heap) (hx : s.heap.get? x = some (excObj C t none c2)) (hs : findIn K (.ref C) "__setattr__" = some (some (.builtin "object.__setattr__")))
    (hp : excOver K C bmB = true) (ht : takerIn K C name = some none) (hh : hasDictIn K C = true)
    (h : ∀ h' tk' dx, (∀ b o, b ≠ x → s.heap.get? b = some o → h'.get? b = some o) → s.heap.objs.size ≤ dx → dx ≠ x → h'.get? x = some (excObj C t (some dx) c2) → h'.Ns1 dx (fun y => if y = name then some v else none) → Q () { s with heap := h', toks := tk' }) :
    wpAny (model prog w) A (setAttr (.ref x) name v) Q E s := by
  obtain ⟨hp0, g, d, tk, os⟩ := s
  have hxs : x ≠ hp0.objs.size := Nat.ne_of_lt (Heap.lt_size hx)
  refine set_plain (od := none) X ⟨hx, rfl, rfl, trivial⟩ hs (osa_openX (s := ⟨hp0, g, d, tk + 1, os⟩) (od := none) SF X ⟨hx, rfl, rfl, trivial⟩ hp ht fun b => ?_)
  obtain ⟨cd, hc, hd'⟩ := any_some hh
  refine wpAny_bind (wpAny_pure (wpAny_bind (instanceDict_exc (s := ⟨hp0, g, d, tk + 1, os⟩) hx (looks_clsIn X hc) hd' ?_)))
  show wpAny _ _ (Builtin.ObjectAttr.storeInDict hp0.objs.size (.str name tk) name v) _ _ _
  have hx₁ : (hp0.push (dictOf [] 0)).get? x = some (excObj C t none c2) := Heap.get?_push_of_some _ hx
  refine HandSPX.store_in_new ?_ fun h' tk' hn' hs' => ?_
  · exact ⟨_, #[], _, (Heap.get?_update_ne _ _ _ _ hxs.symm).trans (Heap.get?_push_at rfl rfl), rfl, fun e he => absurd he (by simp), fun _ => rfl⟩
  · refine h h' tk' hp0.objs.size (fun b o hb ho => ?_) (Nat.le_refl _) hxs.symm ?_ hn'
    · exact (hs'.2 b (Nat.ne_of_lt (Heap.lt_size ho))).trans ((Heap.get?_update_ne _ _ _ _ hb).trans (Heap.get?_push_of_some _ ho))
    · exact (hs'.2 x hxs).trans (Heap.get?_update_self _ hx₁ rfl)
/-- a further one -/
theorem x_setD {x t dx : Addr} {c2 : Value} {name : Str} {v : Value} {m0 : Str → Option Value} {nl : List Str} {Q : Unit → Shared → Prop} (SF : StoreFacts B bmB "object.__setattr__" "object") (X : K.In s.heap) (hx : s.heap.get? x = some (excObj C t (some dx) c2)) (hns : s.heap.Ns1 dx m0) (hw : Within m0 nl) (hz : nl.length ≤ 1000)
    (hs : findIn K (.ref C) "__setattr__" = some (some (.builtin "object.__setattr__"))) (hp : excOver K C bmB = true) (ht : takerIn K C name = some none) (hh : hasDictIn K C = true)
    (h : ∀ h' tk', (∀ b o, b ≠ dx → s.heap.get? b = some o → h'.get? b = some o) → h'.Ns1 dx (fun y => if y = name then some v else m0 y) → Q () { s with heap := h', toks := tk' }) :
    wpAny (model prog w) A (setAttr (.ref x) name v) Q E s := by
  obtain ⟨hp0, g, d, tk, os⟩ := s
  obtain ⟨oD, esD, epD, hoD, hdD, _⟩ := hns.count hw
  refine set_plain (od := some oD) X ⟨hx, rfl, rfl, hoD⟩ hs (osa_openX (s := ⟨hp0, g, d, tk + 1, os⟩) (od := some oD) SF X ⟨hx, rfl, rfl, hoD⟩ hp ht fun b => ?_)
  obtain ⟨cd, hc, hd'⟩ := any_some hh
  refine wpAny_bind (wpAny_pure (wpAny_bind (wpAny_bind (wpAny_loadPart hx (wpAny_bind ((looks_clsIn X hc).at ?_))))))
  rw [hd']
  refine wpAny_pure (a := some dx) ?_
  show wpAny _ _ (Builtin.ObjectAttr.storeInDict dx (.str name tk) name v) _ _ _
  refine OEX.store_in_old hns hw hz fun h' tk' hn' hs' => ?_
  exact h h' tk' (fun b o hb ho => (hs'.2 b hb).trans ho) hn'
end

/-! ### the stores of such an __init__ -/
inductive XV where
  | str (x : Str) (j : Nat) (p : Pos) | nam (x : Str) (p : Pos)
def XV.expr : XV → Expr
  | .str x j p => .Constant (.str x) j p
  | .nam x p => .Name x p
structure XS where
  f : Str
  v : XV
  q0 : Pos
  q1 : Pos
  q2 : Pos
def XS.stmt (sn : Str) (x : XS) : Stmt := .Assign [.Attribute (.Name sn x.q0) x.f x.q1] x.v.expr x.q2
/-- what is stored, by the parameters' values -/
def XV.val (pv : List (Str × L2.V)) : XV → Option L2.V
  | .str x _ _ => some (.str x)
  | .nam x _ => pv.lookup x
def xsGo (pv : List (Str × L2.V)) : List XS → List (Str × L2.V) → Option (List (Str × L2.V))
  | [], fs => some fs
  | x :: xs, fs => (x.v.val pv).bind fun v => xsGo pv xs ((x.f, v) :: fs)
section
variable {prog : Program} {w : World} {A : Around} {E : Value → Shared → Prop} {h : Heap} {g : Array GenState} {d : Drawn} {tk : Nat} {os : OsState} {K : Frag} {C L : Addr} {B : String} {bmB : List Value} {env : Env} {ml : Str → Option Value} {pv : List (Str × L2.V)} {sn : Str}
/-- the names of the body -/
structure XNm (env : Env) (L : Addr) (ml : Str → Option Value) (pv : List (Str × L2.V)) : Prop where
  loc : env.locals = L
  kind : env.scope.kind = .function
  at_ : ∀ x v, pv.lookup x = some v → env.kindOf x = some .local ∧ (∃ u, ml x = some u ∧ L2.RelV v u) ∧ (x == ("__debug__" : Str)) = false
theorem xv_eval {Q : Value → Shared → Prop} (N : XNm env L ml pv) (hns : h.Ns L ml) (xv : XV) {v : L2.V} (hv : xv.val pv = some v) (q : ∀ u tk', L2.RelV v u → Q u ⟨h, g, d, tk', os⟩) : wpAny (model prog w) A (eval xv.expr env) Q E ⟨h, g, d, tk, os⟩ := by
  cases xv with
  | str x j p =>
    cases hv
    exact wpAny_Constant_str (q _ _ ⟨_, rfl⟩)
  | nam x p =>
    obtain ⟨h1, ⟨u, h2, h3⟩, h4⟩ := N.at_ x v hv
    exact wpAny_Name (wpAny_loadName_local N.kind h1 (by rw [N.loc]; exact hns) h2 (q u _ h3)) h4
theorem xs_stmt {Q : Flow → Shared → Prop} (N : XNm env L ml pv) (hns : h.Ns L ml) {e : Addr} (hself : pv.lookup sn = some (.ref e)) (x : XS) {v : L2.V} (hv : x.v.val pv = some v) (q : ∀ u tk', L2.RelV v u → wpAny (model prog w) A (setAttr (.ref e) x.f u) (fun _ => Q .next) E ⟨h, g, d, tk', os⟩) :
    wpAny (model prog w) A (exec (x.stmt sn) env) Q E ⟨h, g, d, tk, os⟩ := by
  unfold XS.stmt
  refine plainObj_wpAny_Assign_Attribute (xv_eval N hns x.v hv fun u t1 ru => ?_) (by cases x.v <;> rfl)
  obtain ⟨h1, ⟨u2, h2, h3⟩, h4⟩ := N.at_ sn _ hself
  cases (show u2 = Value.ref e from h3)
  exact wpAny_Name (wpAny_loadName_local N.kind h1 (by rw [N.loc]; exact hns) h2 (q u _ ru)) h4
theorem xs_rest {t dx e : Addr} {c2 : Value} {Q : Flow → Shared → Prop} (SF : StoreFacts B bmB "object.__setattr__" "object") (hs : findIn K (.ref C) "__setattr__" = some (some (.builtin "object.__setattr__"))) (hp : excOver K C bmB = true) (hh : hasDictIn K C = true) (N : XNm env L ml pv) (hself : pv.lookup sn = some (.ref e)) :
    ∀ (xs : List XS) (h : Heap) (tk : Nat) (fs : List (Str × L2.V)) (fs' : List (Str × L2.V)) (mA : Str → Option Value), (∀ x ∈ xs, takerIn K C x.f = some none) → fs.length + xs.length ≤ 900 → K.In h → h.get? e = some (excObj C t (some dx) c2) → h.Ns1 dx mA → (∀ f, L2.RelO (fs.lookup f) (mA f)) → h.Ns L ml → dx ≠ L → dx ≠ e → xsGo pv xs fs = some fs' → (∀ b o, K.lookup b = some o → b ≠ dx) →
      (∀ h' tk' mA', (∀ b o, b ≠ dx → h.get? b = some o → h'.get? b = some o) → h'.Ns1 dx mA' → (∀ f, L2.RelO (fs'.lookup f) (mA' f)) → Q .next ⟨h', g, d, tk', os⟩) →
      wpAny (model prog w) A (execs (xs.map (XS.stmt sn)) env) Q E ⟨h, g, d, tk, os⟩
  | [], h, tk, fs, fs', mA, _, _, X, he, hn, hr, hl, nL, ne, hgo, hK, q => by
    cases hgo
    exact wpAny_execs_nil (q h tk mA (fun b o _ z => z) hn hr)
  | x :: xs, h, tk, fs, fs', mA, ht, hlen, X, he, hn, hr, hl, nL, ne, hgo, hK, q => by
    unfold xsGo at hgo
    obtain ⟨v, hv, hgo⟩ := Option.bind_eq_some_iff.mp hgo
    rw [List.map_cons]
    have hw := L2.within_of hr
    simp only [List.length_cons] at hlen
    refine wpAny_execs_cons (xs_stmt N hl hself x hv fun u t1 ru => ?_)
    refine x_setD (s := ⟨h, g, d, t1, os⟩) SF X he hn hw (by rw [List.length_map]; omega) hs hp (ht x (List.mem_cons_self ..)) hh fun h' tk' k hn' => ?_
    refine xs_rest SF hs hp hh N hself xs h' tk' ((x.f, v) :: fs) fs' _ (fun y hy => ht y (List.mem_cons_of_mem _ hy)) (by simp only [List.length_cons]; omega) (fun b o z => k b o (hK b o z) (X b o z)) (k e _ ne.symm he) hn' (L2.relO_put ru hr) ?_ nL ne hgo hK fun h2 t2 m2 k2 => q h2 t2 m2 fun b o hb z => k2 b o hb (k b o hb z)
    obtain ⟨o, es, ep, ho, r⟩ := hl
    exact ⟨o, es, ep, k L o nL.symm ho, r⟩
end

/-! ### super().__init__(text), then the stores -/
abbrev supStmt (w1 : Str) (j : Nat) (p0 p1 p2 p3 p4 p5 : Pos) : Stmt := .Expr (.Call (.Attribute (.Call (.Name "super" p0) [] [] p1) "__init__" p2) [.Constant (.str w1) j p3] [] p4) p5
/-- the tree of that call (by rfl at given positions) -/
def SupEv (w1 : Str) (j : Nat) (p0 p1 p2 p3 p4 : Pos) (pl : Sem Bool) (env : Env) : Prop :=
  eval (.Call (.Attribute (.Call (.Name "super" p0) [] [] p1) "__init__" p2) [.Constant (.str w1) j p3] [] p4) env = (do
    let ov ← attributeBase (.Call (.Name "super" p0) [] [] p1) "__init__" env (eval (.Call (.Name "super" p0) [] [] p1) env)
    standAt p2.atName
    let (f, first) ← holding [ov] (getMethod ov "__init__" pl)
    callWith p4 f first (backTo p4 (starEach [.Constant (.str w1) j p3] env)) [])
/-- what the written part says of such a class at C -/
structure XKl (K : Frag) (P : Program) (C fI cc cda : Addr) (B newId initId : String) (bmB : List Value) (fd : FuncData) (sn : Str) (ps : List Str) (xs : List XS) : Prop where
  FB : ExcBaseFacts B newId initId bmB
  SF : StoreFacts B bmB "object.__setattr__" "object"
  KF : KxsFacts B initId
  q : excInitIn K C bmB newId = true
  ov : excOver K C bmB = true
  init : findIn K (.ref C) "__init__" = some (some (.ref fI))
  tI : typeIn K (.ref fI) = some (.type "function")
  sa : findIn K (.ref C) "__setattr__" = some (some (.builtin "object.__setattr__"))
  hd : hasDictIn K C = true
  sup : ks_superIn K C C "__init__" = some (some (.builtin initId))
  sB : subIn K (.ref C) (.type B) = some true
  exC : subIn K (.ref C) (.type "BaseException") = some true
  tyC : typeIn K (.ref C) = some (.type "type")
  kC : keepIn K (.ref C) = true
  opq : nsIn K cStatics "thirdparty.any" = some none
  self : mroIn K C (.ref C) = some true
  tk : ∀ x ∈ xs, takerIn K C x.f = some none
  lk : ∃ oc od osl, K.lookup fI = some ⟨oc, od, .func fd, osl⟩
  code : fd.code = .ref cda
  qn : codeIn K fd.code fd.qualname = true
  file : ∃ ccl ccd vs ccs f tf, K.lookup cda = some ⟨ccl, ccd, .fields vs, ccs⟩ ∧ vs[2]? = some (.str f tf) ∧ ((P.main.file : Str) == f) = true
  cell : ∃ cl cld csl, K.lookup cc = some ⟨cl, cld, .cell (some (.ref C)), csl⟩
  bd : ∃ w1 j p0 p1 p2 p3 p4 p5, fd.body = .stmts (supStmt w1 j p0 p1 p2 p3 p4 p5 :: xs.map (XS.stmt sn)) ∧ ∃ pl : Sem Bool, ∀ env : Env, SupEv w1 j p0 p1 p2 p3 p4 pl env
  clo : fd.closure = [(("__class__" : Str), cc)]
  glo : fd.globals = mainGlobals
  bns : fd.builtins = builtinsNs
  co : fd.scope.isCoroutine = false
  gen : fd.scope.isGenerator = false
  kind : fd.scope.kind = .function
  nc : ∀ x ∈ fd.scope.names, x.2 ≠ .cell
  par : ∃ ar, (fd.params.posonlyargs ++ fd.params.args).head? = some ar ∧ ar.arg = sn
  ps0 : ps.head? = some sn
  nd : ps.Nodup
  loc : ∀ x ∈ ps, fd.scope.names.lookup x = some .local ∧ (x == ("__debug__" : Str)) = false
  sup1 : fd.scope.names.lookup ("super" : Str) = some .globalImplicit
  cls1 : fd.scope.names.lookup ("__class__" : Str) = some .free
  top : (P.main.scope.names.lookup ("super" : Str)).isSome = false
  bnd : ∀ (s : Shared) (us : List Value), us.length = ps.length → BindsTo s fd ⟨us, []⟩ (ps.zip us)
  few : xs.length ≤ 100
section
variable {P : Program} {w : World} {A : Around} {E : Value → Shared → Prop} {K : Frag} {C fI cc cda : Addr} {B newId initId : String} {bmB : List Value} {fd : FuncData} {sn : Str} {ps : List Str} {xs : List XS}
/-- the bound __init__ of the base, called -/
theorem x_super {h : Heap} {g : Array GenState} {d : Drawn} {tk : Nat} {os : OsState} {u e t : Addr} {rest : List Value} {Q : Value → Shared → Prop} (X : XKl K P C fI cc cda B newId initId bmB fd sn ps xs) (KX : K.In h) (hu : h.get? u = some (kxs_mw initId e)) (he : h.get? e = some (excObj C t none .none)) (hz : rest.length ≤ sizeLine)
    (fin : ∀ h', (∀ b o, b ≠ e → h.get? b = some o → h'.get? b = some o) → h'.get? e = some (excObj C h.objs.size none .none) → Q .none ⟨h', g, d, tk, os⟩) : wpAny (model P w) A (call (.ref u) rest) Q E ⟨h, g, d, tk, os⟩ := by
  obtain ⟨nm, N', qn, bs, bm, hdct, sn', sub, ab, col, dd, k0, k1, k2, k3, k5, hC, hT⟩ := excInit_of KX X.q
  refine wpAny_call (codeAny_of_tree ?_)
  show wpAny _ A.in1 (callAny (.ref u) ⟨rest, []⟩) _ _ _
  simp only [callAny]
  refine wpAny_bind (wpAny_load hu ?_)
  simp only [kxs_mw, show (Value.type "method-wrapper" == Value.type "method" || Value.type "method-wrapper" == Value.type "builtin_function_or_method" || Value.type "method-wrapper" == Value.type "method-wrapper") = true by decide, if_true]
  refine KFB.if_so (by decide) ?_
  refine wpAny_bind (check_bound_init X.FB.toExcCallFacts hC he rfl ?_)
  refine wpAny_bind (wpAny_pure (wpAny_pure ?_))
  refine ⟨plainId_quiet X.FB.init.plain _, codeAny_builtin X.FB.initEntry ?_⟩
  exact exc_init_tree (cls := .ref C) (t0 := t) (dv := none) (c2 := .none) (c3 := .none) (b4 := .bool false) he hz fun h' k e' _ => fin h' k e'
/-- the first statement -/
theorem x_first {h : Heap} {g : Array GenState} {d : Drawn} {tk : Nat} {os : OsState} {L e t : Addr} {ml : Str → Option Value} {body : List Stmt} {w1 : Str} {j : Nat} {p0 p1 p2 p3 p4 p5 : Pos} {Q : Flow → Shared → Prop} {mg mb : Str → Option Value} {pl : Sem Bool} (hev : SupEv w1 j p0 p1 p2 p3 p4 pl (callEnv fd L fI)) (X : XKl K P C fI cc cda B newId initId bmB fd sn ps xs) (KX : K.In h)
    (hg : h.Ns mainGlobals mg) (hb : h.Ns builtinsNs mb) (hbb : ∀ x : Str, x ≠ "__name__" → mb x = bootBuiltins x) (hms : mg "super" = none) (hl : h.Ns L ml) (hself : ml sn = some (.ref e)) (he : h.get? e = some (excObj C t none .none))
    (q : ∀ h' tk' t', (∀ b o, b ≠ e → h.get? b = some o → h'.get? b = some o) → h'.get? e = some (excObj C t' none .none) → Q .next ⟨h', g, d, tk', os⟩) :
    _root_.PySem.wpAt (model P w) A (.func body (callEnv fd L fI)) (exec (supStmt w1 j p0 p1 p2 p3 p4 p5) (callEnv fd L fI)) Q E ⟨h, g, d, tk, os⟩ := by
  obtain ⟨oc, od, osl, hlk⟩ := X.lk
  obtain ⟨ccl, ccd, vs, ccs, f, tf, hcda, hvs, hfile⟩ := X.file
  obtain ⟨cl, cld, csl, hcc⟩ := X.cell
  obtain ⟨ar, hpar, rfl⟩ := X.par
  obtain ⟨cdD, hcd, hsub⟩ := Option.bind_eq_some_iff.mp X.self
  obtain ⟨oD, hD1, hD2⟩ : ∃ oD, h.get? C = some oD ∧ oD.data = .cls cdD := by
    have hcd := hcd
    unfold clsIn at hcd
    split at hcd
    · rename_i c d cd' sl ho
      cases hcd
      exact ⟨_, KX _ _ ho, rfl⟩
    · cases hcd
  have kind : (callEnv fd L fI).scope.kind = .function := X.kind
  have hsn : fd.scope.names.lookup ar.arg = some .local := (X.loc ar.arg (by
    have := X.ps0
    cases hps : ps with
    | nil => rw [hps] at this; cases this
    | cons a r => rw [hps] at this; cases this; exact List.mem_cons_self ..)).1
  have ek : ∀ x, (callEnv fd L fI).kindOf x = fd.scope.names.lookup x := fun _ => rfl
  refine ks_wpAt_Expr_any (ks_wpAt_MethodCall (ks_wpAt_super_base (env := callEnv fd L fI) (f := fI) (cc := cda) (fd := fd) (by rw [ek]; exact X.sup1) (by rw [ek]; exact X.cls1) rfl rfl (KX _ _ hlk) rfl hpar X.code (KX _ _ hcda) rfl hvs hfile X.top ?_) hev) (by unfold interactive; rw [kind]; rfl)
  refine ks_loadName_global kind (by rw [ek]; exact X.sup1) (loadGlobal_builtin (env := callEnv fd L fI) (by show h.Ns fd.globals mg; rw [X.glo]; exact hg) hms (by show h.Ns fd.builtins mb; rw [X.bns]; exact hb) ((hbb _ (by decide +kernel)).trans (by first | rfl | kernel_rfl)) ⟨rfl, ?_⟩)
  refine wpAny_loadName_free kind (by rw [ek]; exact X.cls1) (c := cc) (by show fd.closure.lookup _ = _; rw [X.clo]; rfl) ⟨_, KX _ _ hcc, rfl⟩ ?_
  refine wpAny_loadName_local kind (by rw [ek]; exact hsn) hl hself ?_
  refine ks_wpAny_isType_cls hD1 hD2 ⟨rfl, ?_⟩
  refine ks_wpAny_call_super hD1 hD2 he rfl (fun c z => by cases z) (looks_mroIn KX X.self) fun h1 hso k1 => ?_
  have K1 : K.In h1 := fun b o z => k1 b o (KX b o z)
  have he1 := k1 _ _ he
  have tyE : Looks (model P w) h1 (typeOf (.ref e)) (.ref C) := fun A Q E s k q => wpAny_typeOf_ref (k _ _ he1) q
  have neC : e ≠ C := fun z => by
    rw [z, hD1] at he
    cases he
    cases hD2
  refine kxs_getMethod X.KF hso (looks_opaque K1 X.opq) (l₀ := cdD.mro) (fun A Q E s k q => wpAny_bind ((looks_clsIn K1 hcd) A _ E s k (wpAny_pure q))) rfl K1 ?_ (tyE.andThen (looks_subIn K1 X.sB)) neC rfl ?_
  · have z := X.sup
    unfold ks_superIn at z
    rw [hcd] at z
    exact z
  · have hu : (h1.push (kxs_mw initId e)).get? h1.objs.size = some (kxs_mw initId e) := Heap.get?_push_size _ rfl
    refine kxs_callWith (i := initId) (x := e) (by rfl) (evalArgs_plain (spliced_cons (wpAny_Constant_str (k := j) (pos := p3) (spliced_nil ⟨hu, ?_⟩))))
    refine x_super X (fun b o z => Heap.get?_push_of_some _ (K1 b o z)) hu (Heap.get?_push_of_some _ he1) (by show 1 ≤ sizeLine; rw [sizeLine_eq]; omega) fun h' k' e' => ?_
    exact q h' _ _ (fun b o hb z => k' b o hb (Heap.get?_push_of_some _ (k1 b o z))) e'
theorem zip_look {ps : List Str} {us : List Value} {i : Nat} {x : Str} {u : Value} (nd : ps.Nodup) (h1 : ps[i]? = some x) (h2 : us[i]? = some u) : (ps.zip us).reverse.lookup x = some u := NdefX.zip_look nd h1 h2
/-- what the parameters stand for -/
def pvOf (ps : List Str) (vs : List L2.V) : List (Str × L2.V) := ps.zip vs
theorem pv_at : ∀ {ps : List Str} {vs : List L2.V} {x : Str} {v : L2.V}, (pvOf ps vs).lookup x = some v → ∃ i : Nat, ps[i]? = some x ∧ vs[i]? = some v
  | [], _, _, _, h => by cases h
  | _ :: _, [], _, _, h => by cases h
  | p :: ps, a :: vs, x, v, h => by
    unfold pvOf at h
    rw [List.zip_cons_cons, List.lookup_cons] at h
    cases q : (x == p) with
    | true =>
      rw [q] at h
      cases h
      exact ⟨0, by rw [eq_of_beq q]; rfl, rfl⟩
    | false =>
      rw [q] at h
      obtain ⟨i, h1, h2⟩ := pv_at (ps := ps) (vs := vs) h
      exact ⟨i + 1, by simpa using h1, by simpa using h2⟩
/-- C(..): the exception, its dict told -/
theorem x_make {h : Heap} {g : Array GenState} {d : Drawn} {tk : Nat} {os : OsState} {us : List Value} {vs : List L2.V} {fs : List (Str × L2.V)} {Q : Value → Shared → Prop} {mg mb : Str → Option Value} (X : XKl K P C fI cc cda B newId initId bmB fd sn ps xs) (KX : K.In h) (hlim : h.NoLimit) (hroom : A.depth + 1 < recursionLimit)
    (hg : h.Ns mainGlobals mg) (hb : h.Ns builtinsNs mb) (hbb : ∀ x : Str, x ≠ "__name__" → mb x = bootBuiltins x) (hms : mg "super" = none) (r : L2.Vals vs us) (hl : vs.length + 1 = ps.length) (hz : us.length ≤ sizeLine) (hne : xs ≠ [])
    (hfs : ∀ e, ∃ fs', xsGo (pvOf ps (.ref e :: vs)) xs [] = some fs' ∧ ∀ f, fs'.lookup f = fs.lookup f)
    (q : ∀ h' tk' e dx t', (∀ b o, h.get? b = some o → h'.get? b = some o) → h.get? e = none → h.get? dx = none → dx ≠ e → h.objs.size ≤ dx → h'.get? e = some (excObj C t' (some dx) .none) → (∃ mA, h'.Ns1 dx mA ∧ ∀ f, L2.RelO (fs.lookup f) (mA f)) → Q (.ref e) ⟨h', g, d, tk', os⟩) :
    wpAny (model P w) A (call (.ref C) us) Q E ⟨h, g, d, tk, os⟩ := by
  obtain ⟨nm, N', qn, bs, bm, hdct, sn', sub, ab, col, dd, k0, k1, k2, k3, k5, hC, hT⟩ := excInit_of KX X.q
  obtain ⟨oc, od, osl, hlk⟩ := X.lk
  obtain ⟨w1, j, p0, p1, p2, p3, p4, p5, hbd, pl, hev⟩ := X.bd
  have kind : fd.scope.kind = .function := X.kind
  refine wpAny_call (HandSPX.call_own X.FB hT hC (looks_findIn KX X.init) (fun self => bind_fn KX self X.tI) hz ?_)
  -- the new exception
  have kk : ∀ b o, h.get? b = some o → ((h.push (kdv_tup us)).push (HandSPX.excO C h.objs.size)).get? b = some o := fun b o e => Heap.get?_push_of_some _ (Heap.get?_push_of_some _ e)
  have hget : ((h.push (kdv_tup us)).push (HandSPX.excO C h.objs.size)).get? (h.objs.size + 1) = some (excObj C h.objs.size none .none) := by heap_get
  have en : h.get? (h.objs.size + 1) = none := Heap.get?_none_of_le (Nat.le_succ _)
  generalize hE : h.objs.size + 1 = e at *
  generalize hH : (h.push (kdv_tup us)).push (HandSPX.excO C h.objs.size) = h1 at *
  have K1 : K.In h1 := fun b o z => kk b o (KX b o z)
  have up : ∀ {b m}, h.Ns b m → h1.Ns b m := fun {b m} ⟨o, es, ep, ho, r⟩ => ⟨o, es, ep, kk _ _ ho, r⟩
  have hps : (Value.ref e :: us).length = ps.length := by rw [List.length_cons, ← r.length]; exact hl
  have hdep : (A.under (.builtin "type.__call__" ⟨.ref C :: us, []⟩)).depth < recursionLimit := by rw [L2.make_depth]; exact hroom
  refine ks_codeAny_call_defAt (binds := ps.zip (.ref e :: us)) hdep (K1 _ _ hlk) rfl (hlim.keeps kk) (codeRec_of K1 X.qn) hbd (X.bnd _ _ hps) X.nc (fun x hx => (X.loc x.1 (List.of_mem_zip hx).1).1) (fun h2 hns2 k2 => ?_) X.co X.gen kind
  -- the body
  have k12 : ∀ b o, h.get? b = some o → h2.get? b = some o := fun b o z => k2 b o (kk b o z)
  have up2 : ∀ {b m}, h.Ns b m → h2.Ns b m := fun {b m} ⟨o, es, ep, ho, r⟩ => ⟨o, es, ep, k12 _ _ ho, r⟩
  have K2 : K.In h2 := fun b o z => k12 b o (KX b o z)
  have hnd : ∀ {i : Nat} {x : Str} {u : Value}, ps[i]? = some x → (Value.ref e :: us)[i]? = some u → (ps.zip (.ref e :: us)).reverse.lookup x = some u := fun h1 h2 => zip_look X.nd h1 h2
  have hself0 : ps[0]? = some sn := by
    have := X.ps0
    cases hq : ps with
    | nil => rw [hq] at this; cases this
    | cons a r => rw [hq] at this; cases this; rfl
  have hsl := hnd hself0 (u := .ref e) rfl
  have NM : XNm (callEnv fd h1.objs.size fI) h1.objs.size (fun x => (ps.zip (.ref e :: us)).reverse.lookup x) (pvOf ps (.ref e :: vs)) := by
    refine ⟨rfl, kind, fun x v hv => ?_⟩
    obtain ⟨i, h1, h2⟩ := pv_at hv
    obtain ⟨u, hu, ru⟩ := (L2.Vals.get (show L2.Vals (L2.V.ref e :: vs) (Value.ref e :: us) from .cons rfl r) h2)
    exact ⟨(X.loc x (List.mem_of_getElem? h1)).1, ⟨u, hnd h1 hu, ru⟩, (X.loc x (List.mem_of_getElem? h1)).2⟩
  have hselfv : (pvOf ps (.ref e :: vs)).lookup sn = some (.ref e) := by
    have := X.ps0
    cases hq : ps with
    | nil => rw [hq] at this; cases this
    | cons a r =>
      rw [hq] at this
      cases this
      unfold pvOf
      rw [List.zip_cons_cons, List.lookup_cons, beq_self_eq_true]
  obtain ⟨fs', hgo, hlook⟩ := hfs e
  have eL : e ≠ h1.objs.size := Nat.ne_of_lt (Heap.lt_size hget)
  cases xs with
  | nil => exact absurd rfl hne
  | cons x xs =>
    unfold xsGo at hgo
    obtain ⟨v, hv, hgo⟩ := Option.bind_eq_some_iff.mp hgo
    rw [List.map_cons] at hbd ⊢
    refine ks_wpAt_execs_cons (x_first (hev _) X K2 (up2 hg) (up2 hb) hbb hms hns2 hsl (k2 _ _ hget) fun h3 t3 t' k3 he3 => ?_)
    have KE3 : ∀ b o, h.get? b = some o → h3.get? b = some o := fun b o z => k3 b o (fun y => by rw [y, en] at z; cases z) (k12 b o z)
    have hns3 : h3.Ns h1.objs.size (fun x => (ps.zip (.ref e :: us)).reverse.lookup x) := by
      obtain ⟨o, es, ep, ho, r⟩ := hns2
      exact ⟨o, es, ep, k3 _ _ eL.symm ho, r⟩
    refine wpAt_of_wpAny (wpAny_execs_cons (xs_stmt NM hns3 hselfv x hv fun u t4 ru => ?_))
    refine x_set0 (s := ⟨h3, g, d, t4, os⟩) X.SF (fun b o z => KE3 b o (KX b o z)) he3 X.sa X.ov (X.tk x (List.mem_cons_self ..)) X.hd fun h4 t5 dx k4 hdx dne he4 hn4 => ?_
    have few := X.few
    simp only [List.length_cons] at few
    have lt3 : ∀ {b o}, h.get? b = some o → b < h3.objs.size := fun z => Heap.lt_size (KE3 _ _ z)
    have KE4 : ∀ b o, h.get? b = some o → h4.get? b = some o := fun b o z => k4 b o (fun y => by rw [y, en] at z; cases z) (KE3 b o z)
    have nL : dx ≠ h1.objs.size := by
      obtain ⟨o, es, ep, ho, _⟩ := hns3
      exact Nat.ne_of_gt (Nat.lt_of_lt_of_le (Heap.lt_size ho) hdx)
    have dn : h.get? dx = none := by
      cases z : h.get? dx with
      | none => rfl
      | some o => exact absurd (lt3 z) (Nat.not_lt.mpr hdx)
    have dsz : h.objs.size ≤ dx := by
      have z1 : e < h3.objs.size := Heap.lt_size he3
      have z2 : h3.objs.size ≤ dx := hdx
      have z3 : h.objs.size + 1 = e := hE
      exact Nat.le_trans (Nat.le_of_lt (Nat.lt_of_lt_of_le (by omega) z1)) z2
    refine xs_rest (t := t') X.SF X.sa X.ov X.hd NM hselfv xs h4 t5 [(x.f, v)] fs' _ (fun y hy => X.tk y (List.mem_cons_of_mem _ hy)) (by simp only [List.length_cons, List.length_nil]; omega) (fun b o z => KE4 b o (KX b o z)) he4 hn4 (L2.relO_put (fs := []) ru fun _ => trivial) ?_ nL dne hgo (fun b o z y => by
      have := KX b o z
      rw [y, dn] at this
      cases this) fun h5 t6 mA k5 hn5 hr5 => ?_
    · obtain ⟨o, es, ep, ho, r⟩ := hns3
      exact ⟨o, es, ep, k4 _ _ eL.symm ho, r⟩
    · exact ⟨rfl, q h5 t6 e dx t' (fun b o z => k5 b o (fun y => by rw [y, dn] at z; cases z) (KE4 b o z)) en dn dne dsz (k5 _ _ dne.symm he4) ⟨mA, hn5, fun f => by rw [← hlook f]; exact hr5 f⟩⟩
end
end NW
set_option maxHeartbeats 400000
/-! raise C(..). -/
namespace NW
open PySem PySem.Spec PyProof.Rows L2

/-- the attributes: a text, or an argument by its number -/
abbrev XSpec := List (Str × (Str ⊕ Nat))
def xGoD (ds : List D) : XSpec → List (Str × D) → Option (List (Str × D))
  | [], acc => some acc
  | (f, .inl x) :: r, acc => xGoD ds r ((f, .str x) :: acc)
  | (f, .inr i) :: r, acc => ds[i]?.bind fun d => xGoD ds r ((f, d) :: acc)
def xmB (ps : List Str) : List XS → XSpec → Bool
  | [], [] => true
  | x :: xs, (f, s) :: r => decide (x.f = f) && (match x.v, s with
    | .str y _ _, .inl z => decide (y = z)
    | .nam y _, .inr i => decide (ps[i + 1]? = some y)
    | _, _ => false) && xmB ps xs r
  | _, _ => false
theorem zip_at {ps : List Str} {vs : List V} {i : Nat} {x : Str} {v : V} (nd : ps.Nodup) (h1 : ps[i]? = some x) (h2 : vs[i]? = some v) : (pvOf ps vs).lookup x = some v := by
  unfold pvOf
  induction ps generalizing vs i with
  | nil => simp at h1
  | cons p ps ih =>
    cases vs with
    | nil => simp at h2
    | cons a vs =>
      rw [List.zip_cons_cons, List.lookup_cons]
      cases i with
      | zero =>
        simp at h1 h2
        subst h1; subst h2
        rw [beq_self_eq_true]
      | succ i =>
        have nd' := List.nodup_cons.mp nd
        have h1' : ps[i]? = some x := by simpa using h1
        have ne : (x == p) = false := by
          cases q : (x == p) with
          | false => rfl
          | true => exact absurd (eq_of_beq q ▸ List.mem_of_getElem? h1') nd'.1
        rw [ne]
        exact ih nd'.2 h1' (by simpa using h2)
theorem xgo_of {Γ : Gam} {w : W} {ps : List Str} {ds : List D} {vs : List V} (nd : ps.Nodup) (r : RepL Γ w ds vs) : ∀ (xs : List XS) (sp : XSpec) (acc fsD : List (Str × D)) (accV : List (Str × V)), xmB ps xs sp = true → xGoD ds sp acc = some fsD → accV.map (·.1) = acc.map (·.1) → RepL Γ w (acc.map (·.2)) (accV.map (·.2)) →
    ∃ fs, (∀ e, xsGo (pvOf ps (.ref e :: vs)) xs accV = some fs) ∧ fs.map (·.1) = fsD.map (·.1) ∧ RepL Γ w (fsD.map (·.2)) (fs.map (·.2))
  | [], [], acc, fsD, accV, _, h, hn, hr => by
    cases h
    exact ⟨accV, fun _ => rfl, hn, hr⟩
  | [], _ :: _, _, _, _, hm, _, _, _ => by simp [xmB] at hm
  | _ :: _, [], _, _, _, hm, _, _, _ => by simp [xmB] at hm
  | x :: xs, (f, s) :: sp, acc, fsD, accV, hm, h, hn, hr => by
    unfold xmB at hm
    rw [Bool.and_eq_true, Bool.and_eq_true] at hm
    obtain ⟨⟨h1, h2⟩, h3⟩ := hm
    have h1 := of_decide_eq_true h1
    cases s with
    | inl z =>
      cases hv : x.v with
      | str y jj pp =>
        rw [hv] at h2
        have h2 := of_decide_eq_true h2
        subst h2
        unfold xGoD at h
        obtain ⟨fs, a, b, c⟩ := xgo_of nd r xs sp _ fsD ((x.f, .str y) :: accV) h3 h (by simp [h1, hn]) (.cons (.str y) hr)
        refine ⟨fs, fun e => ?_, b, c⟩
        unfold xsGo
        rw [hv]
        exact a e
      | nam y pp => rw [hv] at h2; cases h2
    | inr i =>
      cases hv : x.v with
      | str y jj pp => rw [hv] at h2; cases h2
      | nam y pp =>
        rw [hv] at h2
        have h2 := of_decide_eq_true h2
        unfold xGoD at h
        obtain ⟨d, hd, h⟩ := Option.bind_eq_some_iff.mp h
        obtain ⟨v, hv2, rv⟩ := r.get hd
        obtain ⟨fs, a, b, c⟩ := xgo_of nd r xs sp _ fsD ((x.f, v) :: accV) h3 h (by simp [h1, hn]) (.cons rv hr)
        refine ⟨fs, fun e => ?_, b, c⟩
        unfold xsGo
        rw [hv]
        have : (XV.nam y pp).val (pvOf ps (.ref e :: vs)) = some v := zip_at nd h2 (by simpa using hv2)
        rw [this]
        exact a e
/-- an own exception's class in the derivations -/
structure XCl (K : PySem.W.Frag) (P : Program) (C : Addr) (n : Nat) (sp : XSpec) : Prop where
  ex : ∃ fI cc cda B newId initId bmB fd sn ps xs, XKl K P C fI cc cda B newId initId bmB fd sn ps xs ∧ xmB ps xs sp = true ∧ ps.length = n + 1 ∧ xs ≠ [] ∧ n ≤ 100
section
variable {X : Cx} {Γ : Gam} {B : Bs} {Wx : WX} {RT : RTT} {k j n : Nat} {e : Expr} {es : List Expr} {ml : M (List D)} {pos p : Pos} {C : Addr} {x : Str} {sp : XSpec}
theorem run_x {pins : List (Addr × Obj)} {σ : Sl} {H : Hp} {s : Shared} {us : List Value} {vs : List V} {ds : List D} {w : W} {z : Z} {fsD : List (Str × D)} {Q : XK} (V : Dv Γ X Wx j) (c : XCl X.K X.prog C n sp) (hms : X.mg "super" = none) (I : Inv X pins σ H s) (r : Vals vs us) (I0 : WI Γ w z H) (rd : RepL Γ w ds vs) (hl : ds.length = n) (hx : xGoD ds sp [] = some fsD)
    (q : ∀ dx fvs, H dx = none → fvs.map (·.1) = fsD.map (·.1) → RepL Γ w (fsD.map (·.2)) (fvs.map (·.2)) → Q (.ref C) (some dx) (upd H dx (.xd fvs))) : wpAny (model X.prog X.w) X.A (call (.ref C) us) (MkP X pins σ Q) X.xe s := by
  obtain ⟨fI, cc, cda, B', newId, initId, bmB, fd, sn, ps, xs, XX, hm, hps, hne, hn⟩ := c.ex
  obtain ⟨fs, h1, h2, h3⟩ := xgo_of XX.nd rd xs sp [] fsD [] hm hx rfl .nil
  obtain ⟨mb, hmb, hbb⟩ := I.mod.blt
  have hv : vs.length = n := rd.length.trans hl
  have hr := V.room.dp
  obtain ⟨hp0, g, d, tk, os⟩ := s
  have up : ∀ {b m}, X.base.Ns b m → hp0.Ns b m := fun {b m} ⟨o, es, ep, ho, r⟩ => ⟨o, es, ep, I.bk _ _ ho, r⟩
  refine x_make (fs := fs) XX I.kIn I.nolimit (by omega) (up I.mod.glob) (up hmb) hbb hms r (by omega) (by rw [← r.length, sizeLine_eq]; omega) hne (fun a => ⟨fs, h1 a, fun _ => rfl⟩) fun h' tk' a dx t' kk en dn dne dsz he ⟨mA, hns, hrel⟩ => ?_
  obtain ⟨G, g1, g2⟩ := restrict h' fun b => decide (b ≠ a)
  have gk : ∀ b, b ≠ a → G.get? b = h'.get? b := fun b hb => g1 b (decide_eq_true hb)
  have ga : G.get? a = none := g2 a (decide_eq_false fun z => z rfl)
  have hd : H dx = none := I.hok.fresh dsz
  have ha : H a = none := I.hok.gone en
  have J : Inv X pins σ (upd H dx (.xd fs)) ⟨G, g, d, tk', os⟩ := I.laid (a := dx) (o := .xd fs) (h' := G) (t' := tk') (fun b u z => by
    rw [gk b (fun y => by rw [y] at z; rw [show hp0.get? a = none from en] at z; cases z)]
    exact kk b u z) dsz ⟨mA, hns.at fun o z => (gk dx dne).trans z, hrel⟩
  exact ⟨a, _, _, ⟨G, g, d, tk', os⟩, _, .ref C, some dx, rfl, J, fun b o z => (by
    have hb : b ≠ a := fun y => by rw [y, ga] at z; cases z
    exact (gk b hb).symm.trans z), ga, he, ⟨rfl, rfl⟩, rfl, rfl, by rw [upd_ne dne.symm]; exact ha, rfl, I.bare, raises_own XX.exC XX.tyC, q dx fs hd h2 h3⟩
def sRaise (c n : Nat) (sp : XSpec) (ml : M (List D)) : MS := fun ρ z => (ml ρ z).to ρ fun ds z1 => if ds.length = n then (match xGoD ds sp [] with
  | some fs => .exc ⟨c, fs⟩ ρ z1
  | none => .bad) else .bad
theorem raise_to (c : Nat) {D0 : Ends} {σ : Sl} {H : Hp} {w : W} {ρ : En} {z : Z} {ds : List D} (S : SI Γ B w ρ z σ H) (q : srTo Γ B Wx RT w D0 (if ds.length = n then (match xGoD ds sp [] with
  | some fs => .exc ⟨c, fs⟩ ρ z
  | none => .bad) else .bad)) : ds.length = n ∧ ∃ fsD, xGoD ds sp [] = some fsD ∧ ∀ dx fvs, H dx = none → fvs.map (·.1) = fsD.map (·.1) → RepL Γ w (fsD.map (·.2)) (fvs.map (·.2)) → Wx (.ref (Γ.cls c)) (some dx) σ (upd H dx (.xd fvs)) := by
  split at q
  · rename_i hl
    refine ⟨hl, ?_⟩
    cases hx : xGoD ds sp [] with
    | none => rw [hx] at q; exact q.elim
    | some fs =>
      rw [hx] at q
      refine ⟨fs, rfl, fun dx fvs hd hn hr => ?_⟩
      obtain ⟨I2, s2⟩ := S.wi.new (o := .xd fvs) hd
      exact q _ _ σ _ _ (S.carry I2 s2) ⟨rfl, dx, fvs, rfl, upd_same, upd_same, hn, hr.step s2⟩
  · exact q.elim
theorem pmk_x (V : Dv Γ X Wx j) (c : Nat) (T : XCl X.K X.prog (Γ.cls c) n sp) (hm : X.mg x = some (.ref (Γ.cls c))) (hms : X.mg "super" = none) (kC : PySem.W.keepIn X.K (.ref (Γ.cls c)) = true) (ha : PA X (e :: es) (tDA Γ B Wx ml)) (hg : Gl X x) (hdb : (x == ("__debug__" : Str)) = false)
    (he : starEach (e :: es) X.env = (false, eval e X.env) :: starEach es X.env) (hpl : (backTo pos (starEach es X.env)).any (·.1) = false) :
    PMk X (.Call (.Name x p) (e :: es) [] pos) (fun σ H Q => ∃ w ρ z, SI Γ B w ρ z σ H ∧ resTo Γ B Wx w ρ σ H (ml ρ z) fun ds w' z' H' => ds.length = n ∧ ∃ fsD, xGoD ds sp [] = some fsD ∧ ∀ dx fvs, H' dx = none → fvs.map (·.1) = fsD.map (·.1) → RepL Γ w' (fsD.map (·.2)) (fvs.map (·.2)) → Q (.ref (Γ.cls c)) (some dx) (upd H' dx (.xd fvs))) := by
  intro pins s σ H Q I ⟨w, ρ, z, S, q⟩
  refine wpAny_Call_Name_kw (ld_glob I hg hm ?_ hdb)
  refine PySem.W.callWith_K (h₀ := X.base) I.ok.mod.kin kC (thn (ha.run pos pins s σ H (fun vs H1 => ∃ w' z' ds, WI Γ w' z' H1 ∧ RepL Γ w' ds vs ∧ ds.length = n ∧ ∃ fsD, xGoD ds sp [] = some fsD ∧ ∀ dx fvs, H1 dx = none → fvs.map (·.1) = fsD.map (·.1) → RepL Γ w' (fsD.map (·.2)) (fvs.map (·.2)) → Q (.ref (Γ.cls c)) (some dx) (upd H1 dx (.xd fvs))) I ⟨w, ρ, z, S, q.mono fun ds w1 z1 H1 S1 _ ⟨hl, fsD, hx, q1⟩ vs rvs => ⟨w1, z1, ds, S1.wi, rvs, hl, fsD, hx, q1⟩⟩) fun us s1 ⟨vs, H1, I1, r, w1, z1, ds, W1, rd, hl, fsD, hx, q1⟩ => ⟨I1.kIn, ?_⟩) he hpl
  exact run_x V T hms I1 r W1 rd hl hx q1
theorem s_raise (c : Nat) (V : Dv Γ X Wx j) (T : XCl X.K X.prog (Γ.cls c) n sp) (hm : X.mg x = some (.ref (Γ.cls c))) (hms : X.mg "super" = none) (kC : PySem.W.keepIn X.K (.ref (Γ.cls c)) = true) (ha : PA X (e :: es) (tDA Γ B Wx ml)) {rpos : Pos} (hg : Gl X x := by rfl) (hdb : (x == ("__debug__" : Str)) = false := by decide)
    (he : starEach (e :: es) X.env = (false, eval e X.env) :: starEach es X.env := by rfl) (hpl : (backTo pos (starEach es X.env)).any (·.1) = false := by rfl) : DS X Γ B Wx RT (.Raise (some (.Call (.Name x p) (e :: es) [] pos)) none rpos) (sRaise c n sp ml) :=
  ps_weak (ps_raise V.calm V.tk (pmk_x V c T hm hms kC ha hg hdb he hpl)) fun D0 σ H ⟨w, ρ, z, S, q⟩ => ⟨w, ρ, z, S, q.to.mono fun ds w1 z1 H1 _ _ ⟨S1, s1, q1⟩ => raise_to c S1 q1⟩
end
end NW
set_option maxHeartbeats 1000000
/-! try: .. except (C1, C2) as n: .., where the body raises nothing else. -/
namespace NW
open PySem PySem.Spec PyProof.Rows L2

theorem flyZ_keep {B h h' : Heap} {l : List Env} {e : Addr} {P : Obj → Prop} (R : HandSPX.FlyingZ B l e P h) (k : ∀ b o, h.get? b = some o → h'.get? b = some o) : HandSPX.FlyingZ B l e P h' := by
  obtain ⟨f1, f2, f3, oe, vs, T, oT, ts, g1, g2, g3, g4, g5, g6, g7, g8, g9⟩ := R
  exact ⟨fun b o q => k b o (f1 b o q), f2, f3.of_keeps fun b o q _ => ⟨o, k b o q, rfl⟩, oe, vs, T, oT, ts, k _ _ g1, g2, g3, g4, g5, g6, k _ _ g7, g8, g9⟩
/-- what the clause wishes of an exception of the body; slot i is n's -/
def wAs2 (K : PySem.W.Frag) (c1 c2 : Value) (i : Nat) (ts : Addr → Value → Option Addr → TS) (D : Ends) : WX := fun cls d σ H =>
  PySem.W.exmAny K cls [c1, c2] = some true ∧ ∀ a, H a = none → ts a cls d { nx := fun σ' H' => D.nx (σ'.set i none) H', rt := D.rt, bk := fun σ' H' => D.bk (σ'.set i none) H', ct := fun σ' H' => D.ct (σ'.set i none) H' } (σ.set i (some (.ref a))) H
section
variable {X : Cx} {x1 x2 n : Str} {c1 c2 : Value} {i kk : Nat} {body suite : List Stmt} {b₀ : Stmt} {np1 np2 tpos pos pos' : Pos} {tb : WX → TS} {ts : Addr → Value → Option Addr → TS}
theorem ps_try_as2 (hs : X.stack = X.env :: X.outer) (hf : X.env.frame = some X.env.locals) (hN : X.N.Nodup) (hi : X.N[i]? = some n) (hln : X.env.kindOf n = some .local) (n1 : Names X x1 c1) (n2 : Names X x2 c2)
    (hb : ∀ (W : WX) (pn : List (Addr × Obj)) (xe : Value → Shared → Prop), Takes (X.tr pn xe) W → PassesOwn (model X.prog X.w) X.A X.env xe → PSs (X.tr pn xe) body (tb W))
    (hsu : ∀ (a : Addr) (oe : Obj) (cls : Value) (d : Option Addr) (pn : List (Addr × Obj)), Zc cls d oe → (∃ vs, oe.data = .fields vs) → PSs (X.suite a ((a, oe) :: pn)) (b₀ :: suite) (ts a cls d)) :
    PS X (.Try body [.ExceptHandler (some (.Tuple [.Name x1 np1, .Name x2 np2] kk tpos)) (some n) (b₀ :: suite) pos'] [] [] pos) (fun D σ H => tb (wAs2 X.K c1 c2 i ts D) D σ H) := by
  refine ⟨fun pins s σ H D I h => ?_⟩
  have ok := I.ok
  have hfr : X.A.frames = some (X.env :: X.outer) := by rw [ok.frames, hs]
  refine wpAny_Try_except (wpAny_mono ((hb (wAs2 X.K c1 c2 i ts D) (X.pn ++ pins) _ (fun u s' xx => ?_) PassesOwn.looking).run [] s σ H D (I.toTry _) h) (fun f s1 hsp => ?_) (fun e s1 he => he))
  · obtain ⟨a, B, sI, pins', σ', H', cls, d, rfl, J', nb, up, sky, na, os, ag, hm, hyes⟩ := xx
    have J : Inv X pins σ' H' sI := J'.ofTry ok
    show wpAny (model X.prog X.w) X.A (noteFrame (.ref a) X.env) _ _ _
    refine Sky.land Zc.steady hfr hf (show Sky B (X.env :: X.outer) a (Zc cls d) X.env.locals s'.heap by rw [← hs]; exact sky) fun h3 fl3 up3 => ?_
    have J3 : Inv X pins σ' H' { s' with heap := h3 } := J.landed nb fl3.1 (up.trans up3) os ag
    obtain ⟨oe3, vs3, he3, hz3, hd3⟩ := fl3.there
    have nfr : a ∉ frs (X.env :: X.outer) := fun hin => by
      obtain ⟨_, o', e', hnf⟩ := fl3.2.2.1.mem hin
      rw [he3] at e'; cases e'
      exact hnf _ hd3
    have nL : a ≠ X.env.locals := fun z => nfr (List.mem_filterMap.mpr ⟨X.env, List.mem_cons_self, by rw [hf, z]⟩)
    have nF : a ∉ X.fs := fun hin => by
      obtain ⟨e, he, q⟩ := List.mem_filterMap.mp hin
      exact nfr (List.mem_filterMap.mpr ⟨e, List.mem_cons_of_mem _ he, q⟩)
    have S3 := J3.suite he3 hd3 na nL nF
    refine wpAny_handleBy_cons (codeAny_handlers_test ?_) (by intro q; cases q)
    have LT : PySem.W.Looks (model X.prog X.w) h3 (typeOf (.ref a)) cls := fun A Q E s k q => wpAny_typeOf_ref (k _ _ he3) (by rw [hz3.1]; exact q)
    have named : ∀ {x : Str} {c : Value} {np : Pos} {Q : Value → Shared → Prop} {E : Value → Shared → Prop}, Names X x c → Q c { s' with heap := h3 } → wpAny (model X.prog X.w) (X.A.mark (some (.ref a))) (eval (.Name x np) X.env) Q E { s' with heap := h3 } := fun {x c np Q E} hc q => by
      obtain ⟨hg, hdbg, hm | ⟨hm, hv, hnn⟩⟩ := hc
      · exact ld_glob (X := X.suite a ((a, oe3) :: (X.pn ++ pins))) S3 hg hm q hdbg
      · exact ld_blt (X := X.suite a ((a, oe3) :: (X.pn ++ pins))) S3 hg hm hv q hnn hdbg
    refine wpAny_Tuple (wpAny_items_cons (named n1 (wpAny_items_cons (named n2 (wpAny_items_nil ⟨by show 2 ≤ sizeLine; rw [sizeLine_eq]; omega, ?_⟩)))))
    have kp : ∀ q o, h3.get? q = some o → (h3.push { cls := .type "tuple", data := .seq [c1, c2].toArray }).get? q = some o := fun _ _ z => Heap.get?_push_of_some _ z
    refine (PySem.W.exm_tup2 (J3.kIn.keeps kp) (LT.keeps kp) (Heap.get?_push_size h3 rfl) hm).here ?_
    have up4 : h3.UpToSlots (h3.push { cls := .type "tuple", data := .seq [c1, c2].toArray }) := Heap.UpToSlots.of_keeps kp
    refine codeAny_handlers_suite_as (HandSPX.lands_againZ (flyZ_keep fl3 kp) fun h4 fl4 up5 => ?_)
    have J4 : Inv X pins σ' H' { s' with heap := h4 } := J.landed nb fl4.1 (((up.trans up3).trans up4).trans up5) os ag
    obtain ⟨oe4, vs4, he4, hz4, hd4⟩ := fl4.there
    refine store_ok (X := X.suite a ((a, oe4) :: (X.pn ++ pins))) (v := .ref a) (J4.suite he4 hd4 na nL nF) hN hi (.inl hln) rfl (fun s5 S5 => ?_) (.inr hln)
    refine wpAny_mono ((hsu a oe4 cls d (X.pn ++ pins) hz4 ⟨_, hd4⟩).run [] s5 _ H' _ S5 (hyes a na)) (fun f s6 hsp => ?_) (fun _ _ z => False.elim z)
    have fin : ∀ {σ6 : Sl} {H6 : Hp} {Q : Shared → Prop}, Inv (X.suite a ((a, oe4) :: (X.pn ++ pins))) [] σ6 H6 s6 → (∀ s7, Inv X pins (σ6.set i none) H6 s7 → Q s7) →
        wpAny (model X.prog X.w) X.A (do bindName X.env n .none; unbindBehindTheSuite X.env n pos') (fun _ s7 => Q s7) X.xe s6 := fun S6 hq => gone_ok (S6.unsuite ok) hN hi hln hq
    cases f with
    | next => obtain ⟨_, _, S6, q6⟩ := hsp; exact fin S6 fun _ J7 => ⟨_, _, J7, q6⟩
    | brk => obtain ⟨_, _, S6, q6⟩ := hsp; exact fin S6 fun _ J7 => ⟨_, _, J7, q6⟩
    | cont => obtain ⟨_, _, S6, q6⟩ := hsp; exact fin S6 fun _ J7 => ⟨_, _, J7, q6⟩
    | ret u => obtain ⟨_, _, _, S6, r6, q6⟩ := hsp; exact fin S6 fun _ J7 => ⟨_, _, _, J7, r6, q6⟩
  · cases f with
    | next => obtain ⟨_, _, J', q⟩ := hsp; exact wpAny_execs_nil ⟨_, _, J'.ofTry ok, q⟩
    | brk => obtain ⟨_, _, J', q⟩ := hsp; exact ⟨_, _, J'.ofTry ok, q⟩
    | cont => obtain ⟨_, _, J', q⟩ := hsp; exact ⟨_, _, J'.ofTry ok, q⟩
    | ret u => obtain ⟨_, _, _, J', r, q⟩ := hsp; exact ⟨_, _, _, J'.ofTry ok, r, q⟩
end
end NW
set_option maxHeartbeats 1000000
/-! Within an except clause: the exception's attributes; a def that is given the exception. -/
namespace NW
open PySem PySem.Spec PyProof.Rows L2

/-- the exceptions that B knows of are pinned -/
def PxOk (B : Bs) (X : Cx) : Prop := ∀ a cls dx, B.px a cls dx → ∃ oe, (a, oe) ∈ X.pn ∧ Zc cls (some dx) oe ∧ ∃ vs, oe.data = .fields vs
/-- classes whose instances' attribute f is their own -/
def XfL (K : PySem.W.Frag) (cls : Nat → Addr) (cs : List Nat) (f : Str) : Prop := ∀ c ∈ cs, XfC K (cls c) ∧ PySem.W.findIn K (.ref (cls c)) f = some none
def mXf (cs : List Nat) (i : Nat) (f : Str) : M D := fun ρ z => match ρ[i]? with
  | some (some (.exn x)) => if x.c ∈ cs then (match x.fs.lookup f with
    | some d => .ok d z
    | none => .bad) else .bad
  | _ => .bad
section
variable {X : Cx} {Γ : Gam} {B : Bs} {Wx : WX} {RT : RTT} {k j n : Nat} {a b e : Expr} {es : List Expr} {m ma mb : M D} {ml : M (List D)} {pos : Pos} {f x : Str}
theorem d_xf (cs : List Nat) (i : Nat) {np : Pos} (hK : X.K = Γ.K) (hpx : PxOk B X) (hf : XfL Γ.K Γ.cls cs f) (hN : X.N[i]? = some x := by rfl) (hv : Vis X.env.scope x := by first | exact Or.inl rfl | exact Or.inr (Or.inl rfl) | exact Or.inr (Or.inr rfl)) (hd : (x == ("__debug__" : Str)) = false := by decide)
    (hcd : (x == ("__classdict__" : Str)) = false := by decide) (hb : attributeBase (.Name x np) f X.env (eval (.Name x np) X.env) = eval (.Name x np) X.env := by rfl) : PE X (.Attribute (.Name x np) f pos) (tD Γ B Wx (mXf cs i f)) := by
  refine ⟨fun pins s σ H Q I ⟨w, ρ, z, S, q⟩ => ?_⟩
  unfold mXf at q
  split at q
  · rename_i xx hx
    obtain ⟨a, dx, fvs, h1, h2, h3, h4, h5⟩ := S.exn i xx hx
    by_cases hc : xx.c ∈ cs
    · rw [if_pos hc] at q
      cases hl : xx.fs.lookup f with
      | none => rw [hl] at q; exact q.elim
      | some d =>
        rw [hl] at q
        obtain ⟨T, hno⟩ := hf _ hc
        rw [← hK] at T hno
        refine attr_of hb (thn ((pe_var (pos := np) hN hv hd hcd).run pins s σ H (fun v H1 => v = .ref a ∧ H1 = H) I ⟨_, h1, rfl, rfl⟩) fun u s1 ⟨v, H1, I1, rx, e1, e2⟩ => ?_)
        subst e1
        rw [e2] at I1
        cases rx
        obtain ⟨oe, hm, hz, vs, hd'⟩ := hpx _ _ _ h2
        obtain ⟨ha, _⟩ := I1.pin (a, oe) (List.mem_append_left _ hm)
        have ho : ObjOk X.prog X.w H s1.heap dx (.xd fvs) := I1.hok dx _ (S.wi.le _ _ h3)
        obtain ⟨mA, hns, hr⟩ := ho
        obtain ⟨od, ho, hlk⟩ := lookIn_ns hns
        obtain ⟨v, hv1, rv⟩ := look_rep h4 h5 hl
        obtain ⟨u, hu, ru⟩ := RelO.some_of (v := v) (o := mA f) (by rw [← hv1]; exact hr f)
        have J : PySem.W.InstAt s1.heap a oe (Γ.cls xx.c) (some od) := ⟨ha, hz.1, by unfold PySem.W.notCls; rw [hd'] <;> rfl, by rw [hz.2]; exact ho⟩
        exact HandSPX.exc_get I1.kIn J T.ga T.gg T.exC (PySem.W.findObj_own T.hdC hno rfl (by rw [hlk, hu])) (handed_of ru) ⟨v, H, I1.tok _, ru, q.ok S v rv⟩
    · rw [if_neg hc] at q; exact q.elim
  · exact q.elim

/-! ### a def whose first argument is the exception -/
def startX (n : Nat) (x : XD) (ds : List D) : En := some (.exn x) :: (ds.map (fun d => some (.sh d)) ++ List.replicate (n - (ds.length + 1)) none)
def runBX (n : Nat) (ms : MS) : XD → FM := fun x ds z => endR (ms (startX n x ds) z)
/-- where the exception stands, what is known of it -/
structure XAt (Γ : Gam) (w : W) (x : XD) (a dx : Addr) (oe : Obj) : Prop where
  zc : Zc (.ref (Γ.cls x.c)) (some dx) oe
  fd : ∃ vs, oe.data = .fields vs
  at_ : ∃ fvs, w.R dx = some (.xd fvs) ∧ fvs.map (·.1) = x.fs.map (·.1) ∧ RepL Γ w (x.fs.map (·.2)) (fvs.map (·.2))
abbrev bsx (Γ : Gam) (w : W) (H : Hp) (x : XD) (a dx : Addr) : Bs := ⟨w, H, fun b cls d => b = a ∧ cls = .ref (Γ.cls x.c) ∧ d = dx⟩
theorem SI.startX {w : W} {z : Z} {H : Hp} {N : List Str} {ds : List D} {vs : List V} {x : XD} {a dx : Addr} {oe : Obj} (I : WI Γ w z H) (xa : XAt Γ w x a dx oe) (r : RepL Γ w ds vs) : SI Γ (bsx Γ w H x a dx) w (NW.startX N.length x ds) z (L2.start N (.ref a :: vs)) H where
  wi := I
  st := .refl _ _
  len := by unfold NW.startX L2.start; simp [r.length]
  sh := fun i d h => by
    unfold NW.startX at h
    cases i with
    | zero => simp at h
    | succ i =>
      simp only [List.getElem?_cons_succ] at h
      by_cases hi : i < ds.length
      · rw [List.getElem?_append_left (by simpa using hi), List.getElem?_map] at h
        obtain ⟨d', h1, h2⟩ := Option.map_eq_some_iff.mp h
        cases h2
        obtain ⟨v, h3, h4⟩ := r.get h1
        refine ⟨v, ?_, h4⟩
        unfold L2.start
        rw [List.map_cons, List.cons_append, List.getElem?_cons_succ, List.getElem?_append_left (by rw [List.length_map, r.length]; exact hi), List.getElem?_map, h3]
        rfl
      · rw [List.getElem?_append_right (by simpa using hi), List.getElem?_replicate] at h
        split at h <;> cases h
  own := fun i o h => by
    unfold NW.startX at h
    cases i with
    | zero => simp at h
    | succ i =>
      simp only [List.getElem?_cons_succ] at h
      by_cases hi : i < ds.length
      · rw [List.getElem?_append_left (by simpa using hi), List.getElem?_map] at h
        obtain ⟨d', h1, h2⟩ := Option.map_eq_some_iff.mp h
        cases h2
      · rw [List.getElem?_append_right (by simpa using hi), List.getElem?_replicate] at h
        split at h <;> cases h
  dis := fun i j o u c h => by
    intro h2
    unfold NW.startX at h
    cases i with
    | zero => simp at h
    | succ i =>
      simp only [List.getElem?_cons_succ] at h
      by_cases hi : i < ds.length
      · rw [List.getElem?_append_left (by simpa using hi), List.getElem?_map] at h
        obtain ⟨d', h1, h2⟩ := Option.map_eq_some_iff.mp h
        cases h2
      · rw [List.getElem?_append_right (by simpa using hi), List.getElem?_replicate] at h
        split at h <;> cases h
  exn := fun i y h => by
    unfold NW.startX at h
    cases i with
    | zero =>
      simp at h
      subst h
      obtain ⟨fvs, h1, h2, h3⟩ := xa.at_
      exact ⟨a, dx, fvs, by unfold L2.start; rfl, ⟨rfl, rfl, rfl⟩, h1, h2, h3⟩
    | succ i =>
      simp only [List.getElem?_cons_succ] at h
      by_cases hi : i < ds.length
      · rw [List.getElem?_append_left (by simpa using hi), List.getElem?_map] at h
        obtain ⟨d', h1, h2⟩ := Option.map_eq_some_iff.mp h
        cases h2
      · rw [List.getElem?_append_right (by simpa using hi), List.getElem?_replicate] at h
        split at h <;> cases h
  fnv := fun i o h => by
    unfold NW.startX at h
    cases i with
    | zero => simp at h
    | succ i =>
      simp only [List.getElem?_cons_succ] at h
      by_cases hi : i < ds.length
      · rw [List.getElem?_append_left (by simpa using hi), List.getElem?_map] at h
        obtain ⟨d', h1, h2⟩ := Option.map_eq_some_iff.mp h
        cases h2
      · rw [List.getElem?_append_right (by simpa using hi), List.getElem?_replicate] at h
        split at h <;> cases h
end
/-- what such a def promises -/
structure FnX (P : Program) (w : World) (K : PySem.W.Frag) (mg : Str → Option Value) (base : Heap) (Γ : Gam) (k n : Nat) (f : Addr) (fd : FuncData) (ps : List Str) (F : XD → FM) : Prop where
  len : ps.length = n + 1
  run : ∀ (A : Around) (outer : List Env) (s : Shared) (H : Hp) (args : Args) (us : List Value) (vs : List V) (Q : VK) (E : XK) (a dx : Addr) (oe : Obj) (x : XD) (w0 : W) (z : Z) (ds : List D), L2H.RoomH k A → A.guards = some [] → L2H.PinOk outer H s (a, oe) → Env0 P w K mg base A outer s H →
    BindsTo s fd args (ps.zip (.ref a :: us)) → Vals vs us → XAt Γ w0 x a dx oe → WI Γ w0 z H → RepL Γ w0 ds vs → ds.length = n → fnTo Γ (RTn Γ) w0 H (F x ds z) Q E →
    codeAny (model P w) A (.call (.ref f) args) (CR (L2.CX P w) outer P w H s Q E) s
section
variable {P : Program} {w : World} {K : PySem.W.Frag} {mg : Str → Option Value} {base : Heap} {cls : Nat → Addr} {tb : List (Addr × Str)}
abbrev CxX (P : Program) (w : World) (K : PySem.W.Frag) (mg : Str → Option Value) (base : Heap) (N : List Str) (qual : Str) (st : Stmt) (f : Addr) (cdv : Value) (A : Around) (outer : List Env) (s : Shared) (H : Hp) (E : XK) (p : Addr × Obj) : Cx :=
  L2H.cxH (L2.CX P w) P w K mg base N qual (defScope st) f cdv A outer s H E p
/-- what a derivation stands on there -/
structure DvX (Γ : Gam) (B : Bs) (X : Cx) : Prop where
  hK : X.K = Γ.K
  nd : X.N.Nodup
  hu : X.A.units + 64 < cLine
  px : PxOk B X
theorem fn_x {x qual : Str} {st : Stmt} {f : Addr} {fd : FuncData} {N ps : List Str} {k n : Nat} {ms : MS} (F : Fun K x qual st f fd) (S : FnScope N ps (defScope st)) (hl : ps.length = n + 1)
    (hbody : ∀ (cdv : Value) (A : Around) (outer : List Env) (s : Shared) (H : Hp) (E : XK) (p : Addr × Obj) (B : Bs), DvX ⟨K, cls, tb⟩ B (CxX P w K mg base N qual st f cdv A outer s H E p) →
      DSs (CxX P w K mg base N qual st f cdv A outer s H E p) ⟨K, cls, tb⟩ B (WxE E) (RTn ⟨K, cls, tb⟩) (defBody st) ms) : FnX P w K mg base ⟨K, cls, tb⟩ (k + 1) n f fd ps (runBX N.length ms) := by
  obtain ⟨oc, od, kV, doc, pm, an, cdv, ct, osl, rfl, lk, hcd⟩ := F.ex
  refine ⟨hl, fun A outer s H args us vs Q E a dx oe x w0 z ds hr hg hpin e0 hb r xa I rd hn hq => ?_⟩
  have KX : K.In s.heap := e0.mod.kin.keeps fun b o e => (e0.bs b o e).1
  have lim : s.heap.NoLimit := e0.mod.nolimit.keeps fun b o e => (e0.bs b o e).1
  have hkind : ∀ y ∈ ps.zip (.ref a :: us), (defScope st).names.lookup y.1 = some .local ∨ ((defScope st).names.lookup y.1 = some .cell ∧ ((cellsFrom (s.heap.objs.size + 1) (defScope st).names []).lookup y.1).isSome = true) := fun ⟨n, v⟩ hy => by
    rcases S.par n (List.of_mem_zip hy).1 with q | q
    · exact .inl q
    · exact .inr ⟨q, PySem.W.cellsFrom_some _ _ _ (.inl q)⟩
  refine codeAny_call_function hr.depth (KX _ _ lk) rfl S.co S.gen rfl (PySem.W.codeRec_of KX hcd) (hb _ _ _ _ (wpAny_newFunctionEnv_cells S.kind hkind fun env he s1 hx => ?_))
  subst he
  refine ⟨lim.keeps hx.toInCall.keep, codeAny_func ?_⟩
  have r2 : Vals (V.ref a :: vs) (Value.ref a :: us) := .cons rfl r
  have J : Inv (CxX P w K mg base N qual st f cdv A outer s H E (a, oe)) [] (L2.start N (.ref a :: vs)) H s1 := L2H.inv_startH S hpin e0 (by rw [List.length_cons, rd.length, hn, hl]) r2 hx
  have V : DvX ⟨K, cls, tb⟩ (bsx ⟨K, cls, tb⟩ w0 H x a dx) (CxX P w K mg base N qual st f cdv A outer s H E (a, oe)) := ⟨rfl, S.nd, by have := (hr.deeper (envOfC qual (defScope st) s.heap.objs.size f cdv)).un; show (A.deeper _).units + 64 < _; omega, fun b c d ⟨h1, h2, h3⟩ => ⟨oe, by rw [h1]; exact List.mem_singleton.mpr rfl, by rw [h2, h3]; exact xa.zc, xa.fd⟩⟩
  have hd := hbody cdv A outer s H E (a, oe) (bsx ⟨K, cls, tb⟩ w0 H x a dx) V
  have hs0 : SI ⟨K, cls, tb⟩ (bsx ⟨K, cls, tb⟩ w0 H x a dx) w0 (NW.startX N.length x ds) z (L2.start N (.ref a :: vs)) H := SI.startX I xa rd
  have hsr : srTo ⟨K, cls, tb⟩ (bsx ⟨K, cls, tb⟩ w0 H x a dx) (WxE E) (RTn ⟨K, cls, tb⟩) w0 { nx := fun _ H' => Q .non H', rt := Q } (ms (startX N.length x ds) z) := by
    have h' : fnTo ⟨K, cls, tb⟩ (RTn ⟨K, cls, tb⟩) w0 H (endR (ms (startX N.length x ds) z)) Q E := hq
    cases e : ms (startX N.length x ds) z with
    | nx ρ' z' => rw [e] at h'; exact fun σ w' H' S' _ => h' .non w' H' S'.wi S'.st .non
    | rt d z' => rw [e] at h'; exact fun v w' H' I' s' r' => h' v w' H' I' s' r'
    | bk ρ' z' => rw [e] at h'; exact h'.elim
    | ct ρ' z' => rw [e] at h'; exact h'.elim
    | exc y ρ' z' => rw [e] at h'; exact fun c dd σ w' H' S' r' => h' c dd w' H' S'.wi S'.st r'
    | bad => rw [e] at h'; exact h'
  refine wpAny_mono (hd.run [] s1 _ H { nx := fun _ H' => Q .non H', rt := Q } J ⟨w0, _, z, hs0, hsr⟩) (fun fl s' hs => ?_) fun e s' hs => hs
  cases fl with
  | ret u =>
    obtain ⟨v, σ', H', J', rv, q⟩ := hs
    exact ⟨v, H', J'.os, J'.bare, J'.base, J'.hok, rv, q⟩
  | next =>
    obtain ⟨σ', H', J', q⟩ := hs
    exact ⟨L2.V.non, H', J'.os, J'.bare, J'.base, J'.hok, (rfl : RelV L2.V.non Value.none), q⟩
  | brk => obtain ⟨_, _, _, q⟩ := hs; exact False.elim q
  | cont => obtain ⟨_, _, _, q⟩ := hs; exact False.elim q
end
/-! ### its call within the clause -/
def mAppX (i : Nat) (F : XD → FM) (m : M D) : M D := fun ρ z => match ρ[i]? with
  | some (some (.exn x)) => (m ρ z).bind fun d z1 => match F x [d] z1 with
    | .ok d z2 => .ok d z2
    | _ => .bad
  | _ => .bad
section
variable {X : Cx} {Γ : Gam} {B : Bs} {k : Nat} {e : Expr} {m : M D} {pos p np : Pos} {f : Addr} {fd : FuncData} {ps : List Str} {F : XD → FM} {x y : Str}
theorem d_callX (i : Nat) (hr : L2H.RoomH k X.A) (hg0 : X.A.guards = some []) (hpx : PxOk B X) (G : FnX X.prog X.w X.K X.mg X.base Γ k 1 f fd ps F) (hm : X.mg x = some (.ref f)) (hkp : PySem.W.keepIn X.K (.ref f) = true) (hb : Binds X.K fd ps []) (he : PE X e (tD Γ B Wx0 m)) (hg : Gl X x := by rfl)
    (hN : X.N[i]? = some y := by rfl) (hv : Vis X.env.scope y := by first | exact Or.inl rfl | exact Or.inr (Or.inl rfl) | exact Or.inr (Or.inr rfl)) (hdb : (x == ("__debug__" : Str)) = false := by decide) (hd : (y == ("__debug__" : Str)) = false := by decide)
    (hcd : (y == ("__classdict__" : Str)) = false := by decide) (he0 : starEach [.Name y np, e] X.env = (false, eval (.Name y np) X.env) :: starEach [e] X.env := by rfl) (he1 : starEach [e] X.env = (false, eval e X.env) :: starEach [] X.env := by rfl)
    (hpl : (backTo pos (starEach [e] X.env)).any (·.1) = false := by rfl) : PE X (.Call (.Name x p) [.Name y np, e] [] pos) (tD Γ B Wx0 (mAppX i F m)) := by
  refine ⟨fun pins s σ H Q I ⟨w, ρ, z, S, q⟩ => ?_⟩
  unfold mAppX at q
  split at q
  · rename_i xx hx
    obtain ⟨a, dx, fvs, h1, h2, h3, h4, h5⟩ := S.exn i xx hx
    obtain ⟨oe, hmem, hz, hfd⟩ := hpx _ _ _ h2
    refine wpAny_Call_Name_kw (ld_glob I hg hm ?_ hdb)
    refine PySem.W.callWith_K (h₀ := X.base) I.ok.mod.kin hkp ?_ he0 hpl
    rw [he0]
    show wpAny _ _ (spliced ((false, eval (.Name y np) X.env) :: backTo pos (starEach [e] X.env))) _ _ s
    refine Calls.spliced_cons (thn ((pe_var (pos := np) hN hv hd hcd).run pins s σ H (fun v H1 => v = .ref a ∧ H1 = H) I ⟨_, h1, rfl, rfl⟩) fun u s1 ⟨v, H1, I1, rx, e1, e2⟩ => ?_)
    subst e1
    rw [e2] at I1
    cases rx
    have hback : backTo pos (starEach [e] X.env) = backTo pos ((false, eval e X.env) :: starEach [] X.env) := by rw [he1]
    rw [hback]
    show wpAny _ _ (spliced ((false, eval e X.env) :: backTo pos (starEach [] X.env))) _ _ s1
    refine Calls.spliced_cons (thn (he.run pins s1 σ H (fun v H2 => ∃ w2 z2 d, SI Γ B w2 ρ z2 σ H2 ∧ Step w H w2 H2 ∧ Rep Γ w2 d v ∧ resTo Γ B Wx0 w2 ρ σ H2 (match F xx [d] z2 with
      | .ok d z2 => .ok d z2
      | _ => .bad) fun d w' _ H' => ∀ v, Rep Γ w' d v → Q v H') I1 ⟨w, ρ, z, S, q.bind.mono fun d w1 z1 H1 _ _ ⟨S1, s1, q1⟩ v rv => ⟨w1, z1, d, S1, s1, rv, q1⟩⟩) fun u2 s2 ⟨v2, H2, I2, r2, w2, z2, d, S2, t2, rd, q2⟩ => ?_)
    refine Calls.spliced_nil ⟨I2.kIn, ?_⟩
    have P1 := I2.pin (a, oe) (List.mem_append_left _ hmem)
    have hpin : L2H.PinOk X.stack H2 s2 (a, oe) := ⟨P1.1, P1.2.1, fun hm => (List.mem_cons.mp (I2.stkSub a hm)).elim P1.2.2.1 P1.2.2.2.1, P1.2.2.2.2⟩
    have hl := G.len
    have b := hb s2 [.ref a, u2] I2.kIn (by simp [hl])
    rw [List.append_nil] at b
    refine wpAny_call (codeAny_mono (G.run X.A X.stack s2 H2 ⟨[.ref a, u2], []⟩ [u2] [v2] Q (fun _ _ _ => False) a dx oe xx w2 z2 [d] hr hg0 hpin I2.env0 b (.cons r2 .nil) ⟨hz, hfd, fvs, t2.r _ _ h3, h4, h5.step t2⟩ S2.wi (.cons rd .nil) rfl ?_) fun r s' hq => ?_)
    · cases e : F xx [d] z2 with
      | ok d3 z3 => rw [e] at q2; exact fun v w' H' I' s' rv => q2 w' H' (S2.carry I' s') s' v rv
      | exc y z3 => rw [e] at q2; exact q2.elim
      | bad => rw [e] at q2; exact q2.elim
    · cases r with
      | error e =>
        obtain ⟨_, _, _, _, _, _, _, _, _, _, _, _, z⟩ := hq
        exact z.elim
      | ok fl =>
        cases fl with
        | ret u => exact I2.after hq
        | next => exact False.elim hq
        | brk => exact False.elim hq
        | cont => exact False.elim hq
  · exact q.elim
end
end NW
set_option maxHeartbeats 1000000
/-! A lambda without arguments (perhaps with a default): made, called further down. -/
namespace NW
open PySem PySem.Spec PyProof.Rows L2

abbrev lamFd (qual : Str) (params : Arguments) (body : Expr) (scope : Scope) (cl : List (Str × Addr)) (dV pm cdv ct : Value) : FuncData :=
  { name := "<lambda>", qualname := qual, params, body := .expr body, scope, globals := mainGlobals, closure := cl, defaults := dV, kwdefaults := .none, doc := .none, pyModule := pm, annotations := none, code := cdv, closureTuple := ct, builtins := builtinsNs }
abbrev lamOb (qual : Str) (params : Arguments) (body : Expr) (scope : Scope) (cl : List (Str × Addr)) (dV pm cdv ct : Value) : Obj := { cls := .type "function", data := .func (lamFd qual params body scope cl dV pm cdv ct) }
abbrev tupOb (vs : List Value) : Obj := { cls := .type "tuple", data := .seq vs.toArray }
theorem ns_up {h h' : Heap} {b : Addr} {m : Str → Option Value} (x : h.Ns b m) (k : ∀ b o, h.get? b = some o → h'.get? b = some o) : h'.Ns b m := by
  obtain ⟨o, es, ep, ho, r⟩ := x
  exact ⟨o, es, ep, k _ _ ho, r⟩
section
variable {M : Model} {A : Around} {E : Value → Shared → Prop} {s : Shared} {qual : Str} {params : Arguments} {body : Expr} {scope : Scope} {env : Env} {c P : Addr} {ps : Array Value} {pos : Pos} {line : Nat} {mg : Str → Option Value} {clos : List (Str × Addr)} {dV : Value} {Q : Value → Shared → Prop}
/-- the end of the making: the code object is new or stands in the table -/
theorem lam_tail (hcl : closureFor scope env = pure clos) (hge0 : env.globals = mainGlobals) (hg : s.heap.Ns mainGlobals mg) (hcode : env.code = .ref c) (C : PySem.W.CodeHd s.heap c P) (hP : s.heap.get? P = some (PySem.W.tabObj ps)) (ht : TriplesOk ps.toList) (hgP : mainGlobals ≠ P) (hb : s.heap.BuiltinsAt mg P)
    (miss : codeAmong pos ps.toList = none → ∀ (c' : Addr) (ctv : Value) (h' : Heap) (tk : Nat), Heap.ExtBut P s.heap h' → s.heap.objs.size ≤ c' → c' < h'.objs.size → h'.CodeRec (.ref c') qual → h'.get? P = some (PySem.W.tabObj (ps ++ #[rawInt pos.line, rawInt pos.col, .ref c'])) →
      Q (.ref h'.objs.size) { s with heap := h'.push (lamOb qual params body scope clos dV ((mg "__name__").getD .none) (.ref c') ctv), toks := tk })
    (hit : ∀ cv, codeAmong pos ps.toList = some cv → ∀ (ctv : Value) (h' : Heap) (tk : Nat), (∀ b o, s.heap.get? b = some o → h'.get? b = some o) → s.heap.objs.size ≤ h'.objs.size →
      Q (.ref h'.objs.size) { s with heap := h'.push (lamOb qual params body scope clos dV ((mg "__name__").getD .none) cv ctv), toks := tk }) :
    wpAny M A (makeTail "<lambda>" qual params (.expr body) scope env dV .none none pos line) Q E s := by
  obtain ⟨bm, ob, hbm, hne0, _, hneP, hbo, hcls, hdict, hdata⟩ := hb
  unfold makeTail
  rw [hcl, hge0]
  refine wpAny_bind (wpAny_pure ?_)
  have fin : ∀ (ctv : Value) (h1 : Heap), (∀ b o, s.heap.get? b = some o → h1.get? b = some o) → s.heap.objs.size ≤ h1.objs.size →
      wpAny M A (functionCode env pos line "<lambda>" qual params scope (.expr body) >>= fun cd => builtinsFor mainGlobals env.builtins >>= fun bn => nsGet mainGlobals "__name__" >>= fun nm => pure Value.none >>= fun doc =>
        newObj (.type "function") (.func { name := "<lambda>", qualname := qual, params, body := .expr body, scope, globals := mainGlobals, closure := clos, defaults := dV, kwdefaults := .none, doc := doc, pyModule := nm.getD .none, annotations := none, code := cd, closureTuple := ctv, builtins := bn })) Q E { s with heap := h1 } := fun ctv h1 k1 z1 => by
    have C1 := C.keeps k1
    cases hc : codeAmong pos ps.toList with
    | none =>
      refine wpAny_bind (wpAny_functionCodeX hcode (C1.code (k1 _ _ hP) ht) (C1.tab (k1 _ _ hP)) hc fun c' h' tk hx hge hlt _ hrec htb _ => ?_)
      have hg' : h'.Ns mainGlobals mg := (ns_up hg k1).extBut hx hgP
      refine wpAny_bind (wpAny_builtinsFor hg' hbm hne0 (hx _ _ hneP (k1 _ _ hbo)) hcls hdict hdata ?_)
      refine wpAny_bind (wpAny_nsGet hg' ?_)
      exact wpAny_bind (wpAny_pure (wpAny_newObj_type (miss hc c' ctv h' tk (fun b o n z => hx b o n (k1 b o z)) (Nat.le_trans z1 hge) hlt hrec htb.2) (by size_fits)))
    | some cv =>
      refine wpAny_bind (wpAny_functionCode_hit hcode (C1.code (k1 _ _ hP) ht) hc ?_)
      refine wpAny_bind (wpAny_builtinsFor (ns_up hg k1) hbm hne0 (k1 _ _ hbo) hcls hdict hdata ?_)
      refine wpAny_bind (wpAny_nsGet (ns_up hg k1) ?_)
      exact wpAny_bind (wpAny_pure (wpAny_newObj_type (hit cv hc ctv h1 s.toks k1 z1) (by size_fits)))
  cases clos with
  | nil =>
    simp only [List.isEmpty_nil, if_true]
    exact wpAny_bind (wpAny_pure (fin .none s.heap (fun _ _ z => z) (Nat.le_refl _)))
  | cons a r =>
    simp only [List.isEmpty_cons, Bool.false_eq_true, if_false]
    exact wpAny_bind (wpAny_newTextTuple (fin _ _ (fun _ _ z => Heap.get?_push_of_some _ z) (by rw [Heap.size_push]; omega)))
end
/-- the parameters: none, or one with an int as its default -/
def LamB (params : Arguments) : Option (Str × Int) → Prop
  | none => (∀ env, defaultsOf params env = ([], [])) ∧ ∀ q body scope cl pm cv ctv, bindArgs (lamFd q params body scope cl .none pm cv ctv) ⟨[], []⟩ = pure []
  | some (a, i) => (∃ j p, ∀ env, defaultsOf params env = ([eval (.Constant (.int i) j p) env], [])) ∧ ∀ q body scope cl pm cv ctv T v, ∃ k, bindArgs (lamFd q params body scope cl (.ref T) pm cv ctv) ⟨[], []⟩ = seqItems? (.ref T) >>= k ∧ k (some #[v]) = pure [(a, v)]
/-- the default stands in its tuple -/
def DfAt (h : Heap) (H : Hp) (fs : List Addr) (dV : Value) : Option (Str × Int) → Prop
  | none => dV = .none
  | some (_, i) => ∃ T tk, dV = .ref T ∧ h.get? T = some (tupOb [.int i tk]) ∧ H T = none ∧ T ∉ fs
section
variable {X : Cx} {pins : List (Addr × Obj)} {σ : Sl} {H : Hp} {s : Shared}
/-- what the making leaves of the abstract heap -/
inductive LamH (H : Hp) (P : Addr) (q : Str) (ps : Array Value) (pos : Pos) : Hp → Prop
  | hit : LamH H P q ps pos H
  | new {c' : Addr} : H c' = none → c' ≠ P → LamH H P q ps pos (upd (upd H P (.tbl (ps ++ #[rawInt pos.line, rawInt pos.col, .ref c']))) c' (LamX.CodeO c' q))
theorem lam_mk {c P : Addr} {params : Arguments} {body : Expr} {scope : Scope} {pos : Pos} {df : Option (Str × Int)} {E : Value → Shared → Prop} {Q : Value → Shared → Prop} (I : Inv X pins σ H s) (TB : LamX.TabB X.base X.mg c P) (hcode : X.env.code = .ref c)
    {ps : Array Value} (hP : H P = some (.tbl ps)) (ht : TriplesOk ps.toList) (ha : ∀ (p : Pos) (cv : Value), codeAmong p ps.toList = some cv → ∃ c, cv = .ref c ∧ H c = some (LamX.CodeO c (X.env.qual ++ "<lambda>"))) (hB : LamB params df) (hfree : ∀ y ∈ scope.names, y.2 = .free → ∃ c, X.env.cells.lookup y.1 = some c)
    (h : ∀ (f c' : Addr) (dV pm ctv : Value) (H1 : Hp) (s' : Shared), Inv X pins σ H1 s' → LamH H P (X.env.qual ++ "<lambda>") ps pos H1 → DfAt s'.heap H1 (frs X.stack) dV df →
      s'.heap.get? f = some (lamOb (X.env.qual ++ "<lambda>") params body scope (cloFrom X.env.cells scope.names []) dV pm (.ref c') ctv) → H1 f = none → f ∉ frs X.stack → H1 c' = some (LamX.CodeO c' (X.env.qual ++ "<lambda>")) → Q (.ref f) s') :
    wpAny (model X.prog X.w) X.A (eval (.Lambda params body scope pos) X.env) Q E s := by
  have nofr : ∀ f, s.heap.objs.size ≤ f → f ∉ frs X.stack := fun f hf z => by
    rcases List.mem_cons.mp (I.stkSub _ z) with e | e
    · have h1 := I.lt
      rw [← e] at h1
      exact Nat.lt_irrefl _ (Nat.lt_of_lt_of_le h1 hf)
    · exact I.nofs hf e
  -- behind the defaults
  have go : ∀ (dV : Value) (s1 : Shared), Inv X pins σ H s1 → s.heap.objs.size ≤ s1.heap.objs.size → (∀ H1 h', (∀ b o, b ≠ P → s1.heap.get? b = some o → h'.get? b = some o) → (∀ b, s.heap.objs.size ≤ b → b < s1.heap.objs.size → H1 b = none) → DfAt h' H1 (frs X.stack) dV df) →
      wpAny (model X.prog X.w) X.A (makeTail "<lambda>" (X.env.qual ++ "<lambda>") params (.expr body) scope X.env dV .none none pos pos.line) Q E s1 := fun dV s1 I1 z1 hdf => by
    have bP : s1.heap.BuiltinsAt X.mg P := TB.bm.keeps I1.bk
    have hP' : s1.heap.get? P = some { cls := .none, data := .fields ps } := I1.hok P _ hP
    have hPlt : P < s1.heap.objs.size := Heap.lt_size hP'
    have Hn : ∀ b, s1.heap.objs.size ≤ b → H b = none := fun b hb => I1.hok.fresh hb
    have neP : ∀ b, H b = none → b ≠ P := fun b e z => by rw [z, hP] at e; cases e
    have Hmid : ∀ b, s.heap.objs.size ≤ b → H b = none := fun b hb => I.hok.fresh hb
    refine lam_tail (mg := X.mg) (c := c) (P := P) (ps := ps) (closure_ok hfree) I.ok.glob (I1.mod.glob.keeps I1.bk) hcode (TB.code.keeps I1.bk) hP' ht TB.gP bP (fun hc c' ctv h' tk hx hge hlt hrec htb => ?_) fun cv hc ctv h' tk hx hsz => ?_
    · obtain ⟨c2, oc, vs, t, e2, hoc, hd, hv⟩ := hrec
      cases e2
      have nC : H c' = none := Hn _ hge
      have J := LamX.inv_table (t' := tk) (more := #[rawInt pos.line, rawInt pos.col, .ref c']) (h' := h'.push (lamOb (X.env.qual ++ "<lambda>") params body scope (cloFrom X.env.cells scope.names []) dV ((X.mg "__name__").getD .none) (.ref c') ctv)) I1 hP
        (fun b o hb e => Heap.get?_push_of_some _ (hx b o hb e)) (Heap.get?_push_of_some _ htb) hge ⟨oc, vs, t, Heap.get?_push_of_some _ hoc, hd, hv⟩
      have hfz : s1.heap.objs.size ≤ h'.objs.size := Nat.le_trans hge (Nat.le_of_lt hlt)
      refine h h'.objs.size c' dV _ ctv _ _ J (.new nC (neP _ nC)) (hdf _ _ (fun b o hb e => Heap.get?_push_of_some _ (hx b o hb e)) fun b h1 h2 => ?_) (Heap.get?_push_size _ rfl) ?_ (nofr _ (Nat.le_trans z1 hfz)) upd_same
      · rw [upd_ne (Nat.ne_of_lt (Nat.lt_of_lt_of_le h2 hge)), upd_ne (neP _ (Hmid b h1))]
        exact Hmid b h1
      · rw [upd_ne (Nat.ne_of_gt hlt), upd_ne (neP _ (Hn _ hfz))]
        exact Hn _ hfz
    · obtain ⟨c', e, hco⟩ := ha pos cv hc
      subst e
      have J : Inv X pins σ H { s1 with heap := h'.push (lamOb (X.env.qual ++ "<lambda>") params body scope (cloFrom X.env.cells scope.names []) dV ((X.mg "__name__").getD .none) (.ref c') ctv), toks := tk } := I1.kept fun b o e => Heap.get?_push_of_some _ (hx b o e)
      exact h h'.objs.size c' dV _ ctv H _ J .hit (hdf _ _ (fun b o _ e => Heap.get?_push_of_some _ (hx b o e)) fun b h1 _ => Hmid b h1) (Heap.get?_push_size _ rfl) (Hn _ hsz) (nofr _ (Nat.le_trans z1 hsz)) hco
  rw [arm_eval_Lambda]
  cases df with
  | none =>
    rw [hB.1]
    refine wpAny_bind (wpAny_pure (wpAny_bind (wpAny_holding (wpAny_pure ?_))))
    rw [makeFunction_eq]
    simp only [List.zip_nil_right, List.filterMap_nil, List.isEmpty_nil, if_true, pure_bind]
    exact go .none s I (Nat.le_refl _) fun _ _ _ _ => rfl
  | some ai =>
    obtain ⟨a, i⟩ := ai
    obtain ⟨⟨jj, pp, hde⟩, _⟩ := hB
    rw [hde]
    obtain ⟨hp0, g, d, tk, os⟩ := s
    show wpAny _ _ (evalAll [eval (.Constant (.int i) jj pp) X.env] >>= _) _ _ _
    refine wpAny_bind ?_
    show wpAny _ _ (do
      let v ← eval (.Constant (.int i) jj pp) X.env
      return v :: (← holding [v] (evalAll []))) _ _ _
    refine wpAny_bind (wpAny_Constant_int (wpAny_bind (wpAny_holding (wpAny_pure (wpAny_pure ?_)))))
    refine wpAny_bind (wpAny_holding (wpAny_pure ?_))
    rw [makeFunction_eq]
    simp only [List.zip_nil_right, List.filterMap_nil, List.isEmpty_nil, List.isEmpty_cons, if_true, pure_bind, Bool.false_eq_true, if_false]
    refine wpAny_bind (wpAny_newTextTuple ?_)
    have k1 : ∀ b o, hp0.get? b = some o → (hp0.push (tupOb [.int i tk])).get? b = some o := fun b o z => Heap.get?_push_of_some _ z
    refine go (.ref hp0.objs.size) ⟨hp0.push (tupOb [.int i tk]), g, d, tk + 1, os⟩ (I.kept (t' := tk + 1) k1) (by show _ ≤ (hp0.push _).objs.size; rw [Heap.size_push]; exact Nat.le_succ _) fun H1 h' kk hn => ?_
    have hPo : hp0.get? P = some { cls := .none, data := .fields ps } := I.hok P _ hP
    exact ⟨_, tk, rfl, kk _ _ (Nat.ne_of_gt (Heap.lt_size hPo)) (Heap.get?_push_size _ rfl), hn _ (Nat.le_refl _) (by show _ < (hp0.push _).objs.size; rw [Heap.size_push]; exact Nat.lt_succ_self _), nofr _ (Nat.le_refl _)⟩
end
end NW
set_option maxHeartbeats 1000000
/-! A function handed in and called further down; defs that take one; a lambda handed to such a def; try. -/
namespace NW
open PySem PySem.Spec PyProof.Rows L2

/-- from a state on, past one more frame that was made behind it -/
theorem un_past {fs : List Addr} {L : Addr} {H H1 H2 : Hp} {h h1 h2 : Heap} (a : Un fs [] H H1 h h1) (b : Un (L :: fs) [] H1 H2 h1 h2) (hL : h.get? L = none) : Un fs [] H H2 h h2 where
  keep := fun c o q n hc hx => b.keep c o (a.keep c o q n hc hx) (a.free c o q n hx) (fun m => by
    rcases List.mem_cons.mp m with e | m
    · rw [e, hL] at q; cases q
    · exact hc m) hx
  slot := fun c o q n hc hx => by
    obtain ⟨sl, e1⟩ := a.slot c o q n hc hx
    obtain ⟨sl', e2⟩ := b.slot c _ e1 (a.free c o q n hx) (List.mem_cons_of_mem _ hc) hx
    exact ⟨sl', e2⟩
  free := fun c o q n hx => by
    obtain ⟨o', e1⟩ := a.there c o q hx
    exact b.free c o' e1 (a.free c o q n hx) hx
  there := fun c o q hx => by
    obtain ⟨o', e1⟩ := a.there c o q hx
    exact b.there c o' e1 hx
  tups := fun c xs q => b.tups c xs (a.tups c xs q)
  frzs := fun c o u q => b.frzs c o u (a.frzs c o u q)
  tbls := fun c ps q => by
    obtain ⟨m1, e1⟩ := a.tbls c ps q
    obtain ⟨m2, e2⟩ := b.tbls c _ e1
    exact ⟨m1 ++ m2, by rw [e2, Array.append_assoc]⟩
/-- the function at f does F, from the state (s, H, w0) on -/
structure LamAct (P : Program) (w : World) (K : PySem.W.Frag) (mg : Str → Option Value) (base : Heap) (Γ : Gam) (kl : Nat) (fs : List Addr) (s : Shared) (H : Hp) (w0 : W) (f : Addr) (F : Z → Res D) : Prop where
  obj : ∀ (s1 : Shared) (H1 : Hp), Un fs [] H H1 s.heap s1.heap → ∃ oc od fd sl, s1.heap.get? f = some ⟨oc, od, .func fd, sl⟩
  run : ∀ (A : Around) (outer : List Env) (s1 : Shared) (H1 : Hp) (w1 : W) (z1 : Z) (Q : VK) (E : XK), Room kl A → A.guards = some [] → Env0 P w K mg base A outer s1 H1 → Un fs [] H H1 s.heap s1.heap → Step w0 H w1 H1 → WI Γ w1 z1 H1 → fnTo Γ (RTn Γ) w1 H1 (F z1) Q E →
    codeAny (model P w) A (.call (.ref f) ⟨[], []⟩) (CR (L2.CX P w) outer P w H1 s1 Q E) s1
section
variable {P : Program} {w : World} {K : PySem.W.Frag} {mg : Str → Option Value} {base : Heap} {Γ : Gam} {kl : Nat} {fs : List Addr} {s s' : Shared} {H H' : Hp} {w0 w' : W} {f : Addr} {F : Z → Res D}
theorem LamAct.next {L : Addr} (a : LamAct P w K mg base Γ kl fs s H w0 f F) (un : Un fs [] H H' s.heap s'.heap) (st : Step w0 H w' H') (hL : s.heap.get? L = none) : LamAct P w K mg base Γ kl (L :: fs) s' H' w' f F :=
  ⟨fun s1 H1 u => a.obj s1 H1 (un_past un u hL), fun A outer s1 H1 w1 z1 Q E hr hg e0 u st1 I q => a.run A outer s1 H1 w1 z1 Q E hr hg e0 (un_past un u hL) (st.trans st1) I q⟩
theorem LamAct.mono {j : Nat} (a : LamAct P w K mg base Γ kl fs s H w0 f F) (h : kl ≤ j) : LamAct P w K mg base Γ j fs s H w0 f F := ⟨a.obj, fun A outer s1 H1 w1 z1 Q E hr => a.run A outer s1 H1 w1 z1 Q E (hr.mono h)⟩
end
/-! ### a slot's function, called -/
def mAct (i : Nat) (f : Addr) (F : Z → Res D) : M D := fun ρ z => match ρ[i]? with
  | some (some (.fnv a)) => if a = f then F z else .bad
  | _ => .bad
section
variable {X : Cx} {Γ : Gam} {B : Bs} {Wx : WX} {RT : RTT} {k j kl : Nat} {f : Addr} {F : Z → Res D} {x y : Str} {p pos : Pos}
/-- the context's entry is the state that the promise was made of -/
structure ActX (X : Cx) (Γ : Gam) (B : Bs) (kl : Nat) (f : Addr) (F : Z → Res D) : Prop where
  act : LamAct X.prog X.w X.K X.mg X.base Γ kl X.fs X.s_0 B.H B.w f F
  hH : X.H_0 = B.H
  ex : X.ex = []
theorem ActX.tr {pn : List (Addr × Obj)} {xe : Value → Shared → Prop} (a : ActX X Γ B kl f F) : ActX (X.tr pn xe) Γ B kl f F := ⟨a.act, a.hH, a.ex⟩
theorem d_act (i : Nat) (a : ActX X Γ B kl f F) (hr : Room kl X.A) (hg : X.A.guards = some []) (tk : Takes X Wx) (hN : X.N[i]? = some y := by rfl) (hv : Vis X.env.scope y := by first | exact Or.inl rfl | exact Or.inr (Or.inl rfl) | exact Or.inr (Or.inr rfl)) (hd : (y == ("__debug__" : Str)) = false := by decide)
    (hcd : (y == ("__classdict__" : Str)) = false := by decide) : PE X (.Call (.Name y p) [] [] pos) (tD Γ B Wx (mAct i f F)) := by
  refine ⟨fun pins s σ H Q I ⟨w, ρ, z, S, q⟩ => ?_⟩
  unfold mAct at q
  split at q
  · rename_i a' hx
    split at q
    · rename_i e
      subst e
      refine wpAny_Call_Name_kw (thn ((pe_var (pos := p) hN hv hd hcd).run pins s σ H (fun v H1 => v = .ref a' ∧ H1 = H) I ⟨_, S.fnv i _ hx, rfl, rfl⟩) fun u s1 ⟨v, H1, I1, rx, e1, e2⟩ => ?_)
      subst e1
      rw [e2] at I1
      cases rx
      have un : Un X.fs [] B.H H X.s_0.heap s1.heap := by
        have b := I1.base
        rw [a.ex, a.hH] at b
        exact b
      refine PySem.W.callWith_F0 (a.act.obj s1 H un) ?_
      refine wpAny_call (codeAny_mono (a.act.run X.A X.stack s1 H w z Q (fun cls dd H' => Wx cls dd σ H') hr hg I1.env0 un S.st S.wi ?_) fun r s' hq => ?_)
      · cases e : F z with
        | ok d z1 => rw [e] at q; exact fun v w' H' I' s' rv => q w' H' (S.carry I' s') s' v rv
        | exc x z1 => rw [e] at q; exact fun cls dd w' H' I' s' rx => q cls dd w' H' (S.carry I' s') s' rx
        | bad => rw [e] at q; exact q
      · cases r with
        | error e => exact passAt tk σ pins H s1 e s' I1 hq
        | ok fl =>
          cases fl with
          | ret u => exact I1.after hq
          | next => exact False.elim hq
          | brk => exact False.elim hq
          | cont => exact False.elim hq
    · exact q.elim
  · exact q.elim
end
/-! ### defs whose one argument is a function -/
structure FnL (P : Program) (w : World) (K : PySem.W.Frag) (mg : Str → Option Value) (base : Heap) (Γ : Gam) (kl k : Nat) (g : Addr) (fd : FuncData) (y : Str) (G : (Z → Res D) → Z → Res D) : Prop where
  run : ∀ (A : Around) (outer : List Env) (s : Shared) (H : Hp) (args : Args) (Q : VK) (E : XK) (w0 : W) (z : Z) (f : Addr) (F : Z → Res D), Room k A → A.guards = some [] → Env0 P w K mg base A outer s H → BindsTo s fd args [(y, .ref f)] →
    LamAct P w K mg base Γ kl (frs outer) s H w0 f F → WI Γ w0 z H → fnTo Γ (RTn Γ) w0 H (G F z) Q E → codeAny (model P w) A (.call (.ref g) args) (CR (L2.CX P w) outer P w H s Q E) s
def startL (n : Nat) (f : Addr) : En := some (.fnv f) :: List.replicate (n - 1) none
theorem SI.startL {Γ : Gam} {w : W} {z : Z} {H : Hp} {N : List Str} {f : Addr} (hN : 1 ≤ N.length) (I : WI Γ w z H) : SI Γ (bs w H) w (NW.startL N.length f) z (L2.start N [.ref f]) H where
  wi := I
  st := .refl _ _
  len := by unfold NW.startL L2.start; simp
  sh := fun i d h => by
    unfold NW.startL at h
    cases i with
    | zero => simp at h
    | succ i => rw [List.getElem?_cons_succ, List.getElem?_replicate] at h; split at h <;> cases h
  own := fun i d h => by
    unfold NW.startL at h
    cases i with
    | zero => simp at h
    | succ i => rw [List.getElem?_cons_succ, List.getElem?_replicate] at h; split at h <;> cases h
  dis := fun i j o u c h => by
    intro h2
    unfold NW.startL at h
    cases i with
    | zero => simp at h
    | succ i => rw [List.getElem?_cons_succ, List.getElem?_replicate] at h; split at h <;> cases h
  exn := fun i d h => by
    unfold NW.startL at h
    cases i with
    | zero => simp at h
    | succ i => rw [List.getElem?_cons_succ, List.getElem?_replicate] at h; split at h <;> cases h
  fnv := fun i a h => by
    unfold NW.startL at h
    cases i with
    | zero => simp at h; subst h; rfl
    | succ i => rw [List.getElem?_cons_succ, List.getElem?_replicate] at h; split at h <;> cases h
def runL (n : Nat) (ms : Addr → (Z → Res D) → MS) : (Z → Res D) → Z → Res D := fun F z => endR (ms 0 F (NW.startL n 0) z)
section
variable {P : Program} {w : World} {K : PySem.W.Frag} {mg : Str → Option Value} {base : Heap} {cls : Nat → Addr} {tb : List (Addr × Str)}
/-- by its body; the function's address does not matter to the mirror -/
theorem fn_l {x qual y : Str} {st : Stmt} {g : Addr} {fd : FuncData} {N : List Str} {k kl : Nat} {ms : Addr → (Z → Res D) → MS} (F : Fun K x qual st g fd) (S : FnScope N [y] (defScope st)) (hms : ∀ f F z, endR (ms f F (startL N.length f) z) = endR (ms 0 F (startL N.length 0) z))
    (hbody : ∀ (cdv : Value) (A : Around) (outer : List Env) (s : Shared) (H : Hp) (E : XK) (w0 : W) (f : Addr) (Fl : Z → Res D), Dv ⟨K, cls, tb⟩ (CxF P w K mg base N qual st g cdv A outer s H E) (WxE E) k → ActX (CxF P w K mg base N qual st g cdv A outer s H E) ⟨K, cls, tb⟩ (bs w0 H) kl f Fl →
      DSs (CxF P w K mg base N qual st g cdv A outer s H E) ⟨K, cls, tb⟩ (bs w0 H) (WxE E) (RTn ⟨K, cls, tb⟩) (defBody st) (ms f Fl)) : FnL P w K mg base ⟨K, cls, tb⟩ kl (k + 1) g fd y (runL N.length ms) := by
  obtain ⟨oc, od, kV, doc, pm, an, cdv, ct, osl, rfl, lk, hcd⟩ := F.ex
  refine ⟨fun A outer s H args Q E w0 z f Fl hr hg e0 hb act I hq => ?_⟩
  have KX : K.In s.heap := e0.mod.kin.keeps fun b o e => (e0.bs b o e).1
  have lim : s.heap.NoLimit := e0.mod.nolimit.keeps fun b o e => (e0.bs b o e).1
  refine codeAny_call_function hr.depth (KX _ _ lk) rfl S.co S.gen rfl (PySem.W.codeRec_of KX hcd) (hb _ _ _ _ (wpAny_newFunctionEnv_cells S.kind (fun ⟨n, v⟩ hy => ?_) fun env he s1 hx => ?_))
  · have e : n = y := by simp at hy; exact hy.1
    rcases S.par y (List.mem_singleton.mpr rfl) with q | q
    · rw [e]; exact .inl q
    · rw [e]; exact .inr ⟨q, PySem.W.cellsFrom_some _ _ _ (.inl q)⟩
  subst he
  refine ⟨lim.keeps hx.toInCall.keep, codeAny_func ?_⟩
  have J := inv_start (CX := L2.CX P w) (E := E) (us := [.ref f]) (vs := [.ref f]) (ps := [y]) S hr.hd e0 rfl (.cons rfl .nil) hx
  have hN : 1 ≤ N.length := by
    have := congrArg List.length S.pre
    simp at this
    omega
  have V : Dv ⟨K, cls, tb⟩ (CxF P w K mg base N qual st g cdv A outer s H E) (WxE E) k := ⟨rfl, rfl, S.nd, hr.deeper _, hg, takes_of rfl rfl rfl rfl⟩
  have hd := hbody cdv A outer s H E w0 f Fl V ⟨act, rfl, rfl⟩
  have h' : fnTo ⟨K, cls, tb⟩ (RTn ⟨K, cls, tb⟩) w0 H (endR (ms f Fl (startL N.length f) z)) Q E := by rw [hms]; exact hq
  refine wpAny_mono (hd.run [] s1 _ H { nx := fun _ H' => Q .non H', rt := Q } J ⟨w0, _, z, SI.startL hN I, body_to h' fun _ _ => .non⟩) (fun fl s' hs => ?_) fun e s' hs => hs
  cases fl with
  | ret u =>
    obtain ⟨v, σ', H', J', rv, q⟩ := hs
    exact ⟨v, H', J'.os, J'.bare, J'.base, J'.hok, rv, q⟩
  | next =>
    obtain ⟨σ', H', J', q⟩ := hs
    exact ⟨L2.V.non, H', J'.os, J'.bare, J'.base, J'.hok, (rfl : RelV L2.V.non Value.none), q⟩
  | brk => obtain ⟨_, _, _, q⟩ := hs; exact False.elim q
  | cont => obtain ⟨_, _, _, q⟩ := hs; exact False.elim q
end
/-- g(a), a the slot's function -/
def mAppL (i : Nat) (f : Addr) (F : Z → Res D) (G : (Z → Res D) → Z → Res D) : M D := mAct i f (G F)
section
variable {X : Cx} {Γ : Gam} {B : Bs} {Wx : WX} {k j kl : Nat} {f g : Addr} {F : Z → Res D} {G : (Z → Res D) → Z → Res D} {fd : FuncData} {x y a : Str} {p np pos : Pos}
theorem d_callL (i : Nat) (V : Dv Γ X Wx j) (ac : ActX X Γ B kl f F) (hst : frs X.stack = X.env.locals :: X.fs) (hL : X.s_0.heap.get? X.env.locals = none) (T : FnL X.prog X.w X.K X.mg X.base Γ kl k g fd a G) (hm : X.mg x = some (.ref g)) (hkp : PySem.W.keepIn X.K (.ref g) = true) (hb : Binds X.K fd [a] []) (hj : k ≤ j := by decide)
    (hg : Gl X x := by rfl) (hN : X.N[i]? = some y := by rfl) (hv : Vis X.env.scope y := by first | exact Or.inl rfl | exact Or.inr (Or.inl rfl) | exact Or.inr (Or.inr rfl)) (hdb : (x == ("__debug__" : Str)) = false := by decide) (hd : (y == ("__debug__" : Str)) = false := by decide)
    (hcd : (y == ("__classdict__" : Str)) = false := by decide) (he : starEach [.Name y np] X.env = (false, eval (.Name y np) X.env) :: starEach [] X.env := by rfl) : PE X (.Call (.Name x p) [.Name y np] [] pos) (tD Γ B Wx (mAppL i f F G)) := by
  refine ⟨fun pins s σ H Q I ⟨w, ρ, z, S, q⟩ => ?_⟩
  unfold mAppL mAct at q
  split at q
  · rename_i a' hx
    split at q
    · rename_i e
      subst e
      refine wpAny_Call_Name_kw (ld_glob I hg hm ?_ hdb)
      refine PySem.W.callWith_K (h₀ := X.base) I.ok.mod.kin hkp ?_ he (by rfl)
      rw [he]
      show wpAny _ _ (spliced ((false, eval (.Name y np) X.env) :: backTo pos (starEach [] X.env))) _ _ s
      refine Calls.spliced_cons (thn ((pe_var (pos := np) hN hv hd hcd).run pins s σ H (fun v H1 => v = .ref a' ∧ H1 = H) I ⟨_, S.fnv i _ hx, rfl, rfl⟩) fun u s1 ⟨v, H1, I1, rx, e1, e2⟩ => ?_)
      subst e1
      rw [e2] at I1
      cases rx
      refine Calls.spliced_nil ⟨I1.kIn, ?_⟩
      have un : Un X.fs [] B.H H X.s_0.heap s1.heap := by
        have b := I1.base
        rw [ac.ex, ac.hH] at b
        exact b
      have act : LamAct X.prog X.w X.K X.mg X.base Γ kl (frs X.stack) s1 H w a' F := by
        rw [hst]
        exact ac.act.next un S.st hL
      have b := hb s1 [.ref a'] I1.kIn rfl
      refine wpAny_call (codeAny_mono (T.run X.A X.stack s1 H ⟨[.ref a'], []⟩ Q (fun cls dd H' => Wx cls dd σ H') w z a' F (V.room.mono hj) V.grd I1.env0 b act S.wi ?_) fun r s' hq => ?_)
      · cases e : G F z with
        | ok d z1 => rw [e] at q; exact fun v w' H' I' s' rv => q w' H' (S.carry I' s') s' v rv
        | exc x z1 => rw [e] at q; exact fun cls dd w' H' I' s' rx => q cls dd w' H' (S.carry I' s') s' rx
        | bad => rw [e] at q; exact q
      · cases r with
        | error e => exact passAt V.tk σ pins H s1 e s' I1 hq
        | ok fl =>
          cases fl with
          | ret u => exact I1.after hq
          | next => exact False.elim hq
          | brk => exact False.elim hq
          | cont => exact False.elim hq
    · exact q.elim
  · exact q.elim
end
end NW
set_option maxHeartbeats 1000000
/-! g(lambda: ..). -/
namespace NW
open PySem PySem.Spec PyProof.Rows L2

/-- the lambda's names: captured ones, globals, its own parameter (no name of the maker) -/
structure LamSc (N : List Str) (sc scope : Scope) (df : Option (Str × Int)) : Prop where
  kind : scope.kind = .function
  co : scope.isCoroutine = false
  gen : scope.isGenerator = false
  own : ∀ y ∈ scope.names, y.2 ≠ .cell ∧ (y.2 = .local → y.1 ∉ N)
  free : ∀ y ∈ scope.names, y.2 = .free → sc.names.lookup y.1 = some .cell ∨ sc.names.lookup y.1 = some .free
  dfl : ∀ a i, df = some (a, i) → scope.names.lookup a = some .local
def dfB (df : Option (Str × Int)) (v : Value) : List (Str × Value) := match df with
  | none => []
  | some (a, _) => [(a, v)]
section
variable {X : Cx} {pins : List (Addr × Obj)} {σ : Sl} {H HZ : Hp} {s s1 : Shared}
theorem LamSc.has {df : Option (Str × Int)} {scope : Scope} (L : LamSc X.N X.env.scope scope df) (ok : X.Ok) (y : Str × NameKind) (hy : y ∈ scope.names) (e : y.2 = .free) : ∃ c, X.env.cells.lookup y.1 = some c :=
  ok.has _ (L.free y hy e)
theorem lam_begin {df : Option (Str × Int)} {A : Around} {outer : List Env} {E : XK} {scope : Scope} {f c' : Addr} {h₁ : Heap} {tk : Nat} {m1 : Str → Option Value} (I : Inv X pins σ H s) (L : LamSc X.N X.env.scope scope df) (e0 : Env0 X.prog X.w X.K X.mg X.base A outer s1 HZ) (hd : A.handled = none)
    (un : Un (frs X.stack) [] H HZ s.heap s1.heap) (hns : h₁.Ns s1.heap.objs.size m1) (kp : ∀ b o, s1.heap.get? b = some o → h₁.get? b = some o) :
    Inv (LamX.lamCx X A outer s1 HZ E scope f c') [] σ HZ { s1 with heap := h₁, toks := tk } := by
  have back : ∀ {y c}, (cloFrom X.env.cells scope.names []).lookup y = some c → X.env.cells.lookup y = some c := fun {y c} e => by
    rcases cloFrom_mem (PySem.mem_of_lookup e) with hm | ⟨h1, h2⟩
    · cases hm
    · obtain ⟨c1, hc⟩ := L.has I.ok _ h1 rfl
      have hc : X.env.cells.lookup y = some c1 := hc
      have : c = c1 := by rw [h2, hc] <;> rfl
      rw [this]; exact hc
  have fore : ∀ {y}, scope.names.lookup y = some .free → ∃ c, (cloFrom X.env.cells scope.names []).lookup y = some c := fun {y} hl => mem_lookup (cloFrom_has (cells := X.env.cells) (acc := []) (PySem.mem_of_lookup hl))
  have cellUp : ∀ {c : Addr} {v : Option Value}, H c = none → s.heap.IsCell c v → h₁.IsCell c v := fun {c v} n ⟨o, ho, hd⟩ => by
    obtain ⟨sl, q⟩ := un.any ho n (by simp)
    exact ⟨_, kp _ _ q, hd⟩
  have nocell : ∀ y, scope.names.lookup y ≠ some .cell := fun y h => (L.own _ (PySem.mem_of_lookup h)).1 rfl
  have noex : ∀ b : Addr, b ∉ (LamX.lamCx X A outer s1 HZ E scope f c').ex := fun b z => absurd (show b ∈ ([] : List Addr) from z) (by simp)
  constructor
  · constructor
    · exact e0.mod
    · exact L.kind
    · rfl
    · rfl
    · exact Nat.le_refl _
    · exact fun y z c e1 e2 => I.ok.inj y z c (back e1) (back e2)
    · intro y hy
      rcases (show scope.names.lookup y = some .cell ∨ scope.names.lookup y = some .free from hy) with hy | hy
      · exact absurd hy (nocell y)
      · exact fore hy
    · intro y c z _
      cases (show false = true from z)
    · exact fun _ => hd
    · exact Around.frames_deeper e0.frames
    · exact .inr ⟨rfl, rfl⟩
    · exact fun b z => absurd z (noex b)
    · exact e0.bs
    · exact e0.bsz
    · exact fun b _ _ => noex b
    · exact fun b z => absurd z (noex b)
    · exact e0.funs
    · exact e0.frf
  · rfl
  · exact e0.bare
  · exact Un.kept kp
  · refine ⟨_, hns, fun i y v e1 e2 e3 => ?_⟩
    rcases (show Vis scope y from e3) with k | k | k
    · exact absurd (List.mem_of_getElem? e1) ((L.own _ (PySem.mem_of_lookup k)).2 rfl)
    · exact absurd k (nocell y)
    · obtain ⟨m, hn, hl⟩ := I.loc
      have kk := L.free _ (PySem.mem_of_lookup k) rfl
      obtain ⟨u, r, q⟩ := hl i y v e1 e2 (kk.elim (fun k => .inr (.inl k)) fun k => .inr (.inr k))
      obtain ⟨c2, h2⟩ := fore k
      refine ⟨u, r, .inr ⟨.inr k, c2, h2, ?_⟩⟩
      rcases q with ⟨k', _⟩ | ⟨_, c3, e', z⟩
      · have k' : X.env.scope.names.lookup y = some .local := k'
        rcases kk with k2 | k2 <;> rw [show X.env.scope.names.lookup y = _ from k2] at k' <;> cases k'
      · rw [back h2] at e'
        cases e'
        exact cellUp (I.freeC y _ (back h2)) z
  · intro y c e
    obtain ⟨u, z⟩ := I.cell y c (back e)
    exact ⟨u, cellUp (I.freeC y c (back e)) z⟩
  · exact e0.hok.fresh (Nat.le_refl _)
  · intro y c e
    obtain ⟨v, o, ho, hd⟩ := I.cell y c (back e)
    exact un.free c o ho (I.freeC y c (back e)) (by simp)
  · exact fun q hq => absurd (show q ∈ ([] : List (Addr × Obj)) ++ [] from hq) (by simp)
  · exact e0.hok.kept kp
  · exact I.len
end
section
variable {X : Cx} {Γ : Gam} {B : Bs} {Wx : WX} {k j kl : Nat} {pins : List (Addr × Obj)} {σ : Sl} {H : Hp} {s : Shared}
/-- the new lambda does what its body's mirror does -/
theorem lam_act {df : Option (Str × Int)} {params : Arguments} {body : Expr} {scope : Scope} {f c' : Addr} {dV pm ctv : Value} {mb : M D} {w0 : W} {ρ : En} {z0 : Z} (nd : X.N.Nodup) (hK : X.K = Γ.K) (I : Inv X pins σ H s) (L : LamSc X.N X.env.scope scope df) (hB : LamB params df) (S0 : SI Γ B w0 ρ z0 σ H) (hdf : DfAt s.heap H (frs X.stack) dV df)
    (hf : s.heap.get? f = some (lamOb (X.env.qual ++ "<lambda>") params body scope (cloFrom X.env.cells scope.names []) dV pm (.ref c') ctv)) (hfn : H f = none) (hfr : f ∉ frs X.stack) (hco : H c' = some (LamX.CodeO c' (X.env.qual ++ "<lambda>"))) (hcp : c' ∉ w0.pl)
    (hbody : ∀ (A : Around) (outer : List Env) (s : Shared) (H : Hp) (E : XK) (f c' : Addr), Dv Γ (LamX.lamCx X A outer s H E scope f c') (WxE E) k → PE (LamX.lamCx X A outer s H E scope f c') body (tD Γ B (WxE E) mb)) :
    LamAct X.prog X.w X.K X.mg X.base Γ (k + 1) (frs X.stack) s H w0 f (fun z => mb ρ z) := by
  have at_ : ∀ (s1 : Shared) (H1 : Hp), Un (frs X.stack) [] H H1 s.heap s1.heap → s1.heap.get? f = some (lamOb (X.env.qual ++ "<lambda>") params body scope (cloFrom X.env.cells scope.names []) dV pm (.ref c') ctv) := fun s1 H1 u => u.keep f _ hf hfn hfr (by simp)
  refine ⟨fun s1 H1 u => ⟨_, _, _, _, at_ s1 H1 u⟩, fun A outer s1 H1 w1 z1 Q E hr hg e0 un st I1 q => ?_⟩
  have of1 := at_ s1 H1 un
  have lim : s1.heap.NoLimit := e0.mod.nolimit.keeps fun b o e => (e0.bs b o e).1
  have hc1 : H1 c' = some (LamX.CodeO c' (X.env.qual ++ "<lambda>")) := st.k _ _ hco (fun ps => LamX.codeO_ne ps) hcp
  obtain ⟨⟨oc, vs, t, hoc, hdc, hvc⟩, _, _⟩ := e0.hok c' _ hc1
  obtain ⟨dv, hb, hloc⟩ : ∃ dv, BindsTo s1 (lamFd (X.env.qual ++ "<lambda>") params body scope (cloFrom X.env.cells scope.names []) dV pm (.ref c') ctv) ⟨[], []⟩ (dfB df dv) ∧ ∀ y ∈ dfB df dv, scope.names.lookup y.1 = some .local := by
    cases df with
    | none =>
      cases (show dV = .none from hdf)
      exact ⟨.none, .of_eq (hB.2 _ _ _ _ _ _ _), fun y hy => absurd hy (by simp [dfB])⟩
    | some ai =>
      obtain ⟨a, i⟩ := ai
      obtain ⟨T, tk, rfl, hT, hTn, hTf⟩ := hdf
      obtain ⟨kk, h1, h2⟩ := hB.2 (X.env.qual ++ "<lambda>") body scope (cloFrom X.env.cells scope.names []) pm (.ref c') ctv T (.int i tk)
      exact ⟨.int i tk, BindsTo.of_defaults rfl (un.keep T _ hT hTn hTf (by simp)) rfl h1 h2, fun y hy => by
        simp [dfB] at hy
        rw [hy]
        exact L.dfl a i rfl⟩
  refine PySem.W.kla_callFunE hr.depth of1 rfl L.co L.gen rfl ⟨c', oc, vs, t, rfl, hoc, hdc, hvc⟩ (hb _ _ _ _ (wpAny_newFunctionEnv (fun y hy => (L.own y hy).1) hloc (fun h₁ hns hsb => ⟨lim.fresh _ hsb, ?_⟩) L.kind))
  show codeAny _ _ (.expr body (LamX.lamEnv X scope s1.heap.objs.size f c')) _ _
  have kp : ∀ b o, s1.heap.get? b = some o → h₁.get? b = some o := fun b o e => hsb.extBut b o (Nat.ne_of_lt (Heap.lt_size e)) (Heap.get?_push_of_some _ e)
  have J : Inv (LamX.lamCx X A outer s1 H1 E scope f c') [] σ H1 { s1 with heap := h₁, toks := s1.toks + (dfB df dv).length } := lam_begin I L e0 hr.hd un hns kp
  have V : Dv Γ (LamX.lamCx X A outer s1 H1 E scope f c') (WxE E) k := ⟨hK, rfl, nd, hr.deeper _, hg, takes_of rfl rfl rfl rfl⟩
  have S1 : SI Γ B w1 ρ z1 σ H1 := S0.carry I1 st
  refine PySem.W.kla_codeExpr (wpAny_mono ((hbody A outer s1 H1 E f c' V).run [] _ _ H1 Q J ⟨w1, ρ, z1, S1, ?_⟩) (fun v s' hq => ?_) fun e s' hq => hq)
  · cases e : mb ρ z1 with
    | ok d z2 => rw [e] at q; exact fun w' H' S' s' v rv => q v w' H' S'.wi s' rv
    | exc x z2 => rw [e] at q; exact fun cls dd w' H' S' s' rx => q cls dd w' H' S'.wi s' rx
    | bad => rw [e] at q; exact q
  · obtain ⟨u, H', J', rv, q'⟩ := hq
    exact ⟨u, H', J'.os, J'.bare, J'.base, J'.hok, rv, q'⟩
/-- the abstract heap behind the making -/
theorem SI.lam {w : W} {ρ : En} {z : Z} {P : Addr} {q : Str} {ps : Array Value} {pos : Pos} {H1 : Hp} (S : SI Γ B w ρ z σ H) (hm : (P, q) ∈ Γ.tb) (hu : ∀ p ∈ Γ.tb, p.1 = P → p.2 = q) (hP : H P = some (.tbl ps)) (ht : TriplesOk ps.toList) (ha : ∀ (p : Pos) (cv : Value), codeAmong p ps.toList = some cv → ∃ c, cv = .ref c ∧ H c = some (LamX.CodeO c q)) (x : LamH H P q ps pos H1) : SI Γ B w ρ z σ H1 ∧ Step w H w H1 := by
  cases x with
  | hit => exact ⟨S, .refl _ _⟩
  | @new c' hn hne =>
    have old : ∀ b o, H b = some o → (∀ ps, o ≠ .tbl ps) → upd (upd H P (.tbl (ps ++ #[rawInt pos.line, rawInt pos.col, .ref c']))) c' (LamX.CodeO c' q) b = some o := fun b o h n => by
      rw [upd_ne (ne_of_none h hn), upd_ne (fun e => by rw [e, hP] at h; exact n ps (Option.some.inj h).symm)]
      exact h
    have st : Step w H w (upd (upd H P (.tbl (ps ++ #[rawInt pos.line, rawInt pos.col, .ref c']))) c' (LamX.CodeO c' q)) := ⟨fun _ _ h => h, fun _ _ h => h, fun a o h n _ => old a o h n, fun _ _ _ h => h, fun _ h => .inl h, fun a o h => by
      by_cases e : a = P
      · subst e
        exact ⟨_, by rw [upd_ne (ne_of_none h hn), upd_same]⟩
      · exact ⟨o, by rw [upd_ne (ne_of_none h hn), upd_ne e]; exact h⟩⟩
    have wi : WI Γ w z (upd (upd H P (.tbl (ps ++ #[rawInt pos.line, rawInt pos.col, .ref c']))) c' (LamX.CodeO c' q)) := by
      refine ⟨fun a o h => old a o (S.wi.le a o h) (S.wi.nt a o h), S.wi.len, fun n mo h => ?_, S.wi.nd, S.wi.nt, fun p hp => ?_⟩
      · obtain ⟨a, g1, g2, g3⟩ := S.wi.st n mo h
        refine ⟨a, g1, g2, ?_⟩
        cases mo with
        | lst ds => obtain ⟨xs, e1, e2⟩ := g3; exact ⟨xs, old _ _ e1 fun _ => nofun, e2⟩
        | ins c fs => obtain ⟨dx, fvs, e1, e2⟩ := g3; exact ⟨dx, fvs, old _ _ e1 fun _ => nofun, e2⟩
      · by_cases e : p.1 = P
        · rw [hu p hp e, e]
          have eL : (ps ++ #[rawInt pos.line, rawInt pos.col, .ref c']).toList = ps.toList ++ [rawInt pos.line, rawInt pos.col, .ref c'] := by simp
          refine ⟨_, by rw [upd_ne (ne_of_none hP hn), upd_same], by rw [eL]; exact PySem.TriplesOk_snoc _ _ _ _ ht, fun p' cv hcv => ?_⟩
          rw [eL] at hcv
          rcases LamX.among_app _ ht hcv with z | z
          · obtain ⟨c0, e1, e2⟩ := ha p' cv z
            exact ⟨c0, e1, old _ _ e2 fun ps => LamX.codeO_ne ps⟩
          · exact ⟨c', z, upd_same⟩
        · obtain ⟨ps', a1, a2, a3⟩ := S.wi.tb p hp
          refine ⟨ps', by rw [upd_ne (ne_of_none a1 hn), upd_ne e]; exact a1, a2, fun p' cv hcv => ?_⟩
          obtain ⟨c0, e1, e2⟩ := a3 p' cv hcv
          exact ⟨c0, e1, old _ _ e2 fun ps => LamX.codeO_ne ps⟩
    exact ⟨S.carry wi st, st⟩
def mLam (G : (Z → Res D) → Z → Res D) (mb : M D) : M D := fun ρ z => G (fun z => mb ρ z) z
theorem d_lam {df : Option (Str × Int)} {g c P : Addr} {fd : FuncData} {a x : Str} {G : (Z → Res D) → Z → Res D} {params : Arguments} {body : Expr} {scope : Scope} {mb : M D} {p lpos pos : Pos} (V : Dv Γ X Wx j) (F : FnL X.prog X.w X.K X.mg X.base Γ (k + 1) kl g fd a G) (hm : X.mg x = some (.ref g)) (hkp : PySem.W.keepIn X.K (.ref g) = true) (hb : Binds X.K fd [a] [])
    (TB : LamX.TabB X.base X.mg c P) (hcode : X.env.code = .ref c) (hmT : (P, X.env.qual ++ "<lambda>") ∈ Γ.tb) (hu : ∀ p ∈ Γ.tb, p.1 = P → p.2 = X.env.qual ++ "<lambda>") (L : LamSc X.N X.env.scope scope df) (hB : LamB params df)
    (hbody : ∀ (A : Around) (outer : List Env) (s : Shared) (H : Hp) (E : XK) (f c' : Addr), Dv Γ (LamX.lamCx X A outer s H E scope f c') (WxE E) k → PE (LamX.lamCx X A outer s H E scope f c') body (tD Γ B (WxE E) mb))
    (hj : kl ≤ j := by decide) (hg : Gl X x := by rfl) (hdb : (x == ("__debug__" : Str)) = false := by decide) : PE X (.Call (.Name x p) [.Lambda params body scope lpos] [] pos) (tD Γ B Wx (mLam G mb)) := by
  refine ⟨fun pins s σ H Q I ⟨w, ρ, z, S, q⟩ => ?_⟩
  obtain ⟨ps, hP, ht, ha⟩ := S.wi.tb _ hmT
  refine wpAny_Call_Name_kw (ld_glob I hg hm ?_ hdb)
  refine PySem.W.callWith_K (h₀ := X.base) I.ok.mod.kin hkp ?_ (by rfl) (by rfl)
  show wpAny _ _ (spliced ((false, eval (.Lambda params body scope lpos) X.env) :: backTo pos (starEach [] X.env))) _ _ s
  refine Calls.spliced_cons (lam_mk I TB hcode hP ht ha hB (L.has I.ok) fun f c' dV pm ctv H1 s' I1 hH hdf hf hfn hfr hco => ?_)
  obtain ⟨S1, st1⟩ := S.lam hmT hu hP ht ha hH
  refine Calls.spliced_nil ⟨I1.kIn, ?_⟩
  have hcp : c' ∉ w.pl := fun hin => by
    obtain ⟨n, hn, e⟩ := List.mem_iff_getElem.mp hin
    have hz : n < z.length := by rw [← S1.wi.len]; exact hn
    obtain ⟨b, h1, _, h3⟩ := S1.wi.st n _ (List.getElem?_eq_getElem hz)
    rw [List.getElem?_eq_getElem hn, e] at h1
    cases h1
    cases hmo : z[n] with
    | lst ds => rw [hmo] at h3; obtain ⟨xs, h3, _⟩ := h3; rw [hco] at h3; cases h3
    | ins cc fs => rw [hmo] at h3; obtain ⟨dx, fvs, h3, _⟩ := h3; rw [hco] at h3; cases h3
  have act := lam_act (k := k) V.nd V.hK I1 L hB S1 hdf hf hfn hfr hco hcp hbody
  have b := hb s' [.ref f] I1.kIn rfl
  refine wpAny_call (codeAny_mono (F.run X.A X.stack s' H1 ⟨[.ref f], []⟩ Q (fun cls dd H' => Wx cls dd σ H') w z f _ (V.room.mono hj) V.grd I1.env0 b act S1.wi ?_) fun r s2 hq => ?_)
  · unfold mLam at q
    cases e : G (fun z => mb ρ z) z with
    | ok d z1 => rw [e] at q; exact fun v w' H' I' s' rv => q w' H' (S1.carry I' s') (st1.trans s') v rv
    | exc y z1 => rw [e] at q; exact fun cls dd w' H' I' s' rx => q cls dd w' H' (S1.carry I' s') (st1.trans s') rx
    | bad => rw [e] at q; exact q
  · cases r with
    | error e => exact passAt V.tk σ pins H1 s' e s2 I1 hq
    | ok fl =>
      cases fl with
      | ret u => exact I1.after hq
      | next => exact False.elim hq
      | brk => exact False.elim hq
      | cont => exact False.elim hq
end
end NW
set_option maxHeartbeats 400000
/-! try .. except (C1, C2) as n: a suite that returns. -/
namespace NW
open PySem PySem.Spec PyProof.Rows L2
abbrev bpx (B : Bs) (a : Addr) (cls : Value) (d : Option Addr) : Bs := ⟨B.w, B.H, fun b c dx => b = a ∧ c = cls ∧ d = some dx⟩
def noExn : En → Bool
  | [] => true
  | some (.exn _) :: _ => false
  | _ :: r => noExn r
theorem noExn_at : ∀ {ρ : En} {i : Nat} {x : XD}, noExn ρ = true → ρ[i]? ≠ some (some (.exn x))
  | [], _, _, _, h => by simp at h
  | some (.exn y) :: _, _, _, h, _ => by simp [noExn] at h
  | none :: r, i, x, h, e => by
    cases i with
    | zero => simp at e
    | succ i => exact noExn_at (ρ := r) (by simpa [noExn] using h) (by simpa using e)
  | some (.sh d) :: r, i, x, h, e => by
    cases i with
    | zero => simp at e
    | succ i => exact noExn_at (ρ := r) (by simpa [noExn] using h) (by simpa using e)
  | some (.own d) :: r, i, x, h, e => by
    cases i with
    | zero => simp at e
    | succ i => exact noExn_at (ρ := r) (by simpa [noExn] using h) (by simpa using e)
  | some (.fnv d) :: r, i, x, h, e => by
    cases i with
    | zero => simp at e
    | succ i => exact noExn_at (ρ := r) (by simpa [noExn] using h) (by simpa using e)
def sTry (b : MS) (i : Nat) (caught : List Nat) (su : MS) : MS := fun ρ z => match b ρ z with
  | .exc x ρ' z' => if x.c ∈ caught ∧ i < ρ'.length ∧ noExn ρ' = true then (match su (ρ'.set i (some (.exn x))) z' with
    | .rt d z2 => .rt d z2
    | _ => .bad) else .bad
  | r => r
section
variable {X : Cx} {Γ : Gam} {B : Bs} {Wx : WX} {x1 x2 n : Str} {c1 c2 : Value} {i kk : Nat} {body suite : List Stmt} {b₀ : Stmt} {np1 np2 tpos pos pos' : Pos} {mb ms : MS} {caught : List Nat}
theorem SI.setX {w : W} {ρ : En} {z : Z} {σ : Sl} {H : Hp} (S : SI Γ B w ρ z σ H) (hn : noExn ρ = true) {x : XD} {a : Addr} {cls : Value} {dd : Option Addr} (r : RepX Γ w x cls dd H) (hi : i < ρ.length) : SI Γ (bpx B a cls dd) w (ρ.set i (some (.exn x))) z (σ.set i (some (.ref a))) H where
  wi := S.wi
  st := S.st
  len := by rw [List.length_set, List.length_set]; exact S.len
  sh := fun j d' h => by
    by_cases e : i = j
    · subst e; rw [List.getElem?_set_self hi] at h; cases h
    · rw [List.getElem?_set_ne e] at h ⊢; exact S.sh j d' h
  own := fun j o h => by
    by_cases e : i = j
    · subst e; rw [List.getElem?_set_self hi] at h; cases h
    · rw [List.getElem?_set_ne e] at h ⊢; exact S.own j o h
  dis := fun j l o u c h1 h2 h3 h4 => by
    by_cases e : i = j
    · subst e; rw [List.getElem?_set_self hi] at h1; cases h1
    · by_cases e' : i = l
      · subst e'; rw [List.getElem?_set_self hi] at h2; cases h2
      · rw [List.getElem?_set_ne e] at h1 h3
        rw [List.getElem?_set_ne e'] at h2 h4
        exact S.dis j l o u c h1 h2 h3 h4
  exn := fun j y h => by
    by_cases e : i = j
    · subst e
      rw [List.getElem?_set_self hi] at h
      cases h
      obtain ⟨rfl, dx, fvs, rfl, _, h3, h4, h5⟩ := r
      exact ⟨a, dx, fvs, List.getElem?_set_self (by rw [← S.len]; exact hi), ⟨rfl, rfl, rfl⟩, h3, h4, h5⟩
    · rw [List.getElem?_set_ne e] at h
      exact absurd h (noExn_at hn)
  fnv := fun j a' h => by
    by_cases e : i = j
    · subst e; rw [List.getElem?_set_self hi] at h; cases h
    · rw [List.getElem?_set_ne e] at h ⊢; exact S.fnv j a' h
theorem s_try (i : Nat) (caught : List Nat) (nd : X.N.Nodup) (n1 : Names X x1 c1) (n2 : Names X x2 c2) (hcl : ∀ c ∈ caught, PySem.W.exmAny X.K (.ref (Γ.cls c)) [c1, c2] = some true)
    (hb : ∀ (W' : WX) (pn : List (Addr × Obj)) (xe : Value → Shared → Prop), Takes (X.tr pn xe) W' → DSs (X.tr pn xe) Γ B W' (RTn Γ) body mb)
    (hsu : ∀ (a : Addr) (oe : Obj) (B' : Bs) (pn : List (Addr × Obj)), PxOk B' (X.suite a ((a, oe) :: pn)) → DSs (X.suite a ((a, oe) :: pn)) Γ B' Wx0 (RTn Γ) (b₀ :: suite) ms)
    (hi : X.N[i]? = some n := by rfl) (hln : X.env.kindOf n = some .local := by rfl) (hs : X.stack = X.env :: X.outer := by rfl) (hf : X.env.frame = some X.env.locals := by rfl) :
    DS X Γ B Wx (RTn Γ) (.Try body [.ExceptHandler (some (.Tuple [.Name x1 np1, .Name x2 np2] kk tpos)) (some n) (b₀ :: suite) pos'] [] [] pos) (sTry mb i caught ms) :=
  ps_weak (ps_try_as2 (tb := fun W' => tDS Γ B W' (RTn Γ) mb) (ts := fun a cls d => tDS Γ (bpx B a cls d) Wx0 (RTn Γ) ms) hs hf nd hi hln n1 n2 (fun W' pn xe tk _ => hb W' pn xe tk)
    (fun a oe cls d pn hz hfd => hsu a oe (bpx B a cls d) pn fun b c dx ⟨h1, h2, h3⟩ => ⟨oe, by rw [h1]; exact List.mem_cons_self .., by rw [h2]; subst h3; exact hz, hfd⟩))
    fun D0 σ H ⟨w, ρ, z, S, q⟩ => ⟨w, ρ, z, S, by
      unfold sTry at q
      cases e : mb ρ z with
      | nx ρ' z' => rw [e] at q; exact q
      | rt d z' => rw [e] at q; exact q
      | bk ρ' z' => rw [e] at q; exact q
      | ct ρ' z' => rw [e] at q; exact q
      | bad => rw [e] at q; exact q.elim
      | exc x ρ' z' =>
        rw [e] at q
        dsimp only at q
        split at q
        · rename_i hh
          obtain ⟨h1, h2, h3⟩ := hh
          intro cls dd σ' w' H' S' r
          have ec : cls = .ref (Γ.cls x.c) := r.1
          refine ⟨by rw [ec]; exact hcl _ h1, fun a ha => ⟨w', _, z', S'.setX h3 r h2, ?_⟩⟩
          cases em : ms (ρ'.set i (some (.exn x))) z' with
          | rt d z2 => rw [em] at q; exact fun v w2 H2 I2 s2 rv => q v w2 H2 I2 s2 rv
          | nx _ _ => rw [em] at q; exact q.elim
          | bk _ _ => rw [em] at q; exact q.elim
          | ct _ _ => rw [em] at q; exact q.elim
          | exc _ _ _ => rw [em] at q; exact q.elim
          | bad => rw [em] at q; exact q.elim
        · exact q.elim⟩
end
end NW
set_option maxHeartbeats 400000
/-! append, insert on a slot's own list; in, not in of flat data. -/
namespace NW
open PySem PySem.Spec PyProof.Rows L2
section
variable {X : Cx} {Γ : Gam} {B : Bs} {Wx : WX} {RT : RTT} {k j i : Nat} {a b e : Expr} {es : List Expr} {m ma mb : M D} {ml : M (List D)} {pos : Pos} {x : Str}
/-! ### in, not in -/
def flatD : D → Bool
  | .non => true
  | .bl _ => true
  | .int _ => true
  | .str _ => true
  | _ => false
def vOf : D → V
  | .non => .non
  | .bl b => .bl b
  | .int i => .int i
  | .str x => .str x
  | _ => .non
theorem Rep.flat {w : W} {d : D} {v : V} (r : Rep Γ w d v) (h : flatD d = true) : v = vOf d ∧ flatV v = true := by
  cases r with
  | non => exact ⟨rfl, rfl⟩
  | bl b => exact ⟨rfl, rfl⟩
  | int n => exact ⟨rfl, rfl⟩
  | str y => exact ⟨rfl, rfl⟩
  | tup _ _ => cases h
  | lst _ _ => cases h
  | obj _ _ _ => cases h
  | mob _ => cases h
theorem RepL.flat {w : W} : ∀ {ds : List D} {vs : List V}, RepL Γ w ds vs → ds.all flatD = true → vs = ds.map vOf ∧ vs.all flatV = true
  | [], _, r, _ => by cases r; exact ⟨rfl, rfl⟩
  | d :: ds, _, r, h => by
    cases r with
    | cons r1 r2 =>
      rw [List.all_cons, Bool.and_eq_true] at h
      obtain ⟨e1, f1⟩ := r1.flat h.1
      obtain ⟨e2, f2⟩ := RepL.flat r2 h.2
      subst e1
      exact ⟨by rw [List.map_cons, ← e2], by rw [List.all_cons, f1, f2]; rfl⟩
def seqOf (z : Z) : D → Option (List D)
  | .lst ds => some ds
  | .tup ds => some ds
  | .mob n => match z[n]? with
    | some (.lst ds) => some ds
    | _ => none
  | _ => none
def inF (neg : Bool) (z : Z) (x y : D) : Option Bool := (seqOf z y).bind fun ds => if flatD x = true ∧ ds.all flatD = true then some (if neg then !inV (vOf x) (ds.map vOf) else inV (vOf x) (ds.map vOf)) else none
theorem RepB.seqAt {w : W} {ρ : En} {z : Z} {σ : Sl} {H : Hp} {d : D} {ds : List D} {v : V} (r : RepB Γ w H d v) (S : SI Γ B w ρ z σ H) (h : seqOf z d = some ds) : ∃ p xs, v = .ref p ∧ (SqL Γ.K H p xs ∨ SqT Γ.K H p xs) ∧ RepL Γ w ds xs := by
  unfold seqOf at h
  split at h
  · cases h
    obtain ⟨p, xs, rfl, h1, h2⟩ := r.list S
    exact ⟨p, xs, rfl, .inl h1.sq, h2⟩
  · cases h
    obtain ⟨p, xs, rfl, h1, h2⟩ := r.tuple S
    exact ⟨p, xs, rfl, .inr h1, h2⟩
  · split at h
    · rename_i hz
      cases h
      obtain ⟨p, xs, rfl, _, h1, h2⟩ := r.mobl S hz
      exact ⟨p, xs, rfl, .inl (SqL.of h1), h2⟩
    · cases h
  · cases h
theorem RepB.flat {w : W} {H : Hp} {d : D} {v : V} (r : RepB Γ w H d v) (h : flatD d = true) : v = vOf d ∧ flatV v = true := by
  cases r with
  | of r => exact r.flat h
  | own _ _ _ => cases h
theorem ob_inF {neg : Bool} : OpB Γ B (rIn Γ.K neg) (inF neg) := by
  intro w ρ z σ H d e k v u Q S rv ru h q
  unfold inF at h
  obtain ⟨ds, h1, h2⟩ := Option.bind_eq_some_iff.mp h
  obtain ⟨⟨h3, h4⟩, rfl⟩ : (flatD d = true ∧ ds.all flatD = true) ∧ (if neg then !inV (vOf d) (ds.map vOf) else inV (vOf d) (ds.map vOf)) = k := by
    split at h2
    · exact ⟨by assumption, Option.some.inj h2⟩
    · cases h2
  obtain ⟨p, xs, rfl, g1, g2⟩ := ru.seqAt S h1
  obtain ⟨rfl, f1⟩ := rv.flat h3
  obtain ⟨rfl, f2⟩ := g2.flat h4
  exact ⟨p, _, rfl, g1, f1, f2, q⟩
theorem op_inK (hK : X.K = Γ.K) : OpR X (compareOp .In) (rIn Γ.K false) := by rw [← hK]; exact op_in_seq
theorem op_notInK (hK : X.K = Γ.K) : OpR X (compareOp .NotIn) (rIn Γ.K true) := by rw [← hK]; exact op_notIn_seq

/-! ### a slot's own list is changed -/
theorem SI.forget {w : W} {ρ : En} {z : Z} {σ : Sl} {H : Hp} (S : SI Γ B w ρ z σ H) (i : Nat) : SI Γ B w (ρ.set i none) z σ H := by
  have at_ : ∀ {j : Nat} {d : DV}, (ρ.set i none)[j]? = some (some d) → ρ[j]? = some (some d) := fun {j d} h => by
    by_cases e : i = j
    · subst e
      by_cases hi : i < ρ.length
      · rw [List.getElem?_set_self hi] at h; cases h
      · rw [List.getElem?_eq_none (by simpa using hi)] at h; cases h
    · rw [List.getElem?_set_ne e] at h; exact h
  exact ⟨S.wi, S.st, by rw [List.length_set]; exact S.len, fun j d h => S.sh j d (at_ h), fun j o h => S.own j o (at_ h), fun j l u v c k1 k2 => S.dis j l u v c (at_ k1) (at_ k2), fun j y h => S.exn j y (at_ h), fun j y h => S.fnv j y (at_ h)⟩
theorem SI.mutOwn {w : W} {ρ : En} {z : Z} {σ : Sl} {H : Hp} (S : SI Γ B w ρ z σ H) {ds es : List D} {p : Addr} {ys : List V} (ho : ρ[i]? = some (some (.own (.lst ds)))) (hp : σ[i]? = some (some (.ref p))) (r : RepL Γ w es ys) :
    SI Γ B w (ρ.set i (some (.own (.lst es)))) z σ (upd H p (.lst ys)) := by
  obtain ⟨p', g1, ⟨xs, g2, _⟩, g3, g4, g5⟩ := S.own i _ ho
  rw [hp] at g1
  cases g1
  have hi : i < ρ.length := (List.getElem?_eq_some_iff.mp ho).1
  have no : ∀ (j : Nat) (u : OV), (ρ.set i none)[j]? = some (some (.own u)) → σ[j]? ≠ some (some (.ref p)) := fun j u h hj => by
    by_cases e : i = j
    · subst e
      rw [List.getElem?_set_self hi] at h; cases h
    · rw [List.getElem?_set_ne e] at h
      exact e (S.dis i j _ _ p ho h hp hj)
  have S2 := (S.forget i).mut (o := .lst ys) g3 g4 no g5 (.inl ⟨xs, g2⟩)
  have S3 := S2.setOwn (o := .lst es) ⟨ys, upd_same, r⟩ g3 g4 g5 no (i := i) (by rw [List.length_set]; exact hi)
  rw [List.set_set] at S3
  have hσ : σ.set i (some (.ref p)) = σ := by
    apply List.ext_getElem?
    intro j
    by_cases e : i = j
    · subst e
      rw [List.getElem?_set_self (by rw [← S.len]; exact hi), hp]
    · rw [List.getElem?_set_ne e]
  rw [hσ] at S3
  exact S3
def sOwnM (i : Nat) (f : List D → List D → Option (List D)) (ml : M (List D)) : MS := fun ρ z => match ρ[i]? with
  | some (some (.own (.lst xs))) => (ml ρ z).to ρ fun ds z1 => match f xs ds with
    | some ys => .nx (ρ.set i (some (.own (.lst ys)))) z1
    | none => .bad
  | _ => .bad
abbrev RMt := V → List V → Hp → VK → Prop
/-- a method's reading r is met by the function f on the list -/
def MtF (Γ : Gam) (r : RMt) (f : List D → List D → Option (List D)) : Prop := ∀ {w : W} {H : Hp} {p : Addr} {xs : List D} {vx : List V} {ds : List D} {vs : List V} {ys : List D} {Q : VK},
  H p = some (.lst vx) → RepL Γ w xs vx → RepL Γ w ds vs → f xs ds = some ys → (∀ vy, RepL Γ w ys vy → Q .non (upd H p (.lst vy))) → r (.ref p) vs H Q
theorem s_ownM (i : Nat) {name : Str} {id : String} {r : RMt} {f : List D → List D → Option (List D)} {apos cpos np : Pos} (hK : X.K = Γ.K) (slot : Slot "list" name id) (hty : typeOf (.builtin id) = pure (.type "method_descriptor")) (hm : MtR X id r) (hf : MtF Γ r f) (ha : PA X (e :: es) (tDA Γ B Wx ml))
    (hN : X.N[i]? = some x := by rfl) (hv : Vis X.env.scope x := by first | exact Or.inl rfl | exact Or.inr (Or.inl rfl) | exact Or.inr (Or.inr rfl)) (hd : (x == ("__debug__" : Str)) = false := by decide) (hcd : (x == ("__classdict__" : Str)) = false := by decide)
    (hbase : attributeBase (.Name x np) name X.env (eval (.Name x np) X.env) = eval (.Name x np) X.env := by rfl)
    (hfew : ((backTo cpos (starEach (e :: es) X.env)).all (fun x => !x.1) && (backToKw cpos (keywordEach [] X.env)).all (fun x => x.1.isSome)
      && decide ((e :: es).length + ([] : List Keyword).length + (if ([] : List Keyword).isEmpty then 0 else 1) < 30)) = true := by rfl)
    (hline : (apos.endLine == cpos.line) = true := by rfl) (hst : starEach (e :: es) X.env = (false, eval e X.env) :: starEach es X.env := by rfl) (hpl : (backTo cpos (starEach es X.env)).any (·.1) = false := by rfl)
    (hs : swapsWith (.Call (.Attribute (.Name x np) name apos) (e :: es) [] cpos) none pos.line X.env = pure false := by rfl) :
    DS X Γ B Wx RT (.Expr (.Call (.Attribute (.Name x np) name apos) (e :: es) [] cpos) pos) (sOwnM i f ml) :=
  ps_weak (ps_expr (pe_bm PySem.F.plainAttrs_list slot hty hm (pe_var (i := i) hN hv hd hcd) ha hbase hfew hline hst hpl) hs) fun D0 σ H ⟨w, ρ, z, S, q⟩ => by
    unfold sOwnM at q
    split at q
    · rename_i xs ho
      obtain ⟨p, g1, ⟨vx, g2, g2'⟩, g3, g4, g5⟩ := S.own i _ ho
      refine ⟨_, g1, .inl ⟨rfl, vx, SqL.of g2⟩, w, ρ, z, S, q.to.mono fun ds w1 z1 H1 _ _ ⟨S1, s1, q1⟩ vs rvs => ?_⟩
      cases e1 : f xs ds with
      | none => rw [e1] at q1; exact q1.elim
      | some ys =>
        rw [e1] at q1
        obtain ⟨p', h1, ⟨vx1, h2, h2'⟩, h3, h4, h5⟩ := S1.own i _ ho
        rw [g1] at h1
        cases h1
        exact hf h2 h2' rvs e1 fun vy ry => q1 σ w1 _ (S1.mutOwn ho g1 ry) (.refl _)
    · exact q.elim
def appendF (xs ds : List D) : Option (List D) := match ds with
  | [d] => if xs.length < sizeLine then some (xs ++ [d]) else none
  | _ => none
def insertF (xs ds : List D) : Option (List D) := match ds with
  | [.int i, d] => if xs.length < sizeLine ∧ 0 ≤ i ∧ i < 2 ^ 63 then some (xs.take i.toNat ++ [d] ++ xs.drop i.toNat) else none
  | _ => none
theorem mf_append : MtF Γ rAppend appendF := by
  intro w H p xs vx ds vs ys Q h1 h2 h3 h4 h5
  unfold appendF at h4
  split at h4
  · obtain ⟨rfl, hz⟩ := ite_some h4
    cases h3 with
    | cons r1 r2 =>
      cases r2
      exact ⟨p, vx, _, rfl, rfl, h1, by rw [h2.length]; exact hz, h5 _ (h2.append (.cons r1 .nil))⟩
  · cases h4
abbrev rInsert : RMt := fun x vs H Q => ∃ (l : Addr) (xs : List V) (i : Int) (y : V), x = .ref l ∧ vs = [.int i, y] ∧ H l = some (.lst xs) ∧ xs.length < sizeLine ∧ 0 ≤ i ∧ i < 2 ^ 63 ∧ Q .non (upd H l (.lst (xs.take i.toNat ++ [y] ++ xs.drop i.toNat)))
theorem mf_insert : MtF Γ rInsert insertF := by
  intro w H p xs vx ds vs ys Q h1 h2 h3 h4 h5
  unfold insertF at h4
  split at h4
  · obtain ⟨rfl, hz, h0, h9⟩ := ite_some h4
    cases h3 with
    | cons r1 r2 =>
      cases r1
      cases r2 with
      | cons r2 r3 =>
        cases r3
        exact ⟨p, vx, _, _, rfl, rfl, h1, by rw [h2.length]; exact hz, h0, h9, h5 _ (((h2.take _).append (.cons r2 .nil)).append (h2.drop _))⟩
  · cases h4
end
end NW
set_option maxHeartbeats 400000
/-! enumerate(list), zip of two lists or two tuples. -/
namespace NW
open PySem PySem.Spec PyProof.Rows L2
section
variable {X : Cx} {Γ : Gam} {B : Bs} {Wx : WX} {k : Nat} {a b e tg : Expr} {es : List Expr} {m ma mb : M D} {ml : M (List D)} {pos tpos : Pos} {elts : List Expr} {kk : Nat}
def enumD (ds : List D) : List D := ds.mapIdx fun i d => .tup [.int (i : Int), d]
def zipD (xs ys : List D) : List D := List.zipWith (fun a b => .tup [a, b]) xs ys
/-- a new pair of known things -/
theorem WI.pair {w : W} {z : Z} {H : Hp} (I : WI Γ w z H) {T : Addr} {d e : D} {x y : V} (hT : H T = none) (rd : Rep Γ w d x) (re : Rep Γ w e y) : ∃ w', WI Γ w' z (upd H T (.tup [x, y])) ∧ Step w H w' (upd H T (.tup [x, y])) ∧ Rep Γ w' (.tup [d, e]) (.ref T) := by
  obtain ⟨I2, s2⟩ := I.new (o := .tup [x, y]) hT
  exact ⟨_, I2, s2, .tup (.inl (.inl upd_same)) (.cons (rd.step s2) (.cons (re.step s2) .nil))⟩
theorem it_enum {Fut : W → Hp → Prop} {ds : List D} {a : Addr} (r : ∀ w H z, Fut w H → WI Γ w z H → ∃ xs, SqL Γ.K H a xs ∧ RepL Γ w ds xs) : ItD Γ Fut (Ite Γ.K a) (enumD ds) where
  go := fun i w z H f I hi => by
    obtain ⟨xs, h1, h2⟩ := r w H z f I
    have hx : i < xs.length := by rw [h2.length]; simpa [enumD] using hi
    exact ⟨xs, xs[i], h1, List.getElem?_eq_getElem hx⟩
  yld := fun i w z H x H' d f I hd y => by
    obtain ⟨T, x0, rfl, hT, rfl, h⟩ := y
    obtain ⟨xs, h1, h2⟩ := r w H z f I
    unfold enumD at hd
    rw [List.getElem?_mapIdx] at hd
    obtain ⟨d0, hd0, rfl⟩ := Option.map_eq_some_iff.mp hd
    obtain ⟨v, h3, h4⟩ := h2.get hd0
    rw [h xs h1] at h3
    cases h3
    exact I.pair hT (.int _) h4
  stop := fun w z H f I => by
    obtain ⟨xs, h1, h2⟩ := r w H z f I
    exact ⟨xs, h1, by rw [h2.length]; simp [enumD]⟩
theorem i_enum {p : Pos} (hK : X.K = Γ.K) (hm : X.mg "enumerate" = none) (he : PE X e (tB Γ B Wx m)) (hg : Gl X "enumerate" := by rfl) (hs : starEach [e] X.env = [(false, eval e X.env)] := by rfl) (hs2 : starEach [e] X.env = (false, eval e X.env) :: starEach [] X.env := by rfl) :
    PI X (.Tuple elts kk tpos) (.Call (.Name "enumerate" p) [e] [] pos) (tBI Γ B Wx (mMap enumD (mBind m fun d => mOpt fun z => match d with
      | .lst ds => some ds
      | _ => none))) := pi_weak (pi_enum hg hm (pa_cons he pa_nil hs2) hs) fun σ H R ⟨w, ρ, z, S, q⟩ => by
  rw [hK]
  refine ⟨w, ρ, z, S, (resTo.map q).bind.mono fun d w1 z1 H1 _ _ ⟨S1, s1, q1⟩ v rv => ?_⟩
  obtain ⟨ds, hd, q2⟩ := q1.opt
  have q3 := q2.ok S1
  split at hd
  · cases hd
    obtain ⟨p, xs, rfl, h1, h2⟩ := rv.list S1
    refine ⟨_, _, rfl, h1.sq, q3 _ (fun w2 H2 => Step w1 H1 w2 H2) (fun _ _ h => h) (it_enum fun w2 H2 z2 f I2 => ?_)⟩
    have r2 := rv.step f
    cases r2 with
    | of r2 => cases r2 with
      | lst g1 g2 => exact ⟨_, (SqS.le I2.le g1).sq, g2⟩
    | own g1 _ _ => obtain ⟨ys, g1, g2⟩ := g1; exact ⟨_, SqL.of g1, g2⟩
  · cases hd
/-- the list is shared: as long as the world grows -/
theorem i_enumD {p : Pos} (hK : X.K = Γ.K) (hm : X.mg "enumerate" = none) (he : PE X e (tD Γ B Wx m)) (hg : Gl X "enumerate" := by rfl) (hs : starEach [e] X.env = [(false, eval e X.env)] := by rfl) (hs2 : starEach [e] X.env = (false, eval e X.env) :: starEach [] X.env := by rfl) :
    PI X (.Tuple elts kk tpos) (.Call (.Name "enumerate" p) [e] [] pos) (tDI Γ B Wx (mMap enumD (mBind m fun d => mOpt fun z => match d with
      | .lst ds => some ds
      | _ => none))) := pi_weak (pi_enum hg hm (pa_cons he pa_nil hs2) hs) fun σ H R ⟨w, ρ, z, S, q⟩ => by
  rw [hK]
  refine ⟨w, ρ, z, S, (resTo.map q).bind.mono fun d w1 z1 H1 _ _ ⟨S1, s1, q1⟩ v rv => ?_⟩
  obtain ⟨ds, hd, q2⟩ := q1.opt
  have q3 := q2.ok S1
  split at hd
  · cases hd
    cases rv with
    | lst h1 h2 => exact ⟨_, _, rfl, (SqS.le S1.wi.le h1).sq, q3 _ (fun w2 H2 => Ext w1 w2) (fun _ _ h => h) (it_enum fun w2 H2 z2 f I2 => ⟨_, (SqS.le I2.le (SqS.le f.r h1)).sq, h2.ext f⟩)⟩
  · cases hd
theorem it_zipL {Fut : W → Hp → Prop} {ds es : List D} {a b : Addr} (r : ∀ w H z, Fut w H → WI Γ w z H → ∃ xs ys, SqL Γ.K H a xs ∧ SqL Γ.K H b ys ∧ RepL Γ w ds xs ∧ RepL Γ w es ys) : ItD Γ Fut (Itz Γ.K a b) (zipD ds es) where
  go := fun i w z H f I hi => by
    obtain ⟨xs, ys, h1, h2, h3, h4⟩ := r w H z f I
    have hi : i < min ds.length es.length := by simpa [zipD] using hi
    have hx : i < xs.length := by rw [h3.length]; omega
    have hy : i < ys.length := by rw [h4.length]; omega
    exact ⟨xs, ys, xs[i], ys[i], h1, h2, List.getElem?_eq_getElem hx, List.getElem?_eq_getElem hy⟩
  yld := fun i w z H x H' d f I hd y => by
    obtain ⟨T, x0, y0, rfl, hT, rfl, hx, hy⟩ := y
    obtain ⟨xs, ys, h1, h2, h3, h4⟩ := r w H z f I
    unfold zipD at hd
    rw [List.getElem?_zipWith] at hd
    split at hd
    · rename_i d1 d2 e1 e2
      cases hd
      obtain ⟨v1, g1, g2⟩ := h3.get e1
      obtain ⟨v2, g3, g4⟩ := h4.get e2
      rw [hx xs h1] at g1
      rw [hy ys h2] at g3
      cases g1; cases g3
      exact I.pair hT g2 g4
    · cases hd
  stop := fun w z H f I => by
    obtain ⟨xs, ys, h1, h2, h3, h4⟩ := r w H z f I
    refine ⟨xs, ys, h1, h2, ?_⟩
    rw [h3.length, h4.length]
    simp only [zipD, List.length_zipWith]
    omega
theorem it_zipT {Fut : W → Hp → Prop} {ds es : List D} {a b : Addr} (r : ∀ w H z, Fut w H → WI Γ w z H → ∃ xs ys, SqT Γ.K H a xs ∧ SqT Γ.K H b ys ∧ RepL Γ w ds xs ∧ RepL Γ w es ys) : ItD Γ Fut (RZ.ItzT Γ.K a b) (zipD ds es) where
  go := fun i w z H f I hi => by
    obtain ⟨xs, ys, h1, h2, h3, h4⟩ := r w H z f I
    have hi : i < min ds.length es.length := by simpa [zipD] using hi
    have hx : i < xs.length := by rw [h3.length]; omega
    have hy : i < ys.length := by rw [h4.length]; omega
    exact ⟨xs, ys, xs[i], ys[i], h1, h2, List.getElem?_eq_getElem hx, List.getElem?_eq_getElem hy⟩
  yld := fun i w z H x H' d f I hd y => by
    obtain ⟨T, x0, y0, rfl, hT, rfl, hx, hy⟩ := y
    obtain ⟨xs, ys, h1, h2, h3, h4⟩ := r w H z f I
    unfold zipD at hd
    rw [List.getElem?_zipWith] at hd
    split at hd
    · rename_i d1 d2 e1 e2
      cases hd
      obtain ⟨v1, g1, g2⟩ := h3.get e1
      obtain ⟨v2, g3, g4⟩ := h4.get e2
      rw [hx xs h1] at g1
      rw [hy ys h2] at g3
      cases g1; cases g3
      exact I.pair hT g2 g4
    · cases hd
  stop := fun w z H f I => by
    obtain ⟨xs, ys, h1, h2, h3, h4⟩ := r w H z f I
    refine ⟨xs, ys, h1, h2, ?_⟩
    rw [h3.length, h4.length]
    simp only [zipD, List.length_zipWith]
    omega
def zipOf (_ : Z) : List D → Option (List D)
  | [.lst xs, .lst ys] => some (zipD xs ys)
  | [.tup xs, .tup ys] => some (zipD xs ys)
  | _ => none
theorem i_zip {p : Pos} (hK : X.K = Γ.K) (hm : X.mg "zip" = none) (ha : PA X [a, b] (tDA Γ B Wx ml)) (hg : Gl X "zip" := by rfl) (hs : starEach [a, b] X.env = (false, eval a X.env) :: starEach [b] X.env := by rfl) (hpl : (backTo pos (starEach [b] X.env)).any (·.1) = false := by rfl) :
    PI X (.Tuple elts kk tpos) (.Call (.Name "zip" p) [a, b] [] pos) (tDI Γ B Wx (mCall zipOf ml)) := pi_weak (RZ.pi_zipA hg hm ha hs hpl) fun σ H R ⟨w, ρ, z, S, q⟩ => by
  rw [hK]
  refine ⟨w, ρ, z, S, q.bind.mono fun ds w1 z1 H1 _ _ ⟨S1, s1, q1⟩ vs rvs => ?_⟩
  obtain ⟨es, hd, q2⟩ := q1.opt
  have q3 := q2.ok S1
  unfold zipOf at hd
  split at hd
  · cases hd
    cases rvs with
    | cons r1 r2 => cases r2 with
      | cons r2 r3 =>
        cases r3
        cases r1 with
        | lst g1 g2 => cases r2 with
          | lst g3 g4 => exact ⟨_, _, _, _, rfl, .inl ⟨(SqS.le S1.wi.le g1).sq, (SqS.le S1.wi.le g3).sq, q3 _ (fun w2 H2 => Ext w1 w2) (fun _ _ h => h) (it_zipL fun w2 H2 z2 f I2 => ⟨_, _, (SqS.le I2.le (SqS.le f.r g1)).sq, (SqS.le I2.le (SqS.le f.r g3)).sq, g2.ext f, g4.ext f⟩)⟩⟩
  · cases hd
    cases rvs with
    | cons r1 r2 => cases r2 with
      | cons r2 r3 =>
        cases r3
        cases r1 with
        | tup g1 g2 => cases r2 with
          | tup g3 g4 => exact ⟨_, _, _, _, rfl, .inr ⟨S1.KT g1, S1.KT g3, q3 _ (fun w2 H2 => Ext w1 w2) (fun _ _ h => h) (it_zipT fun w2 H2 z2 f I2 => ⟨_, _, SqT.le I2.le (SqT.le f.r g1), SqT.le I2.le (SqT.le f.r g3), g2.ext f, g4.ext f⟩)⟩⟩
  · cases hd
end
end NW
set_option maxHeartbeats 400000
/-! len(o) by an own __len__, C.F, xs[::-1]. -/
namespace NW
open PySem PySem.Spec PyProof.Rows L2
section
variable {X : Cx} {Γ : Gam} {B : Bs} {Wx : WX} {k j : Nat} {a b e : Expr} {es : List Expr} {m ma mb : M D} {ml : M (List D)} {pos p : Pos} {f : Addr} {fd : FuncData} {ps : List Str} {F : FM} {x : Str}
/-- a def called by a built-in, nothing raised -/
theorem run_in1 {sp : Sp} {pins : List (Addr × Obj)} {σ : Sl} {H : Hp} {s : Shared} {Q : VK} {us : List Value} {vs : List V} (G : FnG X.prog X.w X.K X.mg X.base k f fd ps sp) (hr : Room (k + 1) X.A) (hg : X.A.guards = some []) (hb : Binds X.K fd ps []) (I : Inv X pins σ H s) (r : Vals vs us) (h : sp vs H Q (fun _ _ _ => False)) :
    wpAny (model X.prog X.w) X.A.in1 (call (.ref f) us) (EP X pins σ Q) X.xe s := by
  have e0 : Env0 X.prog X.w X.K X.mg X.base X.A.in1 X.stack s H := by
    have e := I.env0
    exact ⟨e.frames, e.mod, e.bs, e.bsz, e.funs, e.frf, e.hok, e.bare⟩
  have hl : us.length = ps.length := by rw [← r.length]; exact G.len _ _ _ _ h
  have bb := hb s us I.kIn (by rw [List.append_nil]; exact hl)
  rw [List.append_nil] at bb
  refine wpAny_call (codeAny_mono (G.run X.A.in1 X.stack s H ⟨us, []⟩ us vs Q _ hr.in1 hg e0 bb r h) fun r s' hq => ?_)
  cases r with
  | error e => obtain ⟨_, _, _, _, _, _, _, _, _, _, _, _, z⟩ := hq; exact z.elim
  | ok fl =>
    cases fl with
    | ret u => exact I.after hq
    | next => exact False.elim hq
    | brk => exact False.elim hq
    | cont => exact False.elim hq
def nnI : D → Option D
  | .int i => if 0 ≤ i ∧ i < 2 ^ 63 then some (.int i) else none
  | _ => none
def okR (r : Res D) : Res D := match r with
  | .ok d z => .ok d z
  | _ => .bad
def mLenO (c : Nat) (F : FM) (m : M D) : M D := mBind (mBind (mOp1 (methD c "__len__") m) fun o _ z => okR (F [o] z)) fun d => mOpt fun _ => nnI d
theorem d_lenO (c : Nat) (V : Dv Γ X Wx j) (hs : PySem.W.findIn X.K (.ref (Γ.cls c)) "__len__" = some (some (.ref f))) (hf : PySem.W.isFn X.K (.ref f) = true) (G : FnG X.prog X.w X.K X.mg X.base k f fd ps (spD Γ 1 F)) (hb : Binds X.K fd ps []) (hm : X.mg "len" = none) (he : PE X e (tD Γ B Wx m)) (hj : k + 1 ≤ j := by decide) (hg : Gl X "len" := by rfl)
    (hst : starEach [e] X.env = (false, eval e X.env) :: starEach [] X.env := by rfl) (hpl : (backTo pos (starEach [] X.env)).any (·.1) = false := by rfl) : PE X (.Call (.Name "len" p) [e] [] pos) (tD Γ B Wx (mLenO c F m)) := by
  have hc : CallR X (.builtin "len") (fun vs H Q => ∃ a dx fs, vs = [.ref a] ∧ H a = some (.ins (Γ.cls c) dx fs) ∧ spD Γ 1 F [.ref a] H (fun v H' => ∃ n : Int, v = .int n ∧ (0 ≤ n ∧ n < 2 ^ 63) ∧ Q (.int n) H') (fun _ _ _ => False)) := by
    rintro pins s σ H vs us Q I r ⟨a, dx, fs, rfl, ha, hq⟩
    obtain ⟨u, rfl, ru⟩ := r.one
    cases ru
    obtain ⟨mA, J, _⟩ := ins_get I.hok ha
    obtain ⟨od, J, _⟩ := J.look
    obtain ⟨m0, hF⟩ := I.fr
    refine PySem.W.len_K hF I.ok.mod.kin J hs hf (wpAny_mono (run_in1 (us := [.ref a]) (vs := [.ref a]) G (V.room.mono hj) V.grd hb I (.cons rfl .nil) hq) (fun v s' z => ?_) fun _ _ z => z)
    obtain ⟨v', H', I', rv, n, rfl, hn, q⟩ := z
    obtain ⟨t, rfl⟩ := rv
    exact ⟨hn, .int n, H', I'.tok _, ⟨_, rfl⟩, q⟩
  refine pe_weak (pe_callB hc hg hm (by decide +kernel) (pa_cons he pa_nil hst) (by decide) (by decide) hst hpl) fun σ H Q ⟨w, ρ, z, S, q⟩ => ⟨w, ρ, z, S, q.bind.bind.bind.mono fun d w1 z1 H1 _ _ ⟨S1, s1, q1⟩ v rv => ?_⟩
  obtain ⟨o, ho, q2⟩ := q1.opt
  obtain ⟨rfl, fs, h1, h2⟩ := methD_at ho
  obtain ⟨a, dx, fvs, rfl, g1, g2, g3⟩ := rv.insAt S1.wi h1
  have q3 := (q2 w1 H1 S1 (.refl _ _)).2.2
  refine ⟨a, dx, fvs, rfl, g1, rfl, w1, z1, [o], S1.wi, .cons rv .nil, ?_⟩
  have q4 : resTo Γ B Wx w1 ρ σ H1 (okR (F [o] z1)) _ := q3
  cases ef : F [o] z1 with
  | ok d z2 =>
    rw [ef] at q4
    intro v w' H' I' s' rv'
    obtain ⟨S5, s5, q5⟩ := q4 w' H' (S1.carry I' s') s'
    obtain ⟨d', hd, q6⟩ := q5.opt
    unfold nnI at hd
    split at hd
    · obtain ⟨rfl, hn⟩ := ite_some hd
      cases rv'
      exact ⟨_, rfl, hn, q6.ok S5 _ (.int _)⟩
    · cases hd
  | exc y z2 => rw [ef] at q4; exact q4.elim
  | bad => rw [ef] at q4; exact q4.elim
/-- C.F, an int of the class -/
theorem d_cint {C : Addr} {mc : Value} {ff : Str} {i : Int} {cn : Str} {np : Pos} (hm : X.mg cn = some (.ref C)) (r : ClX.CRead X.K C mc) (h : ∃ t, PySem.W.findCls X.K (.ref C) mc ff = some (.val (.int i t))) (hg : Gl X cn := by rfl) (hd : (cn == ("__debug__" : Str)) = false := by decide)
    (hb : attributeBase (.Name cn np) ff X.env (eval (.Name cn np) X.env) = eval (.Name cn np) X.env := by rfl) : PE X (.Attribute (.Name cn np) ff pos) (tD Γ B Wx (mRet (.int i))) := by
  obtain ⟨t, h⟩ := h
  exact pe_weak (ClX.pe_cval (pe_glob (v := .ref C) hg hm rfl hd) hb) fun σ H Q ⟨w, ρ, z, S, q⟩ => ⟨C, mc, .int i, .int i t, rfl, r, ⟨h, ⟨t, rfl⟩⟩, q.ok S _ (.int i)⟩
/-- xs[::-1] -/
def revL (z : Z) (d : D) : Option (List D) := match d with
  | .lst ds => some ds.reverse
  | .mob n => match z[n]? with
    | some (.lst ds) => some ds.reverse
    | _ => none
  | _ => none
theorem f_revL {kk : Nat} {p1 p2 p3 : Pos} (hK : X.K = Γ.K) (he : PE X e (tB Γ B Wx m)) : PE X (.Subscript e (.Slice none none (some (.UnaryOp .USub (.Constant (.int 1) kk p1) p2)) p3) pos) (tF Γ B Wx (mOp1 revL m)) := pe_weak (pe_revL he) fun σ H Q ⟨w, ρ, z, S, q⟩ => by
  rw [hK]
  refine ⟨w, ρ, z, S, q.bind.mono fun d w1 z1 H1 _ t1 ⟨S1, s1, q1⟩ v rv => ?_⟩
  obtain ⟨es, hd, q2⟩ := q1.opt
  have fin : ∀ {ds : List D} {xs : List V}, es = ds.reverse → RepL Γ w1 ds xs → ∀ l, H1 l = none → Q (.ref l) (upd H1 l (.lst xs.reverse)) := fun {ds xs} he hr l hl => by
    obtain ⟨S4, s4, r4, r5, r6⟩ := S1.lstO hr.reverse hl
    rw [← he] at r4
    exact q2 _ _ S4 s4 l r4 r5 r6 (none_back t1 hl)
  unfold revL at hd
  split at hd
  · cases hd
    obtain ⟨a, xs, rfl, h1, h2⟩ := rv.list S1
    exact ⟨a, xs, rfl, h1.sq, fin rfl h2⟩
  · split at hd
    · rename_i hz
      cases hd
      obtain ⟨a, xs, rfl, _, h1, h2⟩ := rv.mobl S1 hz
      exact ⟨a, xs, rfl, SqL.of h1, fin rfl h2⟩
    · cases hd
  · cases hd
end
end NW
set_option maxHeartbeats 3200000
/-! set(a list of ints), at the library's level. -/
namespace NW
open PySem PySem.Spec L2
open PySem.Calls PyProof.Rows
section
variable {P : Program} {w : World} {A : Around} {E : Value → Shared → Prop} {s : Shared}
/-- a set without members, as it is made -/
abbrev nwSet0 (w : World) : Obj := { cls := .type "set", dict := none, data := .set #[] 0 (.fresh 0 0 (!w.params.followText "set-order")) }
theorem nw_set_ints {l : Addr} {items : Array Value} (ns : List Int) {Q : Value → Shared → Prop} (hh : A.handled = none) (hl : s.heap.IsList l items) (hit : IntsAre items.toList ns) (hb : ns.length + 1 < scanBound)
    (h : ∀ (h' : Heap) (tk c : Nat), SetR w h' s.heap.objs.size (fun j => decide (j ∈ ns)) c → c ≤ ns.length → (∀ b o, s.heap.get? b = some o → h'.get? b = some o) → Q (.ref s.heap.objs.size) { s with heap := h', toks := tk }) :
    wpAny (model P w) A (call (.type "set") [.ref l]) Q E s := by
  have hn : items.size = ns.length := (Array.length_toList (xs := items)).symm.trans (IntsAre.length hit)
  obtain ⟨_, _, hmro⟩ := F.called_set.mro
  have f1 := F.called_set.made
  have f2 := F.called_set.sub
  have f3 := F.called_set.notType
  have f4 := F.called_set.canCreate
  have f5 := F.typeCall_set_1 (.ref l)
  refine wpAny_call (codeAny_of_tree ?_)
  show wpAny _ _ (callAny (.type "set") _) _ _ _
  refine wpAny_pure ⟨Code.quiet_builtin _ (by decide +kernel), codeAny_builtin F.entry_type_call ?_⟩
  rw [Around.under_plain (weight_type_call_type "set" [.ref l] []) rfl]
  repeat (any_goals (first | assumption | wp_step))
  refine codeAny_mono (code_set_led1 (.ref l) (E := E) (Q₁ := fun obj s₁ => obj = .ref s.heap.objs.size ∧ s₁ = { s with heap := s.heap.push (nwSet0 w) }) ⟨rfl, rfl⟩) fun r s₁ hr => ?_
  cases r with
  | error e => exact hr
  | ok fl => ?_
  cases fl with
  | next => exact hr.elim
  | brk => exact hr.elim
  | cont => exact hr.elim
  | ret obj =>
    obtain ⟨rfl, rfl⟩ := hr
    have hS : (s.heap.push (nwSet0 w)).get? s.heap.objs.size = some (nwSet0 w) := Heap.get?_push_size _ rfl
    have hT : Shared.TypeIs { s with heap := s.heap.push (nwSet0 w) } (.ref s.heap.objs.size) "set" := ⟨_, hS, rfl⟩
    have g1 := F.called_set.init.lookup
    have g2 := F.called_set.init.bind (.ref s.heap.objs.size)
    repeat (any_goals (first | assumption | wp_step))
    refine codeAny_mono (codeAny_call_builtin (R := wants (fun r s₂ => r = .none ∧ ∃ h' tk c, s₂ = { s with heap := h', toks := tk } ∧ SetR w h' s.heap.objs.size (fun j => decide (j ∈ ns)) c ∧ c ≤ ns.length ∧
        (∀ b o, s.heap.get? b = some o → h'.get? b = some o)) E) F.called_set.init.plain F.entry_set_init (check_set_init_1 hT ?_)) fun r₂ s₂ hr₂ => ?_
    · obtain ⟨⟨_, odict, _, oslots⟩, hol, hcl, nl, hdl⟩ := hl
      simp only at hcl hdl
      subst hcl; subst hdl
      have hl1 : (s.heap.push (nwSet0 w)).IsList l items := ⟨_, Heap.get?_push_of_some _ hol, rfl, nl, rfl⟩
      have hol' : (s.heap.push (nwSet0 w)).get? l = some { cls := .type "list", dict := odict, data := .seq items nl, slots := oslots } := Heap.get?_push_of_some _ hol
      have q1 := F.sub_list_set
      have q2 := F.sub_list_frozenset
      have hne : (Value.type "list" == Value.type "dict") = false := by decide
      unfold Builtin.«set.__init__» noKeywords Builtin.Frozenset.updateFrom
      generalize hPI : pyIter = PI
      wp_walk
      subst hPI
      refine wpAny_pyIter_list hl1 (wpAny_bind (wpAny_runValue ?_))
      have lt : l < s.heap.objs.size := Heap.lt_size hol
      have hh3 : A.in1.in1.in1.handled = none := by simp [hh]
      have sz : (s.heap.push (nwSet0 w)).objs.size = s.heap.objs.size + 1 := Heap.size_push ..
      have ne1 : l ≠ (s.heap.push (nwSet0 w)).objs.size := by rw [sz]; exact Nat.ne_of_lt (Nat.lt_succ_of_lt lt)
      have val : ∀ (i : Nat) (v : Value), items[i]? = some v → ∃ k t, ns[i]? = some k ∧ v = .int k t := fun i v hv => by
        have hi : i < ns.length := by rw [← hn]; exact (Array.getElem?_eq_some_iff.mp hv).1
        obtain ⟨t, e⟩ := PyProof.Rows.IntsAre.int_at hit i v (by rw [Array.getElem?_toList]; exact hv)
        exact ⟨ns[i], t, List.getElem?_eq_getElem hi, by rw [e, List.getD_eq_getElem?_getD, List.getElem?_eq_getElem hi] <;> rfl⟩
      refine set_update_ints ((Walks.list hh3 _ l ne1 items).toS) s.heap.objs.size (by rw [sz]; simp only [List.mem_cons, List.not_mem_nil, or_false, not_or]; exact ⟨Nat.ne_of_lt (Nat.lt_succ_self _), Nat.ne_of_gt lt⟩) ns hn hb val (items.size - 0) 0 _ (by omega) (Nat.zero_le _) ⟨⟨_, Heap.get?_push_size _ rfl, rfl, rfl⟩, (hl1.push _)⟩ ⟨0, Nat.le_refl 0, setR_new_at (Heap.get?_push_of_some _ hS)⟩ ?_
      rintro ⟨h', g', d', tk', os'⟩ c' hm hc' hS'
      cases (show g' = s.gens from hm.gens)
      cases (show d' = s.drawn from hm.drawn)
      cases (show os' = s.os from hm.os)
      show wpAny _ _ _ _ _ _
      refine wpAny_pure ?_
      show wpAny _ _ (ret Value.none) _ _ _
      refine wpAny_pure ⟨rfl, h', tk', c', rfl, hS', by rw [← hn]; exact hc', fun b o e => ?_⟩
      have hb0 : b < s.heap.objs.size := Heap.lt_size e
      exact hm.heap b o (by rw [sz]; simp only [List.mem_cons, List.not_mem_nil, or_false, not_or]; exact ⟨Nat.ne_of_lt hb0, Nat.ne_of_lt (Nat.lt_succ_of_lt hb0)⟩) (Heap.get?_push_of_some _ (Heap.get?_push_of_some _ e))
    · cases r₂ with
      | error e => exact hr₂
      | ok fl₂ => ?_
      cases fl₂ with
      | ret r =>
        obtain ⟨rfl, h', tk, c', rfl, a, b, c⟩ := hr₂
        repeat (any_goals (first | assumption | wp_step))
        exact h _ _ _ a b c
      | next => exact hr₂.elim
      | brk => exact hr₂.elim
      | cont => exact hr₂.elim
end
end NW
set_option maxHeartbeats 400000
/-! set(list of ints), set(tuple of ints) as rules for a call. -/
namespace NW
open PySem PySem.Spec PyProof.Rows L2
section
variable {X : Cx} {Γ : Gam}
def rSetI (w : World) (K : PySem.W.Frag) : List V → Hp → VK → Prop := fun vs H Q => ∃ (a : Addr) (ns : List Int), vs = [V.ref a] ∧ (SqL K H a (ns.map V.int) ∨ SqT K H a (ns.map V.int)) ∧ ns.length ≤ 4000 ∧
  ∀ (p : Addr) (c : Nat), c ≤ ns.length → H p = none → Q (.ref p) (upd H p (SetO w p (fun j => decide (j ∈ ns)) c))
theorem cr_setI (hc : X.calm = true) : CallR X (.type "set") (rSetI X.w X.K) := by
  intro pins s σ H vs us Q I r h
  obtain ⟨a, ns, rfl, hq, hl, q⟩ := h
  rw [Vals.ref1 r]
  rcases hq with hq | hq
  · obtain ⟨its, rv, pl, hz⟩ := I.list hq
    refine nw_set_ints (items := its.toArray) ns (I.ok.hd hc) pl.isList (ints_of_vals rv) (by unfold scanBound; omega) fun h' tk c R1 hcn k => ?_
    exact ⟨.ref _, _, I.laid (t' := tk) (fun b u e => k b u e) (Nat.le_refl _) (setO_new R1), rfl, q _ _ hcn (I.hok.fresh (Nat.le_refl _))⟩
  · obtain ⟨its, rv, pt, hz⟩ := I.tuple hq
    refine call_set_tupI (items := its.toArray) ns (I.ok.hd hc) pt (ints_of_vals rv) (by unfold scanBound; omega) fun h' tk c R1 hcn k => ?_
    exact ⟨.ref _, _, I.laid (t' := tk) (fun b u e => k b u e) (Nat.le_refl _) (setO_new R1), rfl, q _ _ hcn (I.hok.fresh (Nat.le_refl _))⟩
end
end NW
set_option maxHeartbeats 400000
/-! sorted(set(ints)) as a rule of data. -/
namespace NW
open PySem PySem.Spec PyProof.Rows L2
section
variable {X : Cx} {Γ : Gam} {B : Bs} {Wx : WX} {k : Nat} {e : Expr} {m : M D} {pos : Pos}
def insI (k : Int) : List Int → List Int
  | [] => [k]
  | x :: xs => if k < x then k :: x :: xs else if k = x then x :: xs else x :: insI k xs
def sortI (ns : List Int) : List Int := ns.foldr insI []
theorem mem_insI {k j : Int} : ∀ {xs : List Int}, j ∈ insI k xs ↔ j = k ∨ j ∈ xs
  | [] => by simp [insI]
  | x :: xs => by
    unfold insI
    split
    · simp
    · split
      · rename_i h; subst h; simp
      · simp only [List.mem_cons, mem_insI (xs := xs)]; constructor
        · rintro (h | h | h)
          · exact .inr (.inl h)
          · exact .inl h
          · exact .inr (.inr h)
        · rintro (h | h | h)
          · exact .inr (.inl h)
          · exact .inl h
          · exact .inr (.inr h)
theorem pw_insI {k : Int} : ∀ {xs : List Int}, xs.Pairwise (· < ·) → (insI k xs).Pairwise (· < ·)
  | [], _ => by simp [insI]
  | x :: xs, h => by
    obtain ⟨h1, h2⟩ := List.pairwise_cons.mp h
    unfold insI
    split
    · rename_i hk
      refine List.pairwise_cons.mpr ⟨fun j hj => ?_, h⟩
      rcases List.mem_cons.mp hj with rfl | hj
      · exact hk
      · have := h1 j hj; omega
    · split
      · exact h
      · refine List.pairwise_cons.mpr ⟨fun j hj => ?_, pw_insI h2⟩
        rcases mem_insI.mp hj with rfl | hj
        · omega
        · exact h1 j hj
theorem mem_sortI {j : Int} : ∀ {ns : List Int}, j ∈ sortI ns ↔ j ∈ ns
  | [] => Iff.rfl
  | n :: ns => by
    show j ∈ insI n (sortI ns) ↔ _
    rw [mem_insI, mem_sortI (ns := ns), List.mem_cons]
theorem pw_sortI : ∀ {ns : List Int}, (sortI ns).Pairwise (· < ·)
  | [] => .nil
  | _ :: ns => pw_insI (pw_sortI (ns := ns))
theorem sorted_uniq : ∀ {xs ys : List Int}, xs.Pairwise (· < ·) → ys.Pairwise (· < ·) → (∀ j, j ∈ xs ↔ j ∈ ys) → xs = ys
  | [], [], _, _, _ => rfl
  | [], y :: ys, _, _, h => by have := (h y).mpr (by simp); simp at this
  | x :: xs, [], _, _, h => by have := (h x).mp (by simp); simp at this
  | x :: xs, y :: ys, hx, hy, h => by
    obtain ⟨hx1, hx2⟩ := List.pairwise_cons.mp hx
    obtain ⟨hy1, hy2⟩ := List.pairwise_cons.mp hy
    have e : x = y := by
      have a := (h x).mp (by simp)
      have b := (h y).mpr (by simp)
      rcases List.mem_cons.mp a with a | a
      · exact a
      · rcases List.mem_cons.mp b with b | b
        · exact b.symm
        · have := hy1 x a; have := hx1 y b; omega
    subst e
    refine congrArg (x :: ·) (sorted_uniq hx2 hy2 fun j => ⟨fun hj => ?_, fun hj => ?_⟩)
    · rcases List.mem_cons.mp ((h j).mp (List.mem_cons_of_mem _ hj)) with rfl | q
      · have := hx1 j hj; omega
      · exact q
    · rcases List.mem_cons.mp ((h j).mpr (List.mem_cons_of_mem _ hj)) with rfl | q
      · have := hy1 j hj; omega
      · exact q
def intsD : List D → Option (List Int)
  | [] => some []
  | .int i :: ds => (intsD ds).map (i :: ·)
  | _ => none
theorem RepL.intsD {w : W} : ∀ {ds : List D} {xs : List V} {ns : List Int}, RepL Γ w ds xs → intsD ds = some ns → xs = ns.map V.int
  | [], _, ns, .nil, h => by cases h; rfl
  | .int i :: ds, _, ns, .cons r rr, h => by
    obtain ⟨ms, h1, rfl⟩ := Option.map_eq_some_iff.mp h
    cases r
    rw [RepL.intsD rr h1]
    rfl
/-- the list or the tuple that a set is made of -/
def sqOf (z : Z) : D → Option (List D)
  | .lst ds => some ds
  | .tup ds => some ds
  | .mob n => match z[n]? with
    | some (.lst ds) => some ds
    | _ => none
  | _ => none
theorem RepB.sqOf {w : W} {ρ : En} {z : Z} {σ : Sl} {H : Hp} {d : D} {ds : List D} {v : V} (r : RepB Γ w H d v) (S : SI Γ B w ρ z σ H) (h : sqOf z d = some ds) : ∃ a xs, v = .ref a ∧ (SqL Γ.K H a xs ∨ SqT Γ.K H a xs) ∧ RepL Γ w ds xs := by
  unfold NW.sqOf at h
  split at h
  · cases h
    obtain ⟨a, xs, rfl, h1, h2⟩ := r.list S
    exact ⟨a, xs, rfl, .inl h1.sq, h2⟩
  · cases h
    obtain ⟨a, xs, rfl, h1, h2⟩ := r.tuple S
    exact ⟨a, xs, rfl, .inr h1, h2⟩
  · split at h
    · rename_i hz
      cases h
      obtain ⟨a, xs, rfl, _, h1, h2⟩ := r.mobl S hz
      exact ⟨a, xs, rfl, .inl (SqL.of h1), h2⟩
    · cases h
  · cases h
/-- sorted(set(..)) of fewer than 64 ints -/
def sortSet (z : Z) (d : D) : Option (List D) := (sqOf z d).bind fun ds => (intsD ds).bind fun ns => if ns.length < 64 then some ((sortI ns).map D.int) else none
theorem rep_nsL {w : W} : ∀ (ns : List Int), RepL Γ w (ns.map D.int) (ns.map V.int)
  | [] => .nil
  | n :: ns => .cons (.int n) (rep_nsL ns)
theorem f_sortSet {p p2 q : Pos} (hK : X.K = Γ.K) (hm : X.mg "sorted" = none) (hm2 : X.mg "set" = none) (he : PE X e (tB Γ B Wx m)) (hc : X.calm = true := by rfl) (hg : Gl X "sorted" := by rfl) (hg2 : Gl X "set" := by rfl)
    (hs : starEach [e] X.env = (false, eval e X.env) :: starEach [] X.env := by rfl)
    (hs2 : starEach [Expr.Call (.Name "set" p2) [e] [] q] X.env = (false, eval (Expr.Call (.Name "set" p2) [e] [] q) X.env) :: starEach [] X.env := by rfl) :
    PE X (.Call (.Name "sorted" p) [.Call (.Name "set" p2) [e] [] q] [] pos) (tF Γ B Wx (mOp1 sortSet m)) :=
  pe_weak (pe_callB (cr_sortedSet hc) hg hm rfl (pa_cons (pe_callTy (cr_setI hc) hg2 hm2 rfl (pa_cons he pa_nil hs) (by decide) (by decide) hs rfl) pa_nil hs2) (by decide) (by decide) hs2 rfl) fun σ H Q ⟨w, ρ, z, S, qq⟩ => by
  refine ⟨w, ρ, z, S, qq.bind.mono fun d w1 z1 H1 _ t1 ⟨S1, s1, q1⟩ v rv => ?_⟩
  obtain ⟨es, hd, q2⟩ := q1.opt
  obtain ⟨ds, h1, hd⟩ := Option.bind_eq_some_iff.mp hd
  obtain ⟨ns, h2, hd⟩ := Option.bind_eq_some_iff.mp hd
  obtain ⟨rfl, hn⟩ := ite_some hd
  obtain ⟨a, xs, rfl, h3, h4⟩ := rv.sqOf S1 h1
  rw [h4.intsD h2] at h3
  rw [hK]
  refine ⟨a, ns, rfl, h3, by omega, fun p c hcn hp => ?_⟩
  obtain ⟨wi, st⟩ := S1.wi.newO (o := SetO X.w p (fun j => decide (j ∈ ns)) c) hp
  have S2 := S1.carry wi st
  refine ⟨p, _, c, rfl, upd_same, by omega, fun ms r hpw hmem _ hr => ?_⟩
  have e : ms = sortI ns := sorted_uniq hpw pw_sortI fun j => by rw [hmem, mem_sortI]; simp
  subst e
  obtain ⟨S4, s4, r4, r5, r6⟩ := S2.lstO (rep_nsL (sortI ns)) hr
  exact q2 _ _ S4 (st.trans s4) r r4 r5 r6 (none_back t1 (none_back st hr))
end
end NW
set_option maxHeartbeats 400000
/-! a fresh list times a constant; a tuple times an int. -/
namespace NW
open PySem PySem.Spec PyProof.Rows L2
section
variable {X : Cx} {Γ : Gam} {B : Bs} {Wx : WX} {k : Nat} {a e : Expr} {m : M D} {ml : M (List D)} {pos : Pos}
def repF (k : Int) (ds : List D) : Option (List D) := if 0 ≤ k ∧ k < 1000000 ∧ ds.length * k.toNat ≤ 16777216 then some (List.replicate k.toNat ds).flatten else none
theorem RepL.times {w : W} {ds : List D} {xs : List V} (r : RepL Γ w ds xs) : ∀ n : Nat, RepL Γ w (List.replicate n ds).flatten (List.replicate n xs).flatten
  | 0 => .nil
  | n + 1 => by
    rw [List.replicate_succ, List.flatten_cons, List.replicate_succ, List.flatten_cons]
    exact r.append (RepL.times r n)
/-- [..] * k -/
theorem f_rep {i : Int} {kk : Nat} {p : Pos} (he : PE X e (tF Γ B Wx ml)) : PE X (.BinOp e .Mult (.Constant (.int i) kk p) pos) (tF Γ B Wx (mBind ml fun ds => mOpt fun _ => repF i ds)) := pe_weak (pe_op op_rep he pe_int) fun σ H Q ⟨w, ρ, z, S, q⟩ => by
  refine ⟨w, ρ, z, S, q.bind.mono fun ds w1 z1 H1 _ t1 ⟨S1, s1, q1⟩ a oa hR hpl hH => ?_⟩
  obtain ⟨es, hd, q2⟩ := q1.opt
  obtain ⟨rfl, h0, h1, h2⟩ := ite_some hd
  obtain ⟨xs, g1, g2⟩ := oa
  have hl := g2.length
  refine ⟨a, i, xs, rfl, rfl, g1, by omega, by omega, by rw [sizeLine_eq, hl]; omega, fun l hl => ?_⟩
  obtain ⟨S4, s4, r4, r5, r6⟩ := S1.lstO (g2.times i.toNat) hl
  exact q2 _ _ S4 s4 l r4 r5 r6 (none_back t1 hl)
/-- (..) * k -/
def repT (_ : Z) : D → D → Option D
  | .tup ds, .int i => if ds ≠ [] ∧ 2 ≤ i ∧ i ≤ 1000 ∧ ds.length ≤ 1000 then some (.tup (List.replicate i.toNat ds).flatten) else none
  | _, _ => none
theorem od_repT : OpD Γ B (rRepT Γ.K) repT := by
  intro Wx w ρ z σ H d e d' v u Q S rv ru h q
  unfold repT at h
  split at h
  · obtain ⟨rfl, h0, h1, h2, h3⟩ := ite_some h
    obtain ⟨a, xs, rfl, g1, g2⟩ := rv.tuple S
    have hl := g2.length
    cases ru.int
    refine ⟨a, _, xs, rfl, rfl, g1, fun e => h0 ?_, h1, h2, by rw [hl]; omega, fun l hl => ?_⟩
    · subst e
      exact List.length_eq_zero_iff.mp (by rw [← hl]; rfl)
    · obtain ⟨S4, s4, r4⟩ := S.tup (g2.times _) hl
      exact q _ _ S4 s4 _ r4
  · cases h
end
end NW
set_option maxHeartbeats 400000
/-! a, b = x, y and a, b, c = x, y, z with plain names. -/
namespace NW
open PySem PySem.Spec PyProof.Rows L2
section
variable {X : Cx} {Γ : Gam} {B : Bs} {Wx : WX} {RT : RTT} {k : Nat} {a b c : Expr} {ml : M (List D)} {pos px py pz pt pt2 : Pos} {kt k2 : Nat} {x y z : Str}
def par2 (i j : Nat) (ds : List D) (ρ : En) : Option En := match ds with
  | [d, e] => (setE i d ρ).bind (setE j e)
  | _ => none
def sParO (g : List D → En → Option En) (ds : List D) (ρ : En) (z : Z) : SR := match g ds ρ with
  | some ρ' => .nx ρ' z
  | none => .bad
def sPar (g : List D → En → Option En) (ml : M (List D)) : MS := fun ρ z => (ml ρ z).to ρ fun ds z1 => sParO g ds ρ z1
theorem setE_some {i : Nat} {d : D} {ρ ρ' : En} (h : setE i d ρ = some ρ') : ρ' = ρ.set i (some (.sh d)) ∧ i < ρ.length := by
  unfold setE at h
  split at h
  · cases h; exact ⟨rfl, by assumption⟩
  · cases h
theorem s_par (i j : Nat) (hc : X.calm = true) (hN : X.N.Nodup) (ha : PA X [a, b] (tDA Γ B Wx ml))
    (hw : swappedStores [.Tuple [.Name x px, .Name y py] kt pt] (.Tuple [a, b] k2 pt2) X.env = pure (some [x, y]))
    (hi : X.N[i]? = some x := by rfl) (hj : X.N[j]? = some y := by rfl) (hij : i ≠ j := by decide)
    (hx : X.env.scope.names.lookup x = some .local := by rfl) (hy : X.env.scope.names.lookup y = some .local := by rfl)
    (hs : swapsWithSole [.Tuple [.Name x px, .Name y py] kt pt] (.Tuple [a, b] k2 pt2) pos.line X.env = pure false := by rfl) :
    DS X Γ B Wx RT (.Assign [.Tuple [.Name x px, .Name y py] kt pt] (.Tuple [a, b] k2 pt2) pos) (sPar (par2 i j) ml) := ps_weak (ps_par hc hN hi hj hij hx hy ha hw hs) fun D σ H ⟨w, ρ, z, S, q⟩ =>
  ⟨w, ρ, z, S, q.to.mono fun ds w1 z1 H1 _ _ ⟨S1, s1, q1⟩ vs rv => by
    unfold sParO at q1
    cases e : par2 i j ds ρ with
    | none => rw [e] at q1; exact q1.elim
    | some ρ' =>
      rw [e] at q1
      unfold par2 at e
      split at e
      · obtain ⟨ρ1, e1, e2⟩ := Option.bind_eq_some_iff.mp e
        obtain ⟨rfl, l1⟩ := setE_some e1
        obtain ⟨rfl, l2⟩ := setE_some e2
        cases rv with
        | cons r1 rr => cases rr with
          | cons r2 r3 =>
            cases r3
            exact ⟨_, _, rfl, q1 _ w1 H1 ((S1.set r1 l1).set r2 l2) (.refl _)⟩
      · cases e⟩
def par3 (i j l : Nat) (ds : List D) (ρ : En) : Option En := match ds with
  | [d, e, f] => ((setE i d ρ).bind (setE j e)).bind (setE l f)
  | _ => none
theorem s_par3 (i j l : Nat) (hc : X.calm = true) (hN : X.N.Nodup) (ha : PA X [a, b, c] (tDA Γ B Wx ml))
    (hw : swappedStores [.Tuple [.Name x px, .Name y py, .Name z pz] kt pt] (.Tuple [a, b, c] k2 pt2) X.env = pure (some [x, y, z]))
    (hi : X.N[i]? = some x := by rfl) (hj : X.N[j]? = some y := by rfl) (hl : X.N[l]? = some z := by rfl) (hij : i ≠ j := by decide) (hil : i ≠ l := by decide) (hjl : j ≠ l := by decide)
    (hx : X.env.scope.names.lookup x = some .local := by rfl) (hy : X.env.scope.names.lookup y = some .local := by rfl) (hz : X.env.scope.names.lookup z = some .local := by rfl)
    (hs : swapsWithSole [.Tuple [.Name x px, .Name y py, .Name z pz] kt pt] (.Tuple [a, b, c] k2 pt2) pos.line X.env = pure false := by rfl) :
    DS X Γ B Wx RT (.Assign [.Tuple [.Name x px, .Name y py, .Name z pz] kt pt] (.Tuple [a, b, c] k2 pt2) pos) (sPar (par3 i j l) ml) := ps_weak (ps_par3 hc hN hi hj hl hij hil hjl hx hy hz ha hw hs) fun D σ H ⟨w, ρ, z, S, q⟩ =>
  ⟨w, ρ, z, S, q.to.mono fun ds w1 z1 H1 _ _ ⟨S1, s1, q1⟩ vs rv => by
    unfold sParO at q1
    cases e : par3 i j l ds ρ with
    | none => rw [e] at q1; exact q1.elim
    | some ρ' =>
      rw [e] at q1
      unfold par3 at e
      split at e
      · obtain ⟨ρ2, e0, e3⟩ := Option.bind_eq_some_iff.mp e
        obtain ⟨ρ1, e1, e2⟩ := Option.bind_eq_some_iff.mp e0
        obtain ⟨rfl, l1⟩ := setE_some e1
        obtain ⟨rfl, l2⟩ := setE_some e2
        obtain ⟨rfl, l3⟩ := setE_some e3
        cases rv with
        | cons r1 rr => cases rr with
          | cons r2 rr => cases rr with
            | cons r3 r4 =>
              cases r4
              exact ⟨_, _, _, rfl, q1 _ w1 H1 (((S1.set r1 l1).set r2 l2).set r3 l3) (.refl _)⟩
      · cases e⟩
end
end NW
set_option maxHeartbeats 400000
/-! -i -/
namespace NW
open PySem PySem.Spec PyProof.Rows L2
section
variable {X : Cx} {Γ : Gam} {B : Bs} {Wx : WX} {e : Expr} {m : M D} {pos : Pos}
def negI (_ : Z) : D → Option D
  | .int i => some (.int (-i))
  | _ => none
theorem d_neg (he : PE X e (tB Γ B Wx m)) : PE X (.UnaryOp .USub e pos) (tD Γ B Wx (mOp1 negI m)) := pe_weak (pe_un un_neg he) fun σ H Q ⟨w, ρ, z, S, q⟩ =>
  ⟨w, ρ, z, S, q.bind.mono fun d w1 z1 H1 _ _ ⟨S1, s1, q1⟩ v rv => by
    obtain ⟨d', hd, q2⟩ := q1.opt
    unfold negI at hd
    split at hd
    · cases hd
      cases rv.int
      exact ⟨_, rfl, q2.ok S1 _ (.int _)⟩
    · cases hd⟩
end
end NW
set_option maxHeartbeats 400000
/-! a slot's own list is frozen ahead of a statement: a thing of the mirror alone. -/
namespace NW
open PySem PySem.Spec PyProof.Rows L2
section
variable {X : Cx} {Γ : Gam} {B : Bs} {Wx : WX} {RT : RTT} {st : Stmt} {sts : List Stmt} {ms : MS}
def sFz (i : Nat) (ms : MS) : MS := fun ρ z => match ρ[i]? with
  | some (some (.own (.lst ds))) => ms (ρ.set i (some (.sh (.lst ds)))) z
  | _ => .bad
theorem SI.fz {w : W} {ρ : En} {z : Z} {σ : Sl} {H : Hp} (S : SI Γ B w ρ z σ H) {i : Nat} {ds : List D} (ho : ρ[i]? = some (some (.own (.lst ds)))) : ∃ w', SI Γ B w' (ρ.set i (some (.sh (.lst ds)))) z σ H ∧ Ext w w' := by
  obtain ⟨p, g1, g2, g3, g4, g5⟩ := S.own i _ ho
  have hi : i < ρ.length := (List.getElem?_eq_some_iff.mp ho).1
  have no : ∀ (j : Nat) (u : OV), (ρ.set i none)[j]? = some (some (.own u)) → σ[j]? ≠ some (some (.ref p)) := fun j u h hj => by
    by_cases e : i = j
    · subst e
      rw [List.getElem?_set_self hi] at h; cases h
    · rw [List.getElem?_set_ne e] at h
      exact e (S.dis i j _ _ p ho h g1 hj)
  obtain ⟨w2, S2, mono, r, e1, e2, e3⟩ := (S.forget i).frozen g2 g3 g4 no (.inl g5)
  have S3 := S2.set r (i := i) (by rw [List.length_set]; exact hi)
  rw [List.set_set] at S3
  have hσ : σ.set i (some (.ref p)) = σ := by
    apply List.ext_getElem?
    intro j
    by_cases e : i = j
    · subst e
      rw [List.getElem?_set_self (by rw [← S.len]; exact hi), g1]
    · rw [List.getElem?_set_ne e]
  rw [hσ] at S3
  exact ⟨w2, S3, ⟨e2, fun n a h => by rw [e1]; exact h⟩⟩
theorem fz_ds (i : Nat) {D : Ends} {σ : Sl} {H : Hp} (h : tDS Γ B Wx RT (sFz i ms) D σ H) : tDS Γ B Wx RT ms D σ H := by
  obtain ⟨w, ρ, z, S, q⟩ := h
  unfold sFz at q
  split at q
  · rename_i ds ho
    obtain ⟨w2, S2, x⟩ := S.fz ho
    exact ⟨w2, _, z, S2, srTo.ext q x⟩
  · exact q.elim
theorem s_fz (i : Nat) (h : DS X Γ B Wx RT st ms) : DS X Γ B Wx RT st (sFz i ms) := ps_weak h fun D σ H q => fz_ds i q
end
end NW
set_option maxHeartbeats 400000
/-! x[i] = d where x is a slot's own list. -/
namespace NW
open PySem PySem.Spec PyProof.Rows L2
section
variable {X : Cx} {Γ : Gam} {B : Bs} {Wx : WX} {RT : RTT} {e ie : Expr} {m mi : M D} {x : Str} {pos np tpos : Pos}
def setL (ds : List D) (iv v : D) : Option (List D) := match iv with
  | .int c => (ixN ds.length c).map fun j => ds.set j v
  | _ => none
def sOwnSet (i : Nat) (mv mi : M D) : MS := fun ρ z => (mv ρ z).to ρ fun v z1 => (mi ρ z1).to ρ fun iv z2 => match ρ[i]? with
  | some (some (.own (.lst ds))) => match setL ds iv v with
    | some ys => .nx (ρ.set i (some (.own (.lst ys)))) z2
    | none => .bad
  | _ => .bad
def sOwnSetG (i : Nat) (mv mi : M D) : MS := fun ρ z => match ρ[i]? with
  | some (some (.own (.lst _))) => sOwnSet i mv mi ρ z
  | _ => .bad
theorem own_there {w : W} {ρ : En} {z : Z} {σ : Sl} {H : Hp} (S : SI Γ B w ρ z σ H) {i : Nat} {o : OV} (h : ρ[i]? = some (some (.own o))) : ∃ a, σ[i]? = some (some (.ref a)) := let ⟨a, h, _⟩ := S.own i o h; ⟨a, h⟩
theorem s_ownSet (i : Nat) (he : PE X e (tD Γ B Wx m)) (hi : PE X ie (tD Γ B Wx mi))
    (hN : X.N[i]? = some x := by rfl) (hv : Vis X.env.scope x := by first | exact Or.inl rfl | exact Or.inr (Or.inl rfl) | exact Or.inr (Or.inr rfl)) (hd : (x == ("__debug__" : Str)) = false := by decide) (hcd : (x == ("__classdict__" : Str)) = false := by decide)
    (hsub : ∀ v, assign (.Subscript (.Name x np) ie tpos) X.env v = (do
      let ov ← holding [v] (eval (.Name x np) X.env)
      let iv ← holding [v, ov] (eval ie X.env)
      standAt tpos
      holding [v, ov, iv] (setItem ov iv v)
      release [v, ov, iv] []) := by intro _; rfl)
    (hs : swapsWithSole [.Subscript (.Name x np) ie tpos] e pos.line X.env = pure false := by rfl) (hw : swappedStores [.Subscript (.Name x np) ie tpos] e X.env = pure none := by rfl) : DS X Γ B Wx RT (.Assign [.Subscript (.Name x np) ie tpos] e pos) (sOwnSetG i m mi) :=
  ps_weak (ps_asg he (pg_sub (pe_var (i := i) hN hv hd hcd) hi set_list hsub) hs hw) fun D σ H ⟨w, ρ, z, S, q⟩ => by
    unfold sOwnSetG at q
    split at q
    · rename_i ds ho
      unfold sOwnSet at q
      refine ⟨w, ρ, z, S, q.to.mono fun v w1 z1 H1 _ _ ⟨S1, s1, q1⟩ vv rv => ?_⟩
      obtain ⟨p, g1, ⟨xs, g2, g3⟩, _⟩ := S1.own i _ ho
      refine ⟨_, g1, w1, ρ, z1, S1, q1.to.mono fun iv w2 z2 H2 _ _ ⟨S2, s2, q2⟩ vi ri => ?_⟩
      rw [ho] at q2
      dsimp only at q2
      cases e : setL ds iv v with
      | none => rw [e] at q2; exact q2.elim
      | some ys =>
        rw [e] at q2
        unfold setL at e
        split at e
        · obtain ⟨j, hj, rfl⟩ := Option.map_eq_some_iff.mp e
          obtain ⟨p', g1', ⟨xs', g2', g3'⟩, _⟩ := S2.own i _ ho
          rw [g1] at g1'
          cases g1'
          cases ri
          exact ⟨p, xs', _, j, rfl, rfl, g2', by rw [g3'.length]; exact hj, q2 σ w2 _ (S2.mutOwn ho g1 (g3'.set j (rv.step s2))) (.refl _)⟩
        · cases e
    · exact q.elim
end
end NW
set_option maxHeartbeats 2000000
/-! The end of a law that makes lambdas; a def whose code object is known; slots read either way. -/
namespace NW
open PySem PySem.Spec PyProof.Rows L2
section
variable {K : PySem.W.Frag} {mg : Str → Option Value} {base : Heap} {P : Program} {w : World}
theorem fn_dnC {x qual : Str} {st : Stmt} {f : Addr} {fd : FuncData} {k n : Nat} {F0 : FM} {cls : Nat → Addr} {tb : List (Addr × Str)} (N ps : List Str) (ms : MS) (F : Fun K x qual st f fd) (S : FnScope N ps (defScope st)) (hF : F0 = runB N.length ms) (hn : n = ps.length) {c : Addr} (hc : fd.code = .ref c)
    (hbody : ∀ (A : Around) (outer : List Env) (s : Shared) (H : Hp) (E : XK) (B : Bs), Dv ⟨K, cls, tb⟩ (CxF P w K mg base N qual st f (.ref c) A outer s H E) (WxE E) k → PassesOwn (model P w) (CxF P w K mg base N qual st f (.ref c) A outer s H E).A (CxF P w K mg base N qual st f (.ref c) A outer s H E).env (CxF P w K mg base N qual st f (.ref c) A outer s H E).xe →
      DSs (CxF P w K mg base N qual st f (.ref c) A outer s H E) ⟨K, cls, tb⟩ B (WxE E) (RTn ⟨K, cls, tb⟩) (defBody st) ms) : FnG P w K mg base (k + 1) f fd ps (spD ⟨K, cls, tb⟩ n F0) := by
  subst hF hn
  obtain ⟨oc, od, kV, doc, pm, an, cdv, ct, osl, rfl, lk, hcd⟩ := F.ex
  cases (show cdv = .ref c from hc)
  refine fnG_of lk hcd S (fun vs H Q E h => h.1) fun A outer s H vs Q E hr hg hsp => ?_
  obtain ⟨hl, w0, z, ds, I, r, h⟩ := hsp
  refine ⟨_, hbody A outer s H E (bs w0 H) ⟨rfl, rfl, S.nd, hr, hg, takes_of rfl rfl rfl rfl⟩ (passes_of rfl), w0, _, z, SI.start I r, body_to h fun _ _ => .non⟩
end
/-- the lambda's names, looked at -/
def lamB (N : List Str) (sc scope : Scope) (df : Option (Str × Int)) : Bool :=
  (scope.names.all fun y => decide (y.2 ≠ .cell) && (!decide (y.2 = .local) || !N.contains y.1)) &&
  (scope.names.all fun y => !decide (y.2 = .free) || (decide (sc.names.lookup y.1 = some .cell) || decide (sc.names.lookup y.1 = some .free))) &&
  (match df with | none => true | some (a, _) => decide (scope.names.lookup a = some .local))
theorem lamSc_by {N : List Str} {sc scope : Scope} {df : Option (Str × Int)} (h1 : scope.kind = .function) (h2 : scope.isCoroutine = false) (h3 : scope.isGenerator = false) (h : lamB N sc scope df = true) : LamSc N sc scope df := by
  unfold lamB at h
  simp only [Bool.and_eq_true, List.all_eq_true, Bool.or_eq_true, decide_eq_true_eq, Bool.not_eq_true', decide_eq_false_iff_not, List.contains_eq_mem] at h
  obtain ⟨⟨a, b⟩, c⟩ := h
  refine ⟨h1, h2, h3, fun y hy => ⟨(a y hy).1, fun e => ?_⟩, fun y hy e => ?_, fun a i e => ?_⟩
  · rcases (a y hy).2 with q | q
    · exact absurd e q
    · exact q
  · rcases b y hy with q | q
    · exact absurd e q
    · exact q
  · subst e
    simpa using c

/-! ### a slot read, shared or owned -/
def mVarB (i : Nat) : M D := fun ρ z => match ρ[i]? with
  | some (some (.sh d)) => .ok d z
  | some (some (.own (.lst ds))) => .ok (.lst ds) z
  | _ => .bad
def sFzA (i : Nat) (ms : MS) : MS := fun ρ z => match ρ[i]? with
  | some (some (.own (.lst ds))) => ms (ρ.set i (some (.sh (.lst ds)))) z
  | some (some (.sh d)) => ms ρ z
  | _ => .bad
section
variable {X : Cx} {Γ : Gam} {B : Bs} {Wx : WX} {RT : RTT} {k j : Nat} {pos : Pos} {st : Stmt} {ms : MS}
theorem b_any (i : Nat) {x : Str} (hN : X.N[i]? = some x := by rfl) (hv : Vis X.env.scope x := by first | exact Or.inl rfl | exact Or.inr (Or.inl rfl) | exact Or.inr (Or.inr rfl)) (hd : (x == ("__debug__" : Str)) = false := by decide)
    (hcd : (x == ("__classdict__" : Str)) = false := by decide) : PE X (.Name x pos) (tB Γ B Wx (mVarB i)) := ⟨fun pins s σ H Q I ⟨w, ρ, z, S, q⟩ => by
  unfold mVarB at q
  split at q
  · rename_i d h
    refine (de_b (Γ := Γ) (B := B) (Wx := Wx) (d_var i hN hv hd hcd)).run pins s σ H Q I ⟨w, ρ, z, S, ?_⟩
    show resTo _ _ _ _ _ _ _ (mVar i ρ z) _
    unfold mVar
    rw [h]
    exact q
  · rename_i ds h
    refine (b_own (Γ := Γ) (B := B) (Wx := Wx) i hN hv hd hcd).run pins s σ H Q I ⟨w, ρ, z, S, ?_⟩
    show resTo _ _ _ _ _ _ _ (mOwn i ρ z) _
    unfold mOwn
    rw [h]
    exact q
  · exact q.elim⟩
theorem s_fzA (i : Nat) (h : DS X Γ B Wx RT st ms) : DS X Γ B Wx RT st (sFzA i ms) := ⟨fun p s σ H D I ⟨w, ρ, z, S, q⟩ => by
  unfold sFzA at q
  split at q
  · rename_i ds e
    refine (s_fz i h).run p s σ H D I ⟨w, ρ, z, S, ?_⟩
    show srTo _ _ _ _ _ _ (sFz i ms ρ z)
    unfold sFz
    rw [e]
    exact q
  · exact h.run p s σ H D I ⟨w, ρ, z, S, q⟩
  · exact q.elim⟩
end
@[simp] theorem ap_varB_sh {ρ : En} {z : Z} (i : Nat) (d : D) (h : ρ[i]? = some (some (.sh d))) : mVarB i ρ z = .ok d z := by unfold mVarB; rw [h]
@[simp] theorem ap_varB_own {ρ : En} {z : Z} (i : Nat) (ds : List D) (h : ρ[i]? = some (some (.own (.lst ds)))) : mVarB i ρ z = .ok (.lst ds) z := by unfold mVarB; rw [h]

/-! ### a law's end where the law makes lambdas: their tables are known, and grow -/
abbrev tab0 : Obj := { cls := .none, data := .fields #[] }
section
variable {P : Program} {w : World} {K : PySem.W.Frag} {mg mb : Str → Option Value} {s₁ : Shared} {cs : List (Addr × Addr)} {a : Addr} {vs : List Value} {ns : List Int}
/-- what is known at the law's start: the tables, and the script where no one has written it -/
structure StartH (K : PySem.W.Frag) (T : List Addr) (a : Addr) (ob : HO) (H R : Hp) : Prop where
  tab : ∀ b ∈ T, H b = some (.tbl #[])
  own : ∀ b o, b ∉ T → H b = some o → b = a ∧ K.lookup a = none ∧ o = ob
  sub : ∀ b o, R b = some o → b ∉ T ∧ H b = some o ∧ o = ob
  scr : a ∉ T → K.lookup a = none → R a = some ob
theorem startH (K : PySem.W.Frag) (T : List Addr) (a : Addr) (ob : HO) : ∃ H R, StartH K T a ob H R := by
  classical
  refine ⟨fun b => if b ∈ T then some (.tbl #[]) else if b = a ∧ K.lookup a = none then some ob else none, fun b => if b ∉ T ∧ b = a ∧ K.lookup a = none then some ob else none, ?_, ?_, ?_, ?_⟩
  · exact fun b hb => if_pos hb
  · intro b o hb h
    rw [if_neg hb] at h
    split at h
    · rename_i q; cases h; exact ⟨q.1, q.2, rfl⟩
    · cases h
  · intro b o h
    split at h
    · rename_i q; cases h; exact ⟨q.1, by rw [if_neg q.1, if_pos q.2], rfl⟩
    · cases h
  · exact fun h1 h2 => if_pos ⟨h1, rfl, h2⟩
theorem law_endT {k : Nat} {fa : Addr} {fd : FuncData} {x : Str} {sp : Sp}
    (KX : K.In s₁.heap) (hns : s₁.heap.Ns mainGlobals mg) (hb : s₁.heap.Ns builtinsNs mb) (hbb : ∀ x : Str, x ≠ "__name__" → mb x = bootBuiltins x) (hlim : s₁.heap.NoLimit) (hg : s₁.gens = #[])
    (hT : ∀ p ∈ cs, s₁.heap.get? p.2 = some tab0) (nT : ∀ p ∈ cs, K.lookup p.2 = none) (C : ∀ p ∈ cs, PySem.W.CodeHd s₁.heap p.1 p.2)
    (hbm : ∃ (bm : Addr) (ob : Obj), mg "__builtins__" = some (.ref bm) ∧ bm ≠ builtinsNs ∧ s₁.heap.get? bm = some ob ∧ ob.cls = .type "module" ∧ ob.dict = some builtinsNs ∧ ob.data = .plain)
    (ha : s₁.heap.get? a = some { cls := .type "list", data := .seq vs.toArray }) (hi : IntsAre vs ns) (hl : ns.length ≤ sizeLine) (hr : Room k callerA)
    (F : ∀ base : Heap, K.In base → base.Ns mainGlobals mg → (∀ p ∈ cs, LamX.TabB base mg p.1 p.2) → FnG P w K mg base k fa fd [x] sp) (hbind : ∀ (s : Shared) (u : Value), BindsTo s fd ⟨[u], []⟩ [(x, u)])
    (hsp : ∀ H R : Hp, (∀ p ∈ cs, H p.2 = some (.tbl #[])) → (∀ b o, R b = some o → H b = some o ∧ ∀ ps, o ≠ .tbl ps) → SqS K R a (ns.map V.int) → sp [.ref a] H (fun v _ => v = .bl true) fun _ _ _ => False) :
    codeAny (model P w) callerA (.call (.ref fa) ⟨[.ref a], []⟩) (fun r s' => r = .ok (.ret (.bool true)) ∧ OldK s₁.heap s'.heap ∧ s'.os = s₁.os ∧ AllBare s'.gens) s₁ := by
  have rv := vals_ints hi
  obtain ⟨H, R, SH⟩ := startH K (cs.map (·.2)) a (.frz { cls := .type "list", data := .seq vs.toArray } (.lst (ns.map V.int)))
  have tabAt : ∀ b ∈ cs.map (·.2), s₁.heap.get? b = some tab0 ∧ K.lookup b = none := fun b hb => by
    obtain ⟨p, hp, rfl⟩ := List.mem_map.mp hb
    exact ⟨hT p hp, nT p hp⟩
  have mem : ∀ p ∈ cs, p.2 ∈ cs.map (·.2) := fun p hp => List.mem_map_of_mem hp
  have aT : a ∉ cs.map (·.2) := fun z => by
    have := (tabAt a z).1
    rw [ha] at this
    cases this
  -- no one knows of an object that is neither a table nor the script
  have unk : ∀ {b : Addr} {o : Obj}, s₁.heap.get? b = some o → o ≠ tab0 → (∀ us, o ≠ { cls := .type "list", data := .seq us }) → H b = none := fun {b o} e n1 n2 => by
    by_cases hb : b ∈ cs.map (·.2)
    · rw [(tabAt b hb).1] at e
      exact absurd (Option.some.inj e).symm n1
    · cases q : H b with
      | none => rfl
      | some u =>
        obtain ⟨rfl, _, _⟩ := SH.own b u hb q
        rw [ha] at e
        exact absurd (Option.some.inj e).symm (n2 _)
  have free : ∀ {b : Addr} {o : Obj}, s₁.heap.get? b = some o → H b = none → (hidT s₁.heap H).get? b = some o := fun e n => hidT_get e n
  have nsK : ∀ {b : Addr} {m : Str → Option Value}, s₁.heap.Ns b m → (hidT s₁.heap H).Ns b m := fun {b m} ⟨o, es, ep, e, d, r⟩ =>
    ⟨o, es, ep, free e (unk e (fun q => by subst q; cases d) fun us q => by subst q; cases d), d, r⟩
  have hKb : K.In (hidT s₁.heap H) := fun b o e => free (KX b o e) (by
    by_cases hb : b ∈ cs.map (·.2)
    · rw [(tabAt b hb).2] at e; cases e
    · cases q : H b with
      | none => rfl
      | some u =>
        obtain ⟨rfl, h2, _⟩ := SH.own b u hb q
        rw [h2] at e; cases e)
  have hok : HOk P w H s₁.heap := fun b u z => by
    by_cases hb : b ∈ cs.map (·.2)
    · cases (SH.tab b hb).symm.trans z
      exact (tabAt b hb).1
    · obtain ⟨rfl, _, rfl⟩ := SH.own b u hb z
      exact ⟨ha, by rw [List.length_map]; exact hl, vs, _, rv, ha⟩
  have hS : SqS K R a (ns.map V.int) := by
    cases hk : K.lookup a with
    | some o =>
      cases ha.symm.trans (KX a o hk)
      exact .inr ⟨_, _, hk, by rw [List.size_toArray, hi.length]; exact hl, by simpa using rv⟩
    | none => exact .inl (.inr ⟨_, SH.scr aT hk⟩)
  have TB : ∀ p ∈ cs, LamX.TabB (hidT s₁.heap H) mg p.1 p.2 := fun p hp => by
    have gp := hT p hp
    refine ⟨?_, ?_, fun z => ?_⟩
    · obtain ⟨o, us, f1, f2, f3, f4, f5, f6, f7, e1, r1, r2, r3, rest⟩ := C p hp
      refine ⟨o, us, f1, f2, f3, f4, f5, f6, f7, free e1 (unk e1 (fun q => ?_) fun vv q => ?_), r1, r2, r3, rest⟩
      · subst q
        cases r2
        simp at r3
      · subst q
        cases r2
    · obtain ⟨bm, ob, b1, b2, b3, b4, b5, b6⟩ := hbm
      have n1 : bm ≠ mainGlobals := fun q => by
        obtain ⟨o, es, ep, e, d, _⟩ := hns
        rw [← q, b3] at e
        cases e
        rw [b6] at d
        cases d
      have n2 : bm ≠ p.2 := fun q => by
        rw [q, gp] at b3
        cases b3
        cases b6
      exact ⟨bm, ob, b1, b2, n1, n2, free b3 (unk b3 (fun q => by subst q; cases b6) fun vv q => by subst q; cases b6), b4, b5, b6⟩
    · obtain ⟨o, es, ep, e, d, _⟩ := hns
      rw [z, gp] at e
      cases e
      cases d
  obtain ⟨mc, lim1, lim2⟩ := hlim
  have e0 : Env0 P w K mg (hidT s₁.heap H) callerA [] s₁ H :=
    ⟨rfl, ⟨hKb, nsK hns, ⟨mb, nsK hb, hbb⟩, ⟨mc, nsK lim1, lim2⟩⟩, fun b o e => of_hidT e, Nat.le_of_eq (hidT_size _ _), trivial, fun b hb => absurd (show b ∈ ([] : List Addr) from hb) (by simp), hok, .of_eq hg⟩
  have promise := hsp H R (fun p hp => SH.tab _ (mem p hp)) (fun b o h => ⟨(SH.sub b o h).2.1, fun ps q => by rw [(SH.sub b o h).2.2] at q; cases q⟩) hS
  refine codeAny_mono ((F _ hKb (nsK hns) TB).run callerA [] s₁ H ⟨[.ref a], []⟩ [.ref a] [.ref a] _ _ hr rfl e0 (hbind s₁ (.ref a)) (.cons rfl .nil) promise) fun r s' h => ?_
  match r, h with
  | .error e, h =>
    obtain ⟨_, _, _, _, _, _, _, _, _, _, _, _, z⟩ := h
    exact z.elim
  | .ok .next, h => exact False.elim h
  | .ok .brk, h => exact False.elim h
  | .ok .cont, h => exact False.elim h
  | .ok (.ret u), h =>
    obtain ⟨v, H', os, bare, un, hok', r', q⟩ := h
    cases (show v = .bl true from q)
    obtain rfl : u = Value.bool true := r'
    have still : ∀ b o, b ∉ cs.map (·.2) → s₁.heap.get? b = some o → s'.heap.get? b = some o := fun b o hb e => by
      cases q : H b with
      | none => exact un.keep b o e q (by intro z; exact absurd (show b ∈ ([] : List Addr) from z) (by simp)) (by simp)
      | some u =>
        obtain ⟨_, _, rfl⟩ := SH.own b u hb q
        have h1 := (hok b _ q).1
        have h2 := (hok' b _ (un.frzs b _ _ q)).1
        rw [e] at h1
        cases h1
        exact h2
    have grown : ∀ p ∈ cs, ∃ more : Array Value, s'.heap.get? p.2 = some { cls := .none, data := .fields more } := fun p hp => by
      obtain ⟨more, z⟩ := un.tbls p.2 #[] (SH.tab _ (mem p hp))
      exact ⟨_, hok' p.2 _ z⟩
    refine ⟨rfl, ⟨fun b o e => ?_, fun b o e => ?_⟩, os, bare⟩
    all_goals by_cases hb : b ∈ cs.map (·.2)
    · obtain ⟨p, hp, rfl⟩ := List.mem_map.mp hb
      obtain ⟨more, hm⟩ := grown p hp
      cases (hT p hp).symm.trans e
      exact .inr (.inl ⟨((C p hp).tab (hT p hp)).isCodeTable, rfl, #[], more, rfl, by rw [Array.empty_append]; exact hm⟩)
    · exact .inl (still b o hb e)
    · obtain ⟨p, hp, rfl⟩ := List.mem_map.mp hb
      exact let ⟨_, hm⟩ := grown p hp; ⟨_, hm⟩
    · exact ⟨o, still b o hb e⟩
end
/-- what is known of the law's promise at the head's heap h -/
def LawAtG (l : PySem.W.OpenLaw) (w : World) (K : PySem.W.Frag) (k n : Nat) (x : Str) (mg : Str → Option Value) (fa : Addr) (h : Heap) : Prop :=
  ∃ (fd : FuncData) (cs : List (Addr × Addr)) (sp : Sp), (∀ p ∈ cs, h.get? p.2 = some { cls := .none, data := .fields #[] }) ∧ (∀ p ∈ cs, K.lookup p.2 = none) ∧ (∀ p ∈ cs, PySem.W.codeHdIn K p.1 p.2 = true) ∧ (∀ (s : Shared) (u : Value), BindsTo s fd ⟨[u], []⟩ [(x, u)]) ∧
    (∀ (H R : Hp) (a : Addr) (ns : List Int), ns.length ≤ n → (∀ p ∈ cs, H p.2 = some (.tbl #[])) → (∀ b o, R b = some o → H b = some o ∧ ∀ ps, o ≠ .tbl ps) → SqS K R a (ns.map V.int) → sp [.ref a] H (fun v _ => v = .bl true) fun _ _ _ => False) ∧
    ∀ base : Heap, K.In base → base.Ns mainGlobals mg → (∀ p ∈ cs, LamX.TabB base mg p.1 p.2) → FnG l.prog w K mg base k fa fd [x] sp
theorem walk_ofGT {l : PySem.W.OpenLaw} {n k : Nat} {q : Program} {loose : List Str} {XP : (Str → Option Value) → Heap → Prop} {YP : World → Heap → Prop} {d : DefRec} {K : Params → PySem.W.Frag} {x : Str}
    (hn : l.most = some n) (hn2 : n ≤ sizeLine) (hdf : d.params.defaults = []) (hr : Room k callerA) (hY : ∀ (w : World) (h : Heap), YP w h → (K w.params).In h)
    (F : ∀ (w : World) (mg : Str → Option Value) (fa : Addr) (h : Heap), YP w h → (K w.params).In h → h.Ns mainGlobals mg → mg d.name = some (.ref fa) → LawAtG l w (K w.params) k n x mg fa h) :
    PySem.W.WalkO q loose XP YP l.row.toRowW d [] (fun f vs => PySem.call f vs) := by
  refine Att.attach_call hn hdf fun w s₀ s₁ mg mb fa o pm cd doc a vs ns G Y ho hd hcd hmg hobj hints hlen hg => ?_
  have KX := hY w _ Y
  obtain ⟨fd, cs, sp, hT, nT, C, hb, hsp, hF⟩ := F w mg fa _ Y KX G.T.g hmg
  exact law_endT KX G.T.g G.T.b G.T.builtins G.T.nolimit hg hT nT (fun p hp => PySem.W.codeHd_of_K KX (C p hp)) G.T.bmain hobj hints (Nat.le_trans hlen hn2) hr hF hb fun H R h1 h2 h3 => hsp H R a ns hlen h1 h2 h3
/-- a class's address by its number -/
def clsOf (l : List Addr) (c : Nat) : Addr := l.getD c 0
theorem law_spT {Γ : Gam} {F : FM} {H R : Hp} {a : Addr} {ns : List Int} (htb : ∀ p ∈ Γ.tb, H p.1 = some (.tbl #[])) (hF : ∃ z', F [.lst (ns.map .int)] [] = .ok (.bl true) z') (h2 : ∀ b o, R b = some o → H b = some o ∧ ∀ ps, o ≠ .tbl ps) (h1 : SqS Γ.K R a (ns.map V.int)) : spD Γ 1 F [.ref a] H (fun v _ => v = .bl true) (fun _ _ _ => False) := by
  obtain ⟨z', hF⟩ := hF
  refine ⟨rfl, ⟨R, []⟩, [], [.lst (ns.map .int)], ⟨fun b o h => (h2 b o h).1, rfl, fun n mo h => (by simp at h), .nil, fun b o h => (h2 b o h).2, fun p hp => LamX.TabS.nil (htb p hp)⟩, .cons (.lst h1 (repL_ints ns)) .nil, ?_⟩
  rw [hF]
  intro v w' H' _ _ r
  cases r
  rfl
end NW
set_option maxHeartbeats 1000000
/-! a, b, .. = x, y, .. where some of the values are new lists that the slots own. -/
namespace NW
open PySem PySem.Spec PyProof.Rows L2
/-- no slot owns p -/
def NotOwn (ρ : En) (σ : Sl) (p : Addr) : Prop := ∀ (j : Nat) (u : OV), ρ[j]? = some (some (.own u)) → σ[j]? ≠ some (some (.ref p))
/-- values for slots; ps: the owned ones -/
inductive RepVL (Γ : Gam) (B : Bs) (ρ : En) (σ : Sl) (w : W) (H : Hp) : List DV → List V → List Addr → Prop
  | nil : RepVL Γ B ρ σ w H [] [] []
  | sh {d : D} {v : V} {xs : List DV} {vs : List V} {ps : List Addr} : Rep Γ w d v → RepVL Γ B ρ σ w H xs vs ps → RepVL Γ B ρ σ w H (.sh d :: xs) (v :: vs) ps
  | own {p : Addr} {ds : List D} {xs : List DV} {vs : List V} {ps : List Addr} : OwnRep Γ w H p (.lst ds) → w.R p = none → p ∉ w.pl → B.H p = none → NotOwn ρ σ p → p ∉ ps → RepVL Γ B ρ σ w H xs vs ps → RepVL Γ B ρ σ w H (.own (.lst ds) :: xs) (.ref p :: vs) (p :: ps)
section
variable {X : Cx} {Γ : Gam} {B : Bs} {Wx : WX} {RT : RTT} {w w' : W} {ρ : En} {z : Z} {σ : Sl} {H H' : Hp} {e a b c : Expr} {es : List Expr} {m : M D} {mo : M (List D)} {pos : Pos}
def mVNil : M (List DV) := mRet []
def mVSh (a : M D) (r : M (List DV)) : M (List DV) := mBind a fun x => mBind r fun xs => mRet (.sh x :: xs)
def mVOwn (a : M (List D)) (r : M (List DV)) : M (List DV) := mBind a fun x => mBind r fun xs => mRet (.own (.lst x) :: xs)
def tVA (Γ : Gam) (B : Bs) (Wx : WX) (m : M (List DV)) : TA := fun σ H Q => ∃ w ρ z, SI Γ B w ρ z σ H ∧ resTo Γ B Wx w ρ σ H (m ρ z) fun xs w' z' H' => ∀ vs ps, RepVL Γ B ρ σ w' H' xs vs ps → (∀ q ∈ ps, H q = none) → Q vs H'
variable {ml : M (List DV)}
theorem va_nil : PA X [] (tVA Γ B Wx mVNil) := pa_weak pa_nil fun σ H Q ⟨w, ρ, z, S, q⟩ => q.ok S _ _ .nil (by simp)
theorem va_sh (ha : PE X e (tD Γ B Wx m)) (hr : PA X es (tVA Γ B Wx ml)) (hs : starEach (e :: es) X.env = (false, eval e X.env) :: starEach es X.env := by rfl) : PA X (e :: es) (tVA Γ B Wx (mVSh m ml)) :=
  pa_weak (pa_cons ha hr hs) fun σ H Q ⟨w, ρ, z, S, q⟩ => ⟨w, ρ, z, S, q.bind.mono fun d w1 z1 H1 _ t1 ⟨S1, s1, q1⟩ v rv => ⟨w1, ρ, z1, S1, q1.bind.mono fun ds w2 z2 H2 _ _ ⟨S2, s2, q2⟩ vs ps rvs fr =>
    q2.ok S2 _ _ (.sh (rv.step s2) rvs) fun p hp => none_back t1 (fr p hp)⟩⟩
theorem va_own (ha : PE X e (tF Γ B Wx mo)) (hr : PA X es (tVA Γ B Wx ml)) (hs : starEach (e :: es) X.env = (false, eval e X.env) :: starEach es X.env := by rfl) : PA X (e :: es) (tVA Γ B Wx (mVOwn mo ml)) :=
  pa_weak (pa_cons ha hr hs) fun σ H Q ⟨w, ρ, z, S, q⟩ => ⟨w, ρ, z, S, q.bind.mono fun ds w1 z1 H1 _ t1 ⟨S1, s1, q1⟩ p o1 o2 o3 hp => ⟨w1, ρ, z1, S1, q1.bind.mono fun xs w2 z2 H2 _ _ ⟨S2, s2, q2⟩ vs ps rvs fr => by
    obtain ⟨u, hu⟩ := o1.there
    obtain ⟨n1, n2⟩ := S.notOwn (w' := w) hp
    refine q2.ok S2 _ _ (.own (o1.step s2 o3) (s2.f _ _ hu o2) (fun hm => ?_) n2 n1 (fun hm => ?_) rvs) fun r hr => ?_
    · rcases s2.n _ hm with k | k
      · exact o3 k
      · rw [hu] at k; cases k
    · rw [fr p hm] at hu; cases hu
    · rcases List.mem_cons.mp hr with rfl | hr
      · exact hp
      · exact none_back t1 (fr _ hr)⟩⟩
/-- one slot after the other -/
def setVs : List Nat → List DV → En → Option En
  | [], [], ρ => some ρ
  | i :: is, x :: xs, ρ => if i < ρ.length then setVs is xs (ρ.set i (some x)) else none
  | _, _, _ => none
def setSs : List Nat → List V → Sl → Sl
  | i :: is, v :: vs, σ => setSs is vs (σ.set i (some v))
  | _, _, σ => σ
theorem NotOwn.set_sh {p : Addr} {i : Nat} {d : D} {v : V} (n : NotOwn ρ σ p) (hl : ρ.length = σ.length) : NotOwn (ρ.set i (some (.sh d))) (σ.set i (some v)) p := fun j u h k => by
  by_cases e : i = j
  · subst e
    have hi : i < ρ.length := by
      have := (List.getElem?_eq_some_iff.mp h).1
      simpa using this
    rw [List.getElem?_set_self hi] at h
    cases h
  · rw [List.getElem?_set_ne e] at h k
    exact n j u h k
theorem NotOwn.set_own {p p' : Addr} {i : Nat} {o : OV} (n : NotOwn ρ σ p) (hl : ρ.length = σ.length) (hp : p ≠ p') : NotOwn (ρ.set i (some (.own o))) (σ.set i (some (.ref p'))) p := fun j u h k => by
  by_cases e : i = j
  · subst e
    have hi : i < σ.length := by
      have := (List.getElem?_eq_some_iff.mp h).1
      rw [List.length_set] at this
      omega
    rw [List.getElem?_set_self hi] at k
    cases k
    exact hp rfl
  · rw [List.getElem?_set_ne e] at h k
    exact n j u h k
theorem RepVL.to {ρ' : En} {σ' : Sl} : ∀ {xs : List DV} {vs : List V} {ps : List Addr}, RepVL Γ B ρ σ w H xs vs ps → (∀ p ∈ ps, NotOwn ρ' σ' p) → RepVL Γ B ρ' σ' w H xs vs ps
  | _, _, _, .nil, _ => .nil
  | _, _, _, .sh a b, k => .sh a (b.to k)
  | _, _, _, .own a b c d e f g, k => .own a b c d (k _ List.mem_cons_self) f (g.to fun p hp => k p (List.mem_cons_of_mem _ hp))
theorem RepVL.no : ∀ {xs : List DV} {vs : List V} {ps : List Addr}, RepVL Γ B ρ σ w H xs vs ps → ∀ p ∈ ps, NotOwn ρ σ p
  | _, _, _, .nil, _, h => by simp at h
  | _, _, _, .sh a b, p, h => b.no p h
  | _, _, _, .own a b c d e f g, p, h => by
    rcases List.mem_cons.mp h with rfl | h
    · exact e
    · exact g.no p h
theorem SI.setVs : ∀ (is : List Nat) (xs : List DV) (vs : List V) (ps : List Addr) {ρ ρ' : En} {σ : Sl}, SI Γ B w ρ z σ H → RepVL Γ B ρ σ w H xs vs ps → NW.setVs is xs ρ = some ρ' → SI Γ B w ρ' z (setSs is vs σ) H := by
  intro is
  induction is with
  | nil =>
    intro xs vs ps ρ ρ' σ S r h
    cases r with
    | nil => unfold NW.setVs at h; cases h; unfold setSs; exact S
    | sh _ _ => unfold NW.setVs at h; cases h
    | own _ _ _ _ _ _ _ => unfold NW.setVs at h; cases h
  | cons i is ih =>
    intro xs vs ps ρ ρ' σ S r h
    cases r with
    | nil => unfold NW.setVs at h; cases h
    | @sh d v xs vs ps ra rb =>
      unfold NW.setVs at h
      split at h
      · rename_i hi
        unfold setSs
        exact ih _ _ _ (S.set ra hi) (rb.to fun p hp => (rb.no p hp).set_sh S.len) h
      · cases h
    | @own p ds xs vs ps a b c d e f g =>
      unfold NW.setVs at h
      split at h
      · rename_i hi
        unfold setSs
        exact ih _ _ _ (S.setOwn a b c d e hi) (g.to fun q hq => (g.no q hq).set_own S.len fun k => f (k ▸ hq)) h
      · cases h
def sParV (is : List Nat) (ml : M (List DV)) : MS := fun ρ z => (ml ρ z).to ρ fun xs z1 => match setVs is xs ρ with
  | some ρ' => .nx ρ' z1
  | none => .bad
variable {px py pz pt pt2 : Pos} {kt k2 : Nat} {x y x3 : Str}
theorem RepVL.len : ∀ {xs : List DV} {vs : List V} {ps : List Addr}, RepVL Γ B ρ σ w H xs vs ps → vs.length = xs.length
  | _, _, _, .nil => rfl
  | _, _, _, .sh _ b => congrArg Nat.succ b.len
  | _, _, _, .own _ _ _ _ _ _ g => congrArg Nat.succ g.len
theorem RepVL.step (s : Step w H w' H') : ∀ {xs : List DV} {vs : List V} {ps : List Addr}, RepVL Γ B ρ σ w H xs vs ps → RepVL Γ B ρ σ w' H' xs vs ps
  | _, _, _, .nil => .nil
  | _, _, _, .sh a b => .sh (a.step s) (b.step s)
  | _, _, _, .own a b c d e f g => .own (a.step s c) (let ⟨_, hu⟩ := a.there; s.f _ _ hu b) (fun hm => by
      obtain ⟨u, hu⟩ := a.there
      rcases s.n _ hm with k | k
      · exact c k
      · rw [hu] at k; cases k) d e f (g.step s)
theorem setVs_len : ∀ {is : List Nat} {xs : List DV} {ρ ρ' : En}, setVs is xs ρ = some ρ' → xs.length = is.length
  | [], [], _, _, _ => rfl
  | i :: is, x :: xs, ρ, ρ', h => by
    unfold setVs at h
    split at h
    · exact congrArg Nat.succ (setVs_len h)
    · cases h
  | [], _ :: _, _, _, h => by unfold setVs at h; cases h
  | _ :: _, [], _, _, h => by unfold setVs at h; cases h
theorem parV_to {is : List Nat} {D : Ends} {σ : Sl} {H : Hp} (h : tDS Γ B Wx RT (sParV is ml) D σ H) : tVA Γ B Wx ml σ H fun vs H1 => vs.length = is.length ∧ D.nx (setSs is vs σ) H1 ∧ ∀ p, H1 p = none → D.nx (setSs is vs σ) (upd H1 p (.tup vs)) := by
  obtain ⟨w, ρ, z, S, q⟩ := h
  refine ⟨w, ρ, z, S, q.to.mono fun xs w1 z1 H1 _ _ ⟨S1, s1, q1⟩ vs ps rv fr => ?_⟩
  cases e : setVs is xs ρ with
  | none => rw [e] at q1; exact q1.elim
  | some ρ' =>
    rw [e] at q1
    refine ⟨rv.len.trans (setVs_len e), q1 _ w1 H1 (SI.setVs is xs vs ps S1 rv e) (.refl _), fun p hp => ?_⟩
    obtain ⟨I2, s2⟩ := S1.wi.newO (o := .tup vs) hp
    exact q1 _ w1 _ (SI.setVs is xs vs ps (S1.carry I2 s2) (rv.step s2) e) (.refl _)
theorem s_parV2 (i j : Nat) (hc : X.calm = true) (hN : X.N.Nodup) (ha : PA X [a, b] (tVA Γ B Wx ml))
    (hw : swappedStores [.Tuple [.Name x px, .Name y py] kt pt] (.Tuple [a, b] k2 pt2) X.env = pure (some [x, y]))
    (hi : X.N[i]? = some x := by rfl) (hj : X.N[j]? = some y := by rfl) (hij : i ≠ j := by decide)
    (hx : X.env.scope.names.lookup x = some .local := by rfl) (hy : X.env.scope.names.lookup y = some .local := by rfl)
    (hs : swapsWithSole [.Tuple [.Name x px, .Name y py] kt pt] (.Tuple [a, b] k2 pt2) pos.line X.env = pure false := by rfl) :
    DS X Γ B Wx RT (.Assign [.Tuple [.Name x px, .Name y py] kt pt] (.Tuple [a, b] k2 pt2) pos) (sParV [i, j] ml) := ps_weak (ps_par hc hN hi hj hij hx hy ha hw hs) fun D σ H h => by
  obtain ⟨w, ρ, z, S, q⟩ := parV_to h
  refine ⟨w, ρ, z, S, q.mono fun xs w1 z1 H1 _ _ k vs ps rv fr => ?_⟩
  obtain ⟨k1, k2, _⟩ := k vs ps rv fr
  match vs, k1, k2 with
  | [u, v], _, k2 => exact ⟨u, v, rfl, k2⟩
theorem s_parV3 (i j l : Nat) (hc : X.calm = true) (hN : X.N.Nodup) (ha : PA X [a, b, c] (tVA Γ B Wx ml))
    (hw : swappedStores [.Tuple [.Name x px, .Name y py, .Name x3 pz] kt pt] (.Tuple [a, b, c] k2 pt2) X.env = pure (some [x, y, x3]))
    (hi : X.N[i]? = some x := by rfl) (hj : X.N[j]? = some y := by rfl) (hl : X.N[l]? = some x3 := by rfl) (hij : i ≠ j := by decide) (hil : i ≠ l := by decide) (hjl : j ≠ l := by decide)
    (hx : X.env.scope.names.lookup x = some .local := by rfl) (hy : X.env.scope.names.lookup y = some .local := by rfl) (hz : X.env.scope.names.lookup x3 = some .local := by rfl)
    (hs : swapsWithSole [.Tuple [.Name x px, .Name y py, .Name x3 pz] kt pt] (.Tuple [a, b, c] k2 pt2) pos.line X.env = pure false := by rfl) :
    DS X Γ B Wx RT (.Assign [.Tuple [.Name x px, .Name y py, .Name x3 pz] kt pt] (.Tuple [a, b, c] k2 pt2) pos) (sParV [i, j, l] ml) := ps_weak (ps_par3 hc hN hi hj hl hij hil hjl hx hy hz ha hw hs) fun D σ H h => by
  obtain ⟨w, ρ, z, S, q⟩ := parV_to h
  refine ⟨w, ρ, z, S, q.mono fun xs w1 z1 H1 _ _ k vs ps rv fr => ?_⟩
  obtain ⟨k1, k2, _⟩ := k vs ps rv fr
  match vs, k1, k2 with
  | [u, v, r], _, k2 => exact ⟨u, v, r, rfl, k2⟩
/-- plain names, one store after the other (cells, more than three) -/
def gSs (is : List Nat) : TGs := fun vs σ H Q => vs.length = is.length ∧ Q (setSs is vs σ) H
theorem gss_nil : PGs X [] (gSs []) := ⟨fun pins s σ H vs us Q I r h => pgs_nil.run pins s σ H vs us Q I r (by
  obtain ⟨h1, h2⟩ := h
  match vs, h1, h2 with
  | [], _, h2 => exact ⟨rfl, h2⟩)⟩
theorem gss_cons (i : Nat) {is : List Nat} {p : Pos} {es : List Expr} (hN : X.N.Nodup) (h2 : PGs X es (gSs is)) (hi : X.N[i]? = some x := by rfl) (hx : Loc X.env.scope x := by first | exact Or.inl rfl | exact Or.inr rfl) (hf : X.fn x = true ∨ X.env.scope.names.lookup x = some .local := by first | exact .inl rfl | exact .inr rfl)
    (hs : (assignEach (.Name x p :: es) X.env).map (·.2) = assign (.Name x p) X.env :: (assignEach es X.env).map (·.2) := by rfl) : PGs X (.Name x p :: es) (gSs (i :: is)) := ⟨fun pins s σ H vs us Q I r h => (pgs_cons (pg_name hN hi hx hf) h2 hs).run pins s σ H vs us Q I r (by
  obtain ⟨h1, h2⟩ := h
  match vs, h1, h2 with
  | v :: vs, h1, h2 => exact ⟨v, vs, rfl, Nat.succ.inj h1, h2⟩)⟩
theorem s_parVn {is : List Nat} {ts : List Expr} {n : Nat} (hc : X.calm = true) (ha : PA X es (tVA Γ B Wx ml)) (hg : PGs X ts (gSs is)) (hfew : is.length ≤ sizeLine := by decide)
    (hlen : is.length = n := by rfl) (hn : (assignEach ts X.env).length = n := by rfl) (hst : (assignEach ts X.env).findIdx? (·.1) = none := by rfl)
    (hs : swapsWithSole [.Tuple ts kt pt] (.Tuple es k2 pt2) pos.line X.env = pure false := by rfl) (hw : swappedStores [.Tuple ts kt pt] (.Tuple es k2 pt2) X.env = pure none := by rfl)
    (h1 : (assignEach [.Tuple ts kt pt] X.env).map (·.2) = [assign (.Tuple ts kt pt) X.env] := by rfl) :
    DS X Γ B Wx RT (.Assign [.Tuple ts kt pt] (.Tuple es k2 pt2) pos) (sParV is ml) := ps_weak (ps_asg (pe_tup ha) (pg_tup hc hg hn hst) hs hw h1) fun D σ H h => by
  obtain ⟨w, ρ, z, S, q⟩ := parV_to h
  refine ⟨w, ρ, z, S, q.mono fun xs w1 z1 H1 _ _ k vs ps rv fr => ?_⟩
  obtain ⟨k1, _, k3⟩ := k vs ps rv fr
  exact ⟨by omega, fun p hp => ⟨p, vs, rfl, SqT.of upd_same, by omega, k1, k3 p hp⟩⟩
end
@[simp] theorem ap_vnil {ρ : En} {z : Z} : mVNil ρ z = .ok [] z := rfl
@[simp] theorem ap_vsh {ρ : En} {z : Z} (a : M D) (r : M (List DV)) : mVSh a r ρ z = (a ρ z).bind fun x z1 => (r ρ z1).bind fun xs z2 => .ok (.sh x :: xs) z2 := rfl
@[simp] theorem ap_vown {ρ : En} {z : Z} (a : M (List D)) (r : M (List DV)) : mVOwn a r ρ z = (a ρ z).bind fun x z1 => (r ρ z1).bind fun xs z2 => .ok (.own (.lst x) :: xs) z2 := rfl
def nxV (o : Option En) (z : Z) : SR := match o with
  | some ρ' => .nx ρ' z
  | none => .bad
@[simp] theorem nxV_some {ρ : En} {z : Z} : nxV (some ρ) z = .nx ρ z := rfl
@[simp] theorem ap_parV {ρ : En} {z : Z} (is : List Nat) (ml : M (List DV)) : sParV is ml ρ z = (ml ρ z).to ρ fun xs z1 => nxV (setVs is xs ρ) z1 := rfl
@[simp] theorem setVs_nil {ρ : En} : setVs [] [] ρ = some ρ := by unfold setVs; rfl
@[simp] theorem setVs_cons {ρ : En} (i : Nat) (is : List Nat) (x : DV) (xs : List DV) (h : i < ρ.length) : setVs (i :: is) (x :: xs) ρ = setVs is xs (ρ.set i (some x)) := by
  rw [setVs]
  exact if_pos h
end NW
set_option maxHeartbeats 1000000
/-! What the top has left of classes: own exceptions, classes of data, their methods. -/
namespace NW
open PySem PySem.Spec PyProof.Rows L2 PySem.W
abbrev fnOfX (x qual : Str) (st : Stmt) (cc : Addr) (kV doc pm : Value) (an : Option Addr) (cdv ct : Value) : FuncData :=
  { fnOf x qual (defArgs st) (defBody st) (defScope st) .none kV doc pm an cdv ct with closure := [(("__class__" : Str), cc)] }
def fileB (K : Frag) (cda : Addr) (file : Str) : Bool := match K.lookup cda with
  | some ⟨_, _, .fields vs, _⟩ => (match (vs[2]? : Option Value) with
    | some (.str f _) => file == f
    | _ => false)
  | _ => false
def cellB (K : Frag) (cc C : Addr) : Bool := match K.lookup cc with
  | some ⟨_, _, .cell (some (.ref C')), _⟩ => C' == C
  | _ => false
def xfaB (K : Frag) (file : Str) (C fI cc cda : Addr) (B newId initId : String) (bmB : List Value) (qual : Str) (fs : List Str) : Bool :=
  excInitIn K C bmB newId && excOver K C bmB && decide (typeIn K (.ref fI) = some (.type "function")) && decide (findIn K (.ref C) "__setattr__" = some (some (.builtin "object.__setattr__"))) && hasDictIn K C &&
  decide (ks_superIn K C C "__init__" = some (some (.builtin initId))) && decide (subIn K (.ref C) (.type B) = some true) && decide (subIn K (.ref C) (.type "BaseException") = some true) && decide (typeIn K (.ref C) = some (.type "type")) &&
  keepIn K (.ref C) && decide (nsIn K cStatics "thirdparty.any" = some none) && decide (mroIn K C (.ref C) = some true) && (fs.all fun f => decide (takerIn K C f = some none)) && codeIn K (.ref cda) qual && fileB K cda file && cellB K cc C
theorem xcl_mk {P : Program} {K : Frag} {C fI cc cda : Addr} {B newId initId : String} {bmB : List Value} {qual : Str} {st : Stmt} {kV doc pm ct oc : Value} {an od : Option Addr} {osl : Array (Option Value)} {n : Nat} {sp : XSpec} (ps : List Str) (xs : List XS)
    (FB : ExcBaseFacts B newId initId bmB) (SF : StoreFacts B bmB "object.__setattr__" "object") (KF : KxsFacts B initId)
    (init : findIn K (.ref C) "__init__" = some (some (.ref fI))) (lk : K.lookup fI = some ⟨oc, od, .func (fnOfX "__init__" qual st cc kV doc pm an (.ref cda) ct), osl⟩)
    (b : xfaB K P.main.file C fI cc cda B newId initId bmB qual (xs.map (·.f)) = true) (top : (P.main.scope.names.lookup ("super" : Str)).isSome = false)
    {w1 : Str} {j : Nat} {p0 p1 p2 p3 p4 p5 : Pos} (hbd : defBody st = supStmt w1 j p0 p1 p2 p3 p4 p5 :: xs.map (XS.stmt "self")) (hev : ∃ pl : Sem Bool, ∀ env : Env, SupEv w1 j p0 p1 p2 p3 p4 pl env)
    (co : (defScope st).isCoroutine = false) (gen : (defScope st).isGenerator = false) (kind : (defScope st).kind = .function) (nc : ((defScope st).names.all fun x => decide (x.2 ≠ .cell)) = true)
    (par : ∃ ar, ((defArgs st).posonlyargs ++ (defArgs st).args).head? = some ar ∧ ar.arg = ("self" : Str)) (ps0 : ps.head? = some ("self" : Str)) (nd : ps.Nodup)
    (loc : (ps.all fun x => decide ((defScope st).names.lookup x = some .local) && decide ((x == ("__debug__" : Str)) = false)) = true)
    (sup1 : (defScope st).names.lookup ("super" : Str) = some .globalImplicit) (cls1 : (defScope st).names.lookup ("__class__" : Str) = some .free)
    (bnd : ∀ (s : Shared) (us : List Value), us.length = ps.length → BindsTo s (fnOfX "__init__" qual st cc kV doc pm an (.ref cda) ct) ⟨us, []⟩ (ps.zip us)) (few : xs.length ≤ 100)
    (hm : xmB ps xs sp = true) (hn : ps.length = n + 1) (hx : xs ≠ []) (hn2 : n ≤ 100) : XCl K P C n sp := by
  unfold xfaB at b
  simp only [Bool.and_eq_true, decide_eq_true_eq, List.all_eq_true, List.mem_map, forall_exists_index, and_imp, forall_apply_eq_imp_iff₂] at b
  obtain ⟨⟨⟨⟨⟨⟨⟨⟨⟨⟨⟨⟨⟨⟨⟨b1, b2⟩, b3⟩, b4⟩, b5⟩, b6⟩, b7⟩, b8⟩, b9⟩, b10⟩, b11⟩, b12⟩, b13⟩, b14⟩, b15⟩, b16⟩ := b
  refine ⟨fI, cc, cda, B, newId, initId, bmB, _, "self", ps, xs, { FB := FB, SF := SF, KF := KF, q := b1, ov := b2, init := init, tI := b3, sa := b4, hd := b5, sup := b6, sB := b7, exC := b8, tyC := b9, kC := b10, opq := b11, self := b12, tk := b13, lk := ⟨_, _, _, lk⟩, code := rfl, qn := b14, file := ?_, cell := ?_, bd := ?_, clo := rfl, glo := rfl, bns := rfl, co := co, gen := gen, kind := kind, nc := ?_, par := par, ps0 := ps0, nd := nd, loc := ?_, sup1 := sup1, cls1 := cls1, top := top, bnd := bnd, few := few }, hm, hn, hx, hn2⟩
  · unfold fileB at b15
    split at b15
    · rename_i vs _ e
      split at b15
      · rename_i f tf e2
        exact ⟨_, _, vs, _, f, tf, e, e2, b15⟩
      · cases b15
    · cases b15
  · unfold cellB at b16
    split at b16
    · rename_i C' _ e
      cases (beq_iff_eq.mp b16)
      exact ⟨_, _, _, e⟩
    · cases b16
  · exact ⟨w1, j, p0, p1, p2, p3, p4, p5, congrArg FuncBody.stmts hbd, hev⟩
  · simpa using nc
  · simpa using loc
/-- an own class of data -/
structure Cd (K : Frag) (mg : Str → Option Value) (C : Addr) (x : Str) : Prop where
  m : mg x = some (.ref C)
  cl : Cls K C
  mks : makesIn K C = true
  kp : keepIn K (.ref C) = true
/-- a method of it, by its address -/
structure Dm (K : Frag) (C : Addr) (x qual : Str) (st : Stmt) (ps : List Str) where
  f : Addr
  fd : FuncData
  F : Fun K x qual st f fd
  at_ : findIn K (.ref C) x = some (some (.ref f))
  fn : isFn K (.ref f) = true
  b : Binds K fd ps []
theorem Dm.meth {K : Frag} {C : Addr} {x qual : Str} {st : Stmt} {ps : List Str} (d : Dm K C x qual st ps) : Meth K C x d.f := ⟨d.at_, d.fn, d.F.kp⟩
theorem Dm.init {K : Frag} {C : Addr} {mg : Str → Option Value} {cx qual : Str} {st : Stmt} {ps : List Str} (d : Dm K C "__init__" qual st ps) (c : Cd K mg C cx) : Mk K C d.f := ⟨c.mks, d.at_, d.fn, c.kp⟩
def dm_mk {K : Frag} {C : Addr} {x qual : Str} {st : Stmt} {ps : List Str} {f : Addr} {oc kV doc pm cdv ct : Value} {od an : Option Addr} {osl : Array (Option Value)}
    (ha : findIn K (.ref C) x = some (some (.ref f))) (hf : isFn K (.ref f) = true) (l : K.lookup f = some ⟨oc, od, .func (fnOf x qual (defArgs st) (defBody st) (defScope st) .none kV doc pm an cdv ct), osl⟩) (c : codeIn K cdv qual = true) (kp : keepIn K (.ref f) = true)
    (hb : ∀ (kV doc pm : Value) (an : Option Addr) (cdv ct : Value) (us : List Value), us.length = ps.length → bindArgs (fnOf x qual (defArgs st) (defBody st) (defScope st) .none kV doc pm an cdv ct) ⟨us, []⟩ = pure (ps.zip us)) : Dm K C x qual st ps :=
  ⟨f, _, fun_mk l c kp, ha, hf, (fun_mk (st := st) l c kp).binds hb⟩
/-- the attribute f of an exception class's instances is their own -/
def xfAB (K : Frag) (C : Addr) (f : Str) : Bool := xfB K C && decide (findIn K (.ref C) f = some none)
theorem xfl_of {K : Frag} {cls : Nat → Addr} {cs : List Nat} {f : Str} (h : ∀ c ∈ cs, xfAB K (cls c) f = true) : XfL K cls cs f := fun c hc => by
  have := h c hc
  unfold xfAB at this
  simp only [Bool.and_eq_true, decide_eq_true_eq] at this
  exact ⟨xfB_ok this.1, this.2⟩
end NW
set_option maxHeartbeats 1000000
/-! t[::-1] of a tuple, C.F, raise C(). -/
namespace NW
open PySem PySem.Spec PyProof.Rows L2
section
open HT
variable {prog : Program} {w : World} {A : Around} {E : Value → Shared → Prop} {s : Shared}
theorem rv_places (n : Nat) : Builtin.Slice.slicePlaces ((n : Int) - 1) (-1) (-1) = n := by
  unfold Builtin.Slice.slicePlaces
  have h1 : ¬ ((-1 : Int) > 0) := by omega
  rw [if_neg h1]
  by_cases h : (n : Int) - 1 > -1
  · rw [if_pos h, show (-(-1) : Int) = 1 by omega, Int.ediv_one]
    omega
  · rw [if_neg h]
    omega
theorem rv_adjust (n : Nat) : Builtin.Slice.sliceAdjust none none (-1) (n : Int) = ((n : Int) - 1, -1) := rfl
theorem rv_applied {sl : Addr} {vs : Value} {n : Nat} {Q : Int × Int × Nat → Shared → Prop} (hs : s.heap.IsSliceOf sl .none .none vs) (ps : IsPart vs (some (-1)))
    (h : Q (((n : Int) - 1), -1, n) s) : wpAny (model prog w) A (Builtin.Slice.sliceApplied (.ref sl) (pure (n : Int))) Q E s := by
  obtain ⟨os, hos, hcs, hds⟩ := id hs
  unfold Builtin.Slice.sliceApplied Builtin.Slice.sliceFields
  refine wpAny_bind (wpAny_bind (wpAny_field hos hds (x := .none) rfl (wpAny_bind (wpAny_field hos hds (x := .none) rfl (wpAny_bind (wpAny_field hos hds (x := vs) rfl (wpAny_pure ?_)))))))
  refine wpAny_bind (slicePart_ ps ?_)
  show wpAny _ _ (if ((-1 : Int) == 0) = true then _ else _) _ _ s
  rw [if_neg (by decide)]
  refine wpAny_bind (slicePart_none (wpAny_bind (slicePart_none (wpAny_bind (wpAny_pure ?_)))))
  show wpAny _ _ (match Builtin.Slice.sliceAdjust none none (-1) (n : Int) with | (lo, hi) => pure (lo, (-1 : Int), Builtin.Slice.slicePlaces lo hi (-1))) _ _ s
  rw [rv_adjust n]
  show wpAny _ _ (pure (((n : Int) - 1), (-1 : Int), Builtin.Slice.slicePlaces ((n : Int) - 1) (-1) (-1))) _ _ s
  rw [rv_places]
  exact wpAny_pure h
theorem rv_pick (xs : Array Value) : ((List.range xs.size).filterMap fun (m : Nat) => xs[(((xs.size : Int) - 1) + (m : Int) * (-1)).toNat]?).toArray = xs.toList.reverse.toArray := by
  congr 1
  have e : ∀ m ∈ List.range xs.size, xs[(((xs.size : Int) - 1) + (m : Int) * (-1)).toNat]? = xs.toList.reverse[m]? := fun m hm => by
    have h := List.mem_range.mp hm
    have : (((xs.size : Int) - 1) + (m : Int) * (-1)).toNat = xs.size - 1 - m := by omega
    rw [this, List.getElem?_reverse (by simpa using h), Array.getElem?_toList]
    simp
  have fc : ∀ (l : List Nat) (f g : Nat → Option Value), (∀ m ∈ l, f m = g m) → l.filterMap f = l.filterMap g := by
    intro l f g
    induction l with
    | nil => intro _; rfl
    | cons a l ih =>
      intro h
      rw [List.filterMap_cons, List.filterMap_cons, h a List.mem_cons_self, ih fun m hm => h m (List.mem_cons_of_mem _ hm)]
  rw [fc _ _ _ e]
  have hl : xs.size = xs.toList.reverse.length := by simp
  rw [hl]
  generalize xs.toList.reverse = l
  induction l with
  | nil => rfl
  | cons a l ih =>
    rw [List.length_cons, List.range_succ_eq_map, List.filterMap_cons]
    simp only [List.getElem?_cons_zero, List.filterMap_map]
    congr 1
theorem getItem_tuple_rev {t sl : Addr} {items : Array Value} {vs : Value} {Q : Value → Shared → Prop} (ht : IsTup s.heap t items) (hs : s.heap.IsSliceOf sl .none .none vs) (ps : IsPart vs (some (-1)))
    (h : Q (.ref s.heap.objs.size) { s with heap := s.heap.push { cls := .type "tuple", data := .seq items.toList.reverse.toArray } })
    (hsz : items.size ≤ sizeLine) : wpAny (model prog w) A (getItem (.ref t) (.ref sl)) Q E s := by
  have htake : sizeOk (.seq items.toList.reverse.toArray) := by
    show items.toList.reverse.toArray.size ≤ sizeLine
    rw [List.size_toArray, List.length_reverse, Array.length_toList]
    exact hsz
  obtain ⟨os, hos, hcs, hds⟩ := id hs
  have hTs : s.TypeIs (.ref sl) "slice" := ⟨os, hos, hcs⟩
  unfold getItem
  try with_reducible refine wpAny_holding ?_
  first | refine wpAny_bind (wpAny_pure ?_) | skip
  refine wpAny_bind (wpAny_sequenceKey ht.typeIs (by decide) ?_)
  refine wpAny_bind (wpAny_callSpecial?_slot (name := Str.ofString "__getitem__") ht.typeIs PyProof.Rows.slot_tuple_getitem
    (wpAny_call_entry PyProof.Rows.slot_tuple_getitem ht.typeIs entry_tuple_getitem ?_ (args_tuple_getitem _ _)))
  show wpAny _ _ (Builtin.Tuple.tupleItemsOf (.ref t) >>= _) _ _ s
  refine wpAny_bind (tupleItemsOf_ ht ?_)
  refine wpAny_bind (wpAny_typeOf hTs ?_)
  rw [if_pos (by decide)]
  refine wpAny_bind (rv_applied hs ps ?_)
  have hno : ¬ ((((items.size : Int) - 1) == 0 && (-1 : Int) == 1 && items.size == items.size) = true) := by
    intro q
    rw [Bool.and_eq_true, Bool.and_eq_true] at q
    exact absurd q.1.2 (by decide)
  show wpAny _ _ (if (((items.size : Int) - 1) == 0 && (-1 : Int) == 1 && items.size == items.size) = true then _ else _) _ _ s
  rw [if_neg hno, rv_pick]
  first
    | exact wpAny_bind (m := Builtin.Tuple.tupleExact _) (wpAny_newObj_type (wpAny_pure ⟨_, rfl, wpAny_pure h⟩) htake)
    | exact wpAny_bind (m := Builtin.Tuple.tupleExact _) (wpAny_newObj_type (wpAny_bind (wpAny_pure (wpAny_pure ⟨_, rfl, wpAny_pure h⟩))) htake)
    | exact wpAny_bind (wpAny_bind (m := Builtin.Tuple.tupleExact _) (wpAny_newObj_type (wpAny_pure (wpAny_pure ⟨_, rfl, wpAny_pure h⟩)) htake))
    | exact wpAny_bind (wpAny_bind (m := Builtin.Tuple.tupleExact _) (wpAny_newObj_type (wpAny_pure ⟨_, rfl, wpAny_pure h⟩) htake))
end
section
variable {X : Cx}
def tRevT (K : PySem.W.Frag) (te : TE) : TE := fun σ H Q => te σ H fun x H1 => ∃ a xs, x = .ref a ∧ SqT K H1 a xs ∧ ∀ p, H1 p = none → Q (.ref p) (upd H1 p (.tup xs.reverse))
theorem pe_revT {e : Expr} {te : TE} {k : Nat} {p1 p2 p3 pos : Pos} (he : PE X e te) : PE X (.Subscript e (.Slice none none (some (.UnaryOp .USub (.Constant (.int 1) k p1) p2)) p3) pos) (tRevT X.K te) := by
  refine ⟨fun pins s σ H Q I h => ?_⟩
  refine Subscript_ (thn (he.run pins s σ H _ I h) fun v s1 ⟨x, H1, I1, r1, q1⟩ => ?_)
  obtain ⟨a, xs, ex, hx, q⟩ := q1
  subst ex
  cases r1
  have hst : PO X (some (.UnaryOp .USub (.Constant (.int 1) k p1) p2)) (tPart (tUn (rU fun i => .int (-i)) (tC (.int 1)))) := po_some (pe_un un_neg pe_int)
  refine wpAny_Slice (thn (po_none.run pins s1 σ H1 (fun o H2 => o = none ∧ H2 = H1) I1 ⟨rfl, rfl⟩) fun vl s2 ⟨l, H2, I2, pl, el, e2⟩ => ?_)
  subst el e2
  refine thn (po_none.run pins s2 σ H2 (fun o H3 => o = none ∧ H3 = H2) I2 ⟨rfl, rfl⟩) fun vu s3 ⟨u, H3, I3, pu, eu, e3⟩ => ?_
  subst eu e3
  refine thn (hst.run pins s3 σ H3 (fun o H4 => o = some (-1) ∧ H4 = H3) I3 ⟨1, rfl, -1, rfl, rfl, rfl⟩) fun vs s4 ⟨o, H4, I4, ps, eo, e4⟩ => ?_
  subst eo e4
  cases pl
  cases pu
  have I5 : Inv X pins σ H4 { s4 with heap := s4.heap.push { cls := .type "slice", data := .fields #[.none, .none, vs] } } := I4.kept (t' := s4.toks) fun b ob q => Heap.get?_push_of_some _ q
  obtain ⟨its, r, ht, hz⟩ := I5.tuple hx
  have hlen := r.length
  show wpAny (model X.prog X.w) X.A (subscriptTail e (.Slice none none (some (.UnaryOp .USub (.Constant (.int 1) k p1) p2)) p3) (.ref a) (.ref s4.heap.objs.size)) (EP X pins σ Q) X.xe { s4 with heap := s4.heap.push { cls := .type "slice", data := .fields #[.none, .none, vs] } }
  refine tail_any (ops := [.ref a, .ref s4.heap.objs.size]) ht.typeIs (PyProof.Rows.slot_tuple_getitem.lookup) ?_ (by with_unfolding_all rfl)
  refine getItem_tuple_rev ht (Heap.IsSliceOf.new _ .none .none vs) ps ?_ (by rw [List.size_toArray]; omega)
  refine ⟨.ref _, _, I5.laid (t' := s4.toks) (o := .tup xs.reverse) (fun b ob q => Heap.get?_push_of_some _ q) (Nat.le_refl _) ?_, rfl, q _ (I5.hok.fresh (Nat.le_refl _))⟩
  exact ⟨by rw [List.length_reverse]; exact hz, _, r.reverse, IsTup.new _ _⟩
variable {Γ : Gam} {B : Bs} {Wx : WX} {RT : RTT} {k j n : Nat} {a b e : Expr} {m : M D} {pos p : Pos} {x : Str} {sp : XSpec}
def revT (_ : Z) (d : D) : Option D := match d with
  | .tup ds => some (.tup ds.reverse)
  | _ => none
theorem d_revT {kk : Nat} {p1 p2 p3 : Pos} (hK : X.K = Γ.K) (he : PE X e (tB Γ B Wx m)) : PE X (.Subscript e (.Slice none none (some (.UnaryOp .USub (.Constant (.int 1) kk p1) p2)) p3) pos) (tD Γ B Wx (mOp1 revT m)) := pe_weak (pe_revT he) fun σ H Q ⟨w, ρ, z, S, q⟩ =>
  ⟨w, ρ, z, S, q.bind.mono fun d w1 z1 H1 _ _ ⟨S1, s1, q1⟩ v rv => by
    obtain ⟨d', hd, q2⟩ := q1.opt
    unfold revT at hd
    split at hd
    · cases hd
      obtain ⟨a, xs, rfl, h1, h2⟩ := rv.tuple S1
      refine ⟨a, xs, rfl, by rw [hK]; exact h1, fun p hp => ?_⟩
      obtain ⟨S2, s2, r2⟩ := S1.tup h2.reverse hp
      exact q2 _ _ S2 s2 _ r2
    · cases hd⟩
/-- C.F -/
structure Cc (K : PySem.W.Frag) (C : Addr) (f : Str) (i : Int) : Prop where
  rd : PySem.W.readsIn K C (.type "type") = true
  ga : PySem.W.specialIn K (.ref C) "__getattribute__" = some (some (.builtin "type.__getattribute__"))
  at_ : ∃ t, PySem.W.findCls K (.ref C) (.type "type") f = some (.val (.int i t))
theorem d_cintE {C : Addr} {ff : Str} {i : Int} {cn : Str} {np : Pos} (hm : X.mg cn = some (.ref C)) (h : Cc X.K C ff i) (hg : Gl X cn := by rfl) (hd : (cn == ("__debug__" : Str)) = false := by decide)
    (hb : attributeBase (.Name cn np) ff X.env (eval (.Name cn np) X.env) = eval (.Name cn np) X.env := by rfl) : PE X (.Attribute (.Name cn np) ff pos) (tD Γ B Wx (mRet (.int i))) := d_cint hm ⟨h.rd, h.ga⟩ h.at_ hg hd hb
theorem pmk_x0 (V : Dv Γ X Wx j) (c : Nat) (T : XCl X.K X.prog (Γ.cls c) 0 sp) (hm : X.mg x = some (.ref (Γ.cls c))) (hms : X.mg "super" = none) (kC : PySem.W.keepIn X.K (.ref (Γ.cls c)) = true) (hg : Gl X x) (hdb : (x == ("__debug__" : Str)) = false) :
    PMk X (.Call (.Name x p) [] [] pos) (fun σ H Q => ∃ w ρ z, SI Γ B w ρ z σ H ∧ ∃ fsD, xGoD [] sp [] = some fsD ∧ ∀ dx fvs, H dx = none → fvs.map (·.1) = fsD.map (·.1) → RepL Γ w (fsD.map (·.2)) (fvs.map (·.2)) → Q (.ref (Γ.cls c)) (some dx) (upd H dx (.xd fvs))) := by
  intro pins s σ H Q I ⟨w, ρ, z, S, fsD, hx, q⟩
  refine wpAny_Call_Name_kw (ld_glob I hg hm ?_ hdb)
  exact PySem.W.callWith_K0 I.kIn kC (run_x (us := []) V T hms I .nil S.wi .nil rfl hx q)
theorem s_raise0 (c : Nat) (V : Dv Γ X Wx j) (T : XCl X.K X.prog (Γ.cls c) 0 sp) (hm : X.mg x = some (.ref (Γ.cls c))) (hms : X.mg "super" = none) (kC : PySem.W.keepIn X.K (.ref (Γ.cls c)) = true) {rpos : Pos} (hg : Gl X x := by rfl) (hdb : (x == ("__debug__" : Str)) = false := by decide) :
    DS X Γ B Wx RT (.Raise (some (.Call (.Name x p) [] [] pos)) none rpos) (sRaise c 0 sp mNil) :=
  ps_weak (ps_raise V.calm V.tk (pmk_x0 V c T hm hms kC hg hdb)) fun D0 σ H ⟨w, ρ, z, S, q⟩ => ⟨w, ρ, z, S, (raise_to (n := 0) (sp := sp) (ds := []) c S q).2⟩
end
@[simp] theorem rev_tupD {z : Z} (ds : List D) : revT z (.tup ds) = some (.tup ds.reverse) := rfl
end NW
set_option maxHeartbeats 1000000
/-! Plain Lean about mirrors: equality of data, typed loops, rules for simp. -/
namespace NW
open PySem PySem.Spec PyProof.Rows L2
/-! ### data that == decides by its content -/
mutual
def okD : Nat → D → Bool
  | _, .non => true
  | _, .int _ => true
  | _, .str x => PyData.strOk x
  | n + 1, .tup ds => okL n ds
  | n + 1, .lst ds => okL n ds
  | _, _ => false
def okL : Nat → List D → Bool
  | _, [] => true
  | n, d :: ds => okD n d && okL n ds
end
mutual
theorem okD_py : ∀ (n : Nat) (d : D), okD n d = true → ∃ p, toPy d = some p ∧ p.canLay0 = true ∧ p.depth ≤ n
  | _, .non, _ => ⟨_, rfl, by simp only [PyData.canLay0], by simp only [PyData.depth]; omega⟩
  | _, .int _, _ => ⟨_, rfl, by simp only [PyData.canLay0], by simp only [PyData.depth]; omega⟩
  | n, .str x, h => ⟨_, rfl, by unfold okD at h; simpa only [PyData.canLay0] using h, by simp only [PyData.depth]; omega⟩
  | n + 1, .tup ds, h => by
    unfold okD at h
    obtain ⟨ps, e, h1, h2⟩ := okL_py n ds h
    exact ⟨.tuple ps, by simp only [toPy, e]; rfl, by simpa only [PyData.canLay0] using h1, by simp only [PyData.depth]; omega⟩
  | n + 1, .lst ds, h => by
    unfold okD at h
    obtain ⟨ps, e, h1, h2⟩ := okL_py n ds h
    exact ⟨.list ps, by simp only [toPy, e]; rfl, by simpa only [PyData.canLay0] using h1, by simp only [PyData.depth]; omega⟩
  | 0, .tup ds, h => by simp [okD] at h
  | 0, .lst ds, h => by simp [okD] at h
  | n, .bl _, h => by simp [okD] at h
  | n, .obj _ _ _, h => by simp [okD] at h
  | n, .mob _, h => by simp [okD] at h
theorem okL_py : ∀ (n : Nat) (ds : List D), okL n ds = true → ∃ ps, toPys ds = some ps ∧ PyData.canLayAll0 ps = true ∧ PyData.depthAll ps ≤ n
  | _, [], _ => ⟨[], rfl, by simp only [PyData.canLayAll0], by simp only [PyData.depthAll]; omega⟩
  | n, d :: ds, h => by
    unfold okL at h
    obtain ⟨h1, h2⟩ := Bool.and_eq_true_iff.mp h
    obtain ⟨p, e1, a1, b1⟩ := okD_py n d h1
    obtain ⟨ps, e2, a2, b2⟩ := okL_py n ds h2
    exact ⟨p :: ps, by simp only [toPys, e1, e2]; rfl, by simp only [PyData.canLayAll0, a1, a2, Bool.and_self], by simp only [PyData.depthAll]; omega⟩
end
mutual
theorem eqv_ok : ∀ (n m : Nat) (d e : D) (p q : PyData), okD n d = true → okD m e = true → toPy d = some p → toPy e = some q → PyData.eqv p q = true → d = e
  | n, m, d, e, p, q, h1, h2, h3, h4, h => by
    match d, e, n, m, h1, h2, h3, h4 with
    | .non, .non, _, _, _, _, _, _ => rfl
    | .int a, .int b, _, _, _, _, h3, h4 => cases h3; cases h4; simp only [PyData.eqv, beq_iff_eq] at h; rw [h]
    | .str a, .str b, _, _, _, _, h3, h4 => cases h3; cases h4; simp only [PyData.eqv, beq_iff_eq] at h; rw [h]
    | .tup ds, .tup es, n + 1, m + 1, h1, h2, h3, h4 =>
      unfold okD at h1 h2
      obtain ⟨ps, e1, _⟩ := okL_py n ds h1
      obtain ⟨qs, e2, _⟩ := okL_py m es h2
      simp only [toPy, e1, e2, Option.map_some] at h3 h4
      cases h3; cases h4
      simp only [PyData.eqv] at h
      rw [eqv_okL n m ds es ps qs h1 h2 e1 e2 h]
    | .lst ds, .lst es, n + 1, m + 1, h1, h2, h3, h4 =>
      unfold okD at h1 h2
      obtain ⟨ps, e1, _⟩ := okL_py n ds h1
      obtain ⟨qs, e2, _⟩ := okL_py m es h2
      simp only [toPy, e1, e2, Option.map_some] at h3 h4
      cases h3; cases h4
      simp only [PyData.eqv] at h
      rw [eqv_okL n m ds es ps qs h1 h2 e1 e2 h]
    | .bl _, _, _, _, h1, _, _, _ => simp [okD] at h1
    | .obj _ _ _, _, _, _, h1, _, _, _ => simp [okD] at h1
    | .mob _, _, _, _, h1, _, _, _ => simp [okD] at h1
    | _, .bl _, _, _, _, h2, _, _ => simp [okD] at h2
    | _, .obj _ _ _, _, _, _, h2, _, _ => simp [okD] at h2
    | _, .mob _, _, _, _, h2, _, _ => simp [okD] at h2
    | .tup _, _, 0, _, h1, _, _, _ => simp [okD] at h1
    | .lst _, _, 0, _, h1, _, _, _ => simp [okD] at h1
    | _, .tup _, _, 0, _, h2, _, _ => simp [okD] at h2
    | _, .lst _, _, 0, _, h2, _, _ => simp [okD] at h2
    | .non, .int _, _, _, _, _, h3, h4 => cases h3; cases h4; simp [PyData.eqv] at h
    | .non, .str _, _, _, _, _, h3, h4 => cases h3; cases h4; simp [PyData.eqv] at h
    | .int _, .non, _, _, _, _, h3, h4 => cases h3; cases h4; simp [PyData.eqv] at h
    | .int _, .str _, _, _, _, _, h3, h4 => cases h3; cases h4; simp [PyData.eqv] at h
    | .str _, .non, _, _, _, _, h3, h4 => cases h3; cases h4; simp [PyData.eqv] at h
    | .str _, .int _, _, _, _, _, h3, h4 => cases h3; cases h4; simp [PyData.eqv] at h
    | .non, .tup es, _, m + 1, _, h2, h3, h4 => unfold okD at h2; obtain ⟨qs, e2, _⟩ := okL_py m es h2; simp only [toPy, e2, Option.map_some] at h4; cases h3; cases h4; simp [PyData.eqv] at h
    | .int _, .tup es, _, m + 1, _, h2, h3, h4 => unfold okD at h2; obtain ⟨qs, e2, _⟩ := okL_py m es h2; simp only [toPy, e2, Option.map_some] at h4; cases h3; cases h4; simp [PyData.eqv] at h
    | .str _, .tup es, _, m + 1, _, h2, h3, h4 => unfold okD at h2; obtain ⟨qs, e2, _⟩ := okL_py m es h2; simp only [toPy, e2, Option.map_some] at h4; cases h3; cases h4; simp [PyData.eqv] at h
    | .non, .lst es, _, m + 1, _, h2, h3, h4 => unfold okD at h2; obtain ⟨qs, e2, _⟩ := okL_py m es h2; simp only [toPy, e2, Option.map_some] at h4; cases h3; cases h4; simp [PyData.eqv] at h
    | .int _, .lst es, _, m + 1, _, h2, h3, h4 => unfold okD at h2; obtain ⟨qs, e2, _⟩ := okL_py m es h2; simp only [toPy, e2, Option.map_some] at h4; cases h3; cases h4; simp [PyData.eqv] at h
    | .str _, .lst es, _, m + 1, _, h2, h3, h4 => unfold okD at h2; obtain ⟨qs, e2, _⟩ := okL_py m es h2; simp only [toPy, e2, Option.map_some] at h4; cases h3; cases h4; simp [PyData.eqv] at h
    | .tup ds, .non, n + 1, _, h1, _, h3, h4 => unfold okD at h1; obtain ⟨qs, e2, _⟩ := okL_py n ds h1; simp only [toPy, e2, Option.map_some] at h3; cases h3; cases h4; simp [PyData.eqv] at h
    | .tup ds, .int _, n + 1, _, h1, _, h3, h4 => unfold okD at h1; obtain ⟨qs, e2, _⟩ := okL_py n ds h1; simp only [toPy, e2, Option.map_some] at h3; cases h3; cases h4; simp [PyData.eqv] at h
    | .tup ds, .str _, n + 1, _, h1, _, h3, h4 => unfold okD at h1; obtain ⟨qs, e2, _⟩ := okL_py n ds h1; simp only [toPy, e2, Option.map_some] at h3; cases h3; cases h4; simp [PyData.eqv] at h
    | .lst ds, .non, n + 1, _, h1, _, h3, h4 => unfold okD at h1; obtain ⟨qs, e2, _⟩ := okL_py n ds h1; simp only [toPy, e2, Option.map_some] at h3; cases h3; cases h4; simp [PyData.eqv] at h
    | .lst ds, .int _, n + 1, _, h1, _, h3, h4 => unfold okD at h1; obtain ⟨qs, e2, _⟩ := okL_py n ds h1; simp only [toPy, e2, Option.map_some] at h3; cases h3; cases h4; simp [PyData.eqv] at h
    | .lst ds, .str _, n + 1, _, h1, _, h3, h4 => unfold okD at h1; obtain ⟨qs, e2, _⟩ := okL_py n ds h1; simp only [toPy, e2, Option.map_some] at h3; cases h3; cases h4; simp [PyData.eqv] at h
    | .tup ds, .lst es, n + 1, m + 1, h1, h2, h3, h4 =>
      unfold okD at h1 h2
      obtain ⟨ps, e1, _⟩ := okL_py n ds h1
      obtain ⟨qs, e2, _⟩ := okL_py m es h2
      simp only [toPy, e1, e2, Option.map_some] at h3 h4
      cases h3; cases h4
      simp [PyData.eqv] at h
    | .lst ds, .tup es, n + 1, m + 1, h1, h2, h3, h4 =>
      unfold okD at h1 h2
      obtain ⟨ps, e1, _⟩ := okL_py n ds h1
      obtain ⟨qs, e2, _⟩ := okL_py m es h2
      simp only [toPy, e1, e2, Option.map_some] at h3 h4
      cases h3; cases h4
      simp [PyData.eqv] at h
theorem eqv_okL : ∀ (n m : Nat) (ds es : List D) (ps qs : List PyData), okL n ds = true → okL m es = true → toPys ds = some ps → toPys es = some qs → PyData.eqvAll ps qs = true → ds = es
  | n, m, ds, es, ps, qs, h1, h2, h3, h4, h => by
    match ds, es, h1, h2, h3, h4 with
    | [], [], _, _, _, _ => rfl
    | [], e :: es, _, h2, h3, h4 =>
      unfold okL at h2
      obtain ⟨a, b⟩ := Bool.and_eq_true_iff.mp h2
      obtain ⟨p, e1, _⟩ := okD_py m e a
      obtain ⟨ps', e2, _⟩ := okL_py m es b
      simp only [toPys, e1, e2, Option.bind_some, Option.map_some] at h3 h4
      cases h3; cases h4
      simp [PyData.eqvAll] at h
    | d :: ds, [], h1, _, h3, h4 =>
      unfold okL at h1
      obtain ⟨a, b⟩ := Bool.and_eq_true_iff.mp h1
      obtain ⟨p, e1, _⟩ := okD_py n d a
      obtain ⟨ps', e2, _⟩ := okL_py n ds b
      simp only [toPys, e1, e2, Option.bind_some, Option.map_some] at h3 h4
      cases h3; cases h4
      simp [PyData.eqvAll] at h
    | d :: ds, e :: es, h1, h2, h3, h4 =>
      unfold okL at h1 h2
      obtain ⟨a1, b1⟩ := Bool.and_eq_true_iff.mp h1
      obtain ⟨a2, b2⟩ := Bool.and_eq_true_iff.mp h2
      obtain ⟨p1, e1, _⟩ := okD_py n d a1
      obtain ⟨ps1, e2, _⟩ := okL_py n ds b1
      obtain ⟨p2, e3, _⟩ := okD_py m e a2
      obtain ⟨ps2, e4, _⟩ := okL_py m es b2
      simp only [toPys, e1, e2, e3, e4, Option.bind_some, Option.map_some] at h3 h4
      cases h3; cases h4
      simp only [PyData.eqvAll, Bool.and_eq_true] at h
      rw [eqv_ok n m d e p1 p2 a1 a2 e1 e3 h.1, eqv_okL n m ds es ps1 ps2 b1 b2 e2 e4 h.2]
end
theorem eqD_cases' (z : Z) (d e : D) : (∃ a b : Int, d = .int a ∧ e = .int b ∧ eqD z d e = some (decide (a = b))) ∨ (∃ a b : Str, d = .str a ∧ e = .str b ∧ eqD z d e = some (decide (a = b))) ∨ (∃ a b : Bool, d = .bl a ∧ e = .bl b ∧ eqD z d e = some (decide (a = b))) ∨ eqD z d e = eqG d e := by
  cases d <;> cases e <;> first | exact .inl ⟨_, _, rfl, rfl, rfl⟩ | exact .inr (.inl ⟨_, _, rfl, rfl, rfl⟩) | exact .inr (.inr (.inl ⟨_, _, rfl, rfl, rfl⟩)) | exact .inr (.inr (.inr rfl))
open Classical in
theorem eqD_ok (z : Z) {n m : Nat} {d e : D} (h1 : okD n d = true) (h2 : okD m e = true) (hn : n ≤ 64 := by decide) (hm : m ≤ 64 := by decide) : eqD z d e = some (decide (d = e)) := by
  rcases eqD_cases' z d e with ⟨a, b, rfl, rfl, h⟩ | ⟨a, b, rfl, rfl, h⟩ | ⟨a, b, rfl, rfl, h⟩ | h
  · rw [h]; congr 1; by_cases c : a = b
    · subst c; simp
    · simp [c]
  · rw [h]; congr 1; by_cases c : a = b
    · subst c; simp
    · simp [c]
  · simp [okD] at h1
  · rw [h]
    obtain ⟨p, e1, a1, b1⟩ := okD_py n d h1
    obtain ⟨q, e2, a2, b2⟩ := okD_py m e h2
    unfold eqG
    rw [e1, e2]
    simp only [Option.bind_some]
    rw [if_pos ⟨by unfold SeqAt.shaped; rw [a1]; simp; omega, by unfold SeqAt.shaped; rw [a2]; simp; omega⟩]
    congr 1
    by_cases c : d = e
    · subst c
      rw [e1] at e2
      cases e2
      rw [SeqAt.eqv_refl p a1]
      simp
    · simp only [c, decide_false]
      cases hq : PyData.eqv p q
      · rfl
      · exact absurd (eqv_ok n m d e p q h1 h2 e1 e2 hq) c
open Classical in
theorem neD_ok (z : Z) {n m : Nat} {d e : D} (h1 : okD n d = true) (h2 : okD m e = true) (hn : n ≤ 64 := by decide) (hm : m ≤ 64 := by decide) : neD z d e = some (!decide (d = e)) := by
  unfold neD
  rw [eqD_ok z h1 h2 hn hm]
  rfl
theorem okL_all {n : Nat} : ∀ {ds : List D}, okL n ds = true ↔ ∀ d ∈ ds, okD n d = true
  | [] => by simp [okL]
  | d :: ds => by
    simp only [okL, Bool.and_eq_true, List.mem_cons, forall_eq_or_imp, okL_all (ds := ds)]
theorem okL_map {α : Type} {n : Nat} {f : α → D} {xs : List α} (h : ∀ x ∈ xs, okD n (f x) = true) : okL n (xs.map f) = true := okL_all.mpr fun d hd => by
  obtain ⟨x, hx, rfl⟩ := List.mem_map.mp hd
  exact h x hx
/-! ### typed comprehensions and loops -/
theorem lcGo_filt {α : Type} {g : TgF} {mt : M Bool} {me : M D} {ρ : En} {z : Z} (enc : α → D) (c : α → Bool) (f : α → D) : ∀ (xs : List α) (acc : List D), acc.length + xs.length ≤ sizeLine →
    (∀ x ∈ xs, ∃ ρ1, g (enc x) ρ = some ρ1 ∧ mt ρ1 z = .ok (c x) z ∧ (c x = true → me ρ1 z = .ok (f x) z)) → lcGo g mt me ρ (xs.map enc) acc z = .ok (acc ++ (xs.filter c).map f) z
  | [], acc, _, _ => by simp [lcGo]
  | x :: xs, acc, hl, h => by
    obtain ⟨ρ1, e1, e2, e3⟩ := h x List.mem_cons_self
    simp only [List.length_cons] at hl
    rw [List.map_cons, lcGo, e1]
    dsimp only
    rw [e2]
    cases hc : c x with
    | false =>
      dsimp only
      rw [lcGo_filt enc c f xs acc (by omega) fun y hy => h y (List.mem_cons_of_mem _ hy), List.filter_cons_of_neg (by simp [hc])]
    | true =>
      dsimp only
      rw [e3 hc]
      dsimp only
      rw [if_pos (by omega), lcGo_filt enc c f xs (acc ++ [f x]) (by simp; omega) fun y hy => h y (List.mem_cons_of_mem _ hy), List.filter_cons_of_pos hc]
      simp
theorem lcGo_mapT {α : Type} {g : TgF} {me : M D} {ρ : En} {z : Z} (enc : α → D) (f : α → D) (xs : List α) (hl : xs.length ≤ sizeLine) (h : ∀ x ∈ xs, ∃ ρ1, g (enc x) ρ = some ρ1 ∧ me ρ1 z = .ok (f x) z) : lcGo g (mRet true) me ρ (xs.map enc) [] z = .ok (xs.map f) z := by
  have := lcGo_filt (mt := mRet true) (me := me) (g := g) (ρ := ρ) (z := z) enc (fun _ => true) f xs [] (by simpa using hl) fun x hx => by
    obtain ⟨ρ1, e1, e2⟩ := h x hx
    exact ⟨ρ1, e1, rfl, fun _ => e2⟩
  rw [this, List.filter_eq_self.mpr (fun _ _ => rfl)]
  rfl
/-- ends of a loop from within -/
def Lv : SR → Prop
  | .rt _ _ => True
  | .exc _ _ _ => True
  | _ => False
theorem forGo_find {α : Type} {g : TgF} {body : MS} {z : Z} (enc : α → D) (bad : α → Bool) (I : En → Prop) (Ex : α → SR → Prop) (hEx : ∀ x r, Ex x r → Lv r) : ∀ (xs : List α) (ρ : En), I ρ →
    (∀ x ∈ xs, ∀ ρ, I ρ → ∃ ρ1, g (enc x) ρ = some ρ1 ∧ (bad x = true → Ex x (body ρ1 z)) ∧ (bad x = false → ∃ ρ2, body ρ1 z = .nx ρ2 z ∧ I ρ2)) →
    (∃ x, xs.find? bad = some x ∧ Ex x (forGo g body (xs.map enc) ρ z)) ∨ (xs.find? bad = none ∧ ∃ ρ', forGo g body (xs.map enc) ρ z = .nx ρ' z ∧ I ρ')
  | [], ρ, hI, _ => .inr ⟨rfl, ρ, rfl, hI⟩
  | x :: xs, ρ, hI, h => by
    obtain ⟨ρ1, e1, e2, e3⟩ := h x List.mem_cons_self ρ hI
    rw [List.map_cons, List.find?_cons, forGo, e1]
    dsimp only
    cases hb : bad x with
    | true =>
      have := e2 hb
      have hl := hEx _ _ this
      refine .inl ⟨x, rfl, ?_⟩
      cases hr : body ρ1 z with
      | rt d z' => rw [hr] at this; exact this
      | exc y ρ' z' => rw [hr] at this; exact this
      | nx _ _ => rw [hr] at hl; exact hl.elim
      | bk _ _ => rw [hr] at hl; exact hl.elim
      | ct _ _ => rw [hr] at hl; exact hl.elim
      | bad => rw [hr] at hl; exact hl.elim
    | false =>
      obtain ⟨ρ2, e4, hI2⟩ := e3 hb
      rw [e4]
      exact forGo_find enc bad I Ex hEx xs ρ2 hI2 fun y hy => h y (List.mem_cons_of_mem _ hy)
/-! ### rules for simp -/
@[simp] theorem rb_assoc {α β γ : Type} (r : Res α) (f : α → Z → Res β) (g : β → Z → Res γ) : (r.bind f).bind g = r.bind fun a z => (f a z).bind g := by cases r <;> rfl
section
variable {ρ : En} {z : Z}
@[simp] theorem ap_fzA_own (i : Nat) (ms : MS) (ds : List D) (h : ρ[i]? = some (some (.own (.lst ds)))) : sFzA i ms ρ z = ms (ρ.set i (some (.sh (.lst ds)))) z := by unfold sFzA; rw [h]
@[simp] theorem ap_fzA_sh (i : Nat) (ms : MS) (d : D) (h : ρ[i]? = some (some (.sh d))) : sFzA i ms ρ z = ms ρ z := by unfold sFzA; rw [h]
def nxS (i : Nat) (o : Option (List D)) (ρ : En) (z : Z) : SR := match o with
  | some ys => .nx (ρ.set i (some (.own (.lst ys)))) z
  | none => .bad
@[simp] theorem nxS_some (i : Nat) (ys : List D) : nxS i (some ys) ρ z = .nx (ρ.set i (some (.own (.lst ys)))) z := rfl
@[simp] theorem ap_ownM (i : Nat) (f : List D → List D → Option (List D)) (ml : M (List D)) (xs : List D) (h : ρ[i]? = some (some (.own (.lst xs)))) : sOwnM i f ml ρ z = (ml ρ z).to ρ fun ds z1 => nxS i (f xs ds) ρ z1 := by
  unfold sOwnM
  rw [h]
  rfl
@[simp] theorem ap_ownSet (i : Nat) (mv mi : M D) (ds : List D) (h : ρ[i]? = some (some (.own (.lst ds)))) : sOwnSetG i mv mi ρ z = (mv ρ z).to ρ fun v z1 => (mi ρ z1).to ρ fun iv z2 => nxS i (setL ds iv v) ρ z2 := by
  unfold sOwnSetG sOwnSet
  simp only [h]
  rfl
@[simp] theorem append_in (xs : List D) (d : D) (h : xs.length < sizeLine) : appendF xs [d] = some (xs ++ [d]) := if_pos h
@[simp] theorem insert_in (xs : List D) (i : Int) (d : D) (h : xs.length < sizeLine) (h1 : 0 ≤ i) (h2 : i < 9223372036854775808) : insertF xs [.int i, d] = some (xs.take i.toNat ++ [d] ++ xs.drop i.toNat) := if_pos ⟨h, h1, h2⟩
@[simp] theorem setL_int (ds : List D) (c : Int) (v : D) : setL ds (.int c) v = (ixN ds.length c).map fun j => ds.set j v := rfl
@[simp] theorem ap_newF (c n : Nat) (F : FM) (ml : M (List D)) : mNewF c n F ml ρ z = (ml ρ z).bind fun ds z1 => if (ds.length + 1) = n then newTo c z1.length (F (.mob z1.length :: ds) (z1 ++ [.ins c []])) else .bad := rfl
@[simp] theorem ap_newM (c n : Nat) (F : FM) (ml : M (List D)) : mNewM c n F ml ρ z = (ml ρ z).bind fun ds z1 => if (ds.length + 1) = n then newMTo z1.length (F (.mob z1.length :: ds) (z1 ++ [.ins c []])) else .bad := rfl
@[simp] theorem newTo_exc (c n : Nat) (x : XD) : newTo c n (.exc x z) = .exc x z := rfl
@[simp] theorem ap_meth (c : Nat) (m : Str) (n : Nat) (F : FM) (mo : M D) (ml : M (List D)) : mMeth c m n F mo ml ρ z = (mo ρ z).bind fun o0 z0 => (ofO (methD c m z0 o0) z0).bind fun o z1 => (ml ρ z1).bind fun ds z2 => if (o :: ds).length = n then F (o :: ds) z2 else .bad := by
  simp [mMeth]
@[simp] theorem ap_methF (c : Nat) (m : Str) (n : Nat) (F : FM) (mo : M D) (ml : M (List D)) : mMethF c m n F mo ml ρ z = (mo ρ z).bind fun o0 z0 => (ofO (methD c m z0 o0) z0).bind fun o z1 => (ml ρ z1).bind fun ds z2 => (if (o :: ds).length = n then F (o :: ds) z2 else .bad).bind fun d z3 => ofO (itemsL d) z3 := by
  simp [mMethF]
@[simp] theorem ap_lenO (c : Nat) (F : FM) (m : M D) : mLenO c F m ρ z = (m ρ z).bind fun o0 z0 => (ofO (methD c "__len__" z0 o0) z0).bind fun o z1 => (okR (F [o] z1)).bind fun d z2 => ofO (nnI d) z2 := by
  simp [mLenO]
@[simp] theorem okR_ok (d : D) : okR (.ok d z) = .ok d z := rfl
@[simp] theorem nnI_in (i : Int) (h : 0 ≤ i) (h2 : i < 9223372036854775808) : nnI (.int i) = some (.int i) := if_pos ⟨h, h2⟩
@[simp] theorem ap_lam (G : (Z → Res D) → Z → Res D) (mb : M D) : mLam G mb ρ z = G (fun z => mb ρ z) z := rfl
def excO (c : Nat) (o : Option (List (Str × D))) (ρ : En) (z : Z) : SR := match o with
  | some fs => .exc ⟨c, fs⟩ ρ z
  | none => .bad
@[simp] theorem excO_some (c : Nat) (fs : List (Str × D)) : excO c (some fs) ρ z = .exc ⟨c, fs⟩ ρ z := rfl
@[simp] theorem ap_raise (c n : Nat) (sp : XSpec) (ml : M (List D)) : sRaise c n sp ml ρ z = (ml ρ z).to ρ fun ds z1 => if ds.length = n then excO c (xGoD ds sp []) ρ z1 else .bad := rfl
@[simp] theorem ap_setF (c : Nat) (f : Str) (mv mo : M D) : sSetF c f mv mo ρ z = (mv ρ z).to ρ fun v z1 => (mo ρ z1).to ρ fun o z2 => nxZ (setF c f z2 o v) ρ := rfl
@[simp] theorem tup_tup (n : Nat) (g : TgsF) (ds : List D) (h : ds.length = n) : tupT n g (.tup ds) ρ = g ds ρ := if_pos h
@[simp] theorem consT_cons (g : TgF) (h : TgsF) (d : D) (r : List D) : consT g h (d :: r) ρ = (g d ρ).bind fun ρ' => h r ρ' := rfl
@[simp] theorem nilT_nil : nilT [] ρ = some ρ := rfl
@[simp] theorem neg_int (i : Int) : negI z (.int i) = some (.int (-i)) := rfl
@[simp] theorem ne_int' (a b : Int) : neD z (.int a) (.int b) = some (!decide (a = b)) := rfl
@[simp] theorem ne_str' (a b : Str) : neD z (.str a) (.str b) = some (!decide (a = b)) := rfl
@[simp] theorem inF_lst (neg : Bool) (d : D) (ds : List D) : inF neg z d (.lst ds) = if flatD d = true ∧ ds.all flatD = true then some (if neg then !inV (vOf d) (ds.map vOf) else inV (vOf d) (ds.map vOf)) else none := rfl
@[simp] theorem inF_tup (neg : Bool) (d : D) (ds : List D) : inF neg z d (.tup ds) = if flatD d = true ∧ ds.all flatD = true then some (if neg then !inV (vOf d) (ds.map vOf) else inV (vOf d) (ds.map vOf)) else none := rfl
@[simp] theorem tuple_lst (ds : List D) : tupleD z [.lst ds] = some (.tup ds) := rfl
@[simp] theorem tuple_tup (ds : List D) : tupleD z [.tup ds] = some (.tup ds) := rfl
@[simp] theorem zipOf_lst (xs ys : List D) : zipOf z [.lst xs, .lst ys] = some (zipD xs ys) := rfl
@[simp] theorem zipOf_tup (xs ys : List D) : zipOf z [.tup xs, .tup ys] = some (zipD xs ys) := rfl
@[simp] theorem subI_int (a b : Int) : subI a b = some (.int (a - b)) := rfl
@[simp] theorem add_lst (a b : List D) (h : a.length + b.length ≤ sizeLine) : addD z (.lst a) (.lst b) = some (.lst (a ++ b)) := if_pos h
@[simp] theorem add_tup (a b : List D) (h : a.length + b.length ≤ sizeLine) : addD z (.tup a) (.tup b) = some (.tup (a ++ b)) := if_pos h
@[simp] theorem revL_lst (ds : List D) : revL z (.lst ds) = some ds.reverse := rfl
end
theorem rep_in {k : Int} {ds : List D} (h : 0 ≤ k ∧ k < 1000000 ∧ ds.length * k.toNat ≤ 16777216) : repF k ds = some (List.replicate k.toNat ds).flatten := if_pos h
theorem enumD_map {α : Type} (enc : α → D) (xs : List α) : enumD (xs.map enc) = xs.zipIdx.map fun p => .tup [.int (p.2 : Int), enc p.1] := by
  unfold enumD
  apply List.ext_getElem
  · simp
  · intro i h1 h2
    simp
theorem rng_zip {α : Type} (xs : List α) : rngD 0 xs.length = xs.zipIdx.map fun p => .int (p.2 : Int) := by
  unfold rngD
  apply List.ext_getElem
  · simp
  · intro i h1 h2
    simp
theorem zip_mem {α : Type} {xs : List α} {p : α × Nat} (h : p ∈ xs.zipIdx) : xs[p.2]? = some p.1 := by
  obtain ⟨i, hi, e⟩ := List.mem_iff_getElem.mp h
  have hi' : i < xs.length := by simpa using hi
  simp at e
  subst e
  simp
theorem allD_map {α : Type} (f : α → Bool) (l : List α) (z : Z) : allD (·.all id) z [.lst (l.map fun a => .bl (f a))] = some (.bl (l.all f)) := by
  have : allD (·.all id) z [.lst (l.map fun a => .bl (f a))] = (blsOf (l.map fun a => .bl (f a))).map fun bs => .bl (bs.all id) := rfl
  rw [this, blsOf_map]
  simp [List.all_map]
theorem anyD_map {α : Type} (f : α → Bool) (l : List α) (z : Z) : allD (·.any id) z [.lst (l.map fun a => .bl (f a))] = some (.bl (l.any f)) := by
  have : allD (·.any id) z [.lst (l.map fun a => .bl (f a))] = (blsOf (l.map fun a => .bl (f a))).map fun bs => .bl (bs.any id) := rfl
  rw [this, blsOf_map]
  simp [List.any_map]
theorem intsD_map : ∀ ns : List Int, intsD (ns.map D.int) = some ns
  | [] => rfl
  | n :: ns => by
    show (intsD (ns.map D.int)).map (n :: ·) = _
    rw [intsD_map ns]
    rfl
theorem sortSet_lst {ns : List Int} (z : Z) (h : ns.length < 64) : sortSet z (.lst (ns.map .int)) = some ((sortI ns).map .int) := by
  show (intsD (ns.map D.int)).bind _ = _
  rw [intsD_map]
  exact if_pos h
theorem sortSet_tup {ns : List Int} (z : Z) (h : ns.length < 64) : sortSet z (.tup (ns.map .int)) = some ((sortI ns).map .int) := by
  show (intsD (ns.map D.int)).bind _ = _
  rw [intsD_map]
  exact if_pos h
theorem inV_ints (i : Int) (ns : List Int) : inV (.int i) (ns.map V.int) = decide (i ∈ ns) := by
  unfold inV
  rw [List.any_map, Bool.eq_iff_iff, List.any_eq_true, decide_eq_true_eq]
  constructor
  · rintro ⟨x, hx, e⟩
    have : x = i := by simpa [eqV] using e
    exact this ▸ hx
  · exact fun h => ⟨i, h, by simp [eqV]⟩
theorem inV_strs (i : Str) (ns : List Str) : inV (.str i) (ns.map V.str) = decide (i ∈ ns) := by
  unfold inV
  rw [List.any_map, Bool.eq_iff_iff, List.any_eq_true, decide_eq_true_eq]
  constructor
  · rintro ⟨x, hx, e⟩
    have : x = i := by simpa [eqV] using e
    exact this ▸ hx
  · exact fun h => ⟨i, h, by simp [eqV]⟩
theorem cutL_map' {α β : Type} (f : α → β) (xs : List α) (lo hi : Option Int) : cutL (xs.map f) lo hi = (cutL xs lo hi).map f := by
  unfold cutL
  rw [List.length_map, List.map_take, List.map_drop]
end NW
set_option maxHeartbeats 1000000
/-! Plain Lean: loops that draw, customs as typed data. -/
namespace NW
open PySem PySem.Spec PyProof.Rows L2
theorem forGo_rng {I : Nat → En → Z → Prop} {g : TgF} {body : MS} (n : Nat) {ρ : En} {z : Z} (h0 : I 0 ρ z)
    (h : ∀ i, i < n → ∀ ρ z, I i ρ z → ∃ ρ1, g (.int (i : Int)) ρ = some ρ1 ∧ ∃ ρ2 z2, body ρ1 z = .nx ρ2 z2 ∧ I (i + 1) ρ2 z2) : ∃ ρ' z', forGo g body (rngD 0 n) ρ z = .nx ρ' z' ∧ I n ρ' z' := by
  obtain ⟨ρ', z', e, hI⟩ := forGo_ix (I := I) (g := g) (body := body) (rngD 0 n) (rngD 0 n) 0 ρ z (by simp) rfl h0 (fun i d hd ρ z hI => by
    have hi : i < n := by
      have := (List.getElem?_eq_some_iff.mp hd).1
      rwa [len_rng] at this
    have : d = .int (i : Int) := by
      unfold rngD at hd
      rw [List.getElem?_map, List.getElem?_range hi] at hd
      simp at hd
      exact hd.symm
    subst this
    exact h i hi ρ z hI)
  rw [len_rng] at hI
  exact ⟨ρ', z', e, hI⟩
theorem lcGo_sub {α : Type} {P : Z → Prop} {g : TgF} {mt : M Bool} {me : M D} {ρ : En} (enc f : α → D) : ∀ (xs : List α) (acc : List D) (z : Z), P z → acc.length + xs.length ≤ sizeLine →
    (∀ x ∈ xs, ∀ z, P z → ∃ ρ1, g (enc x) ρ = some ρ1 ∧ ∃ b z1, mt ρ1 z = .ok b z1 ∧ P z1 ∧ (b = true → me ρ1 z1 = .ok (f x) z1)) →
    ∃ (ys : List α) (z' : Z), lcGo g mt me ρ (xs.map enc) acc z = .ok (acc ++ ys.map f) z' ∧ P z' ∧ ys.Sublist xs
  | [], acc, z, hP, _, _ => ⟨[], z, by simp [lcGo], hP, .slnil⟩
  | x :: xs, acc, z, hP, hl, h => by
    obtain ⟨ρ1, e1, b, z1, e2, hP1, e3⟩ := h x List.mem_cons_self z hP
    simp only [List.length_cons] at hl
    rw [List.map_cons, lcGo, e1]
    dsimp only
    rw [e2]
    cases b with
    | false =>
      dsimp only
      obtain ⟨ys, z', r1, r2, r3⟩ := lcGo_sub enc f xs acc z1 hP1 (by omega) fun y hy => h y (List.mem_cons_of_mem _ hy)
      exact ⟨ys, z', r1, r2, r3.cons x⟩
    | true =>
      dsimp only
      rw [e3 rfl]
      dsimp only
      rw [if_pos (by omega)]
      obtain ⟨ys, z', r1, r2, r3⟩ := lcGo_sub enc f xs (acc ++ [f x]) z1 hP1 (by simp; omega) fun y hy => h y (List.mem_cons_of_mem _ hy)
      exact ⟨x :: ys, z', by rw [r1]; simp, r2, r3.cons_cons x⟩
theorem lcGo_drawT {α β : Type} {P : Z → Prop} {E : α → β → Prop} {g : TgF} {me : M D} {ρ : En} (enc : α → D) (f : β → D) : ∀ (xs : List α) (acc : List D) (z : Z), P z → acc.length + xs.length ≤ sizeLine →
    (∀ x ∈ xs, ∀ z, P z → ∃ ρ1, g (enc x) ρ = some ρ1 ∧ ∃ y z1, me ρ1 z = .ok (f y) z1 ∧ P z1 ∧ E x y) →
    ∃ (ys : List β) (z' : Z), lcGo g (mRet true) me ρ (xs.map enc) acc z = .ok (acc ++ ys.map f) z' ∧ P z' ∧ ys.length = xs.length ∧ (∀ y ∈ ys, ∃ x ∈ xs, E x y)
  | [], acc, z, hP, _, _ => ⟨[], z, by simp [lcGo], hP, rfl, by simp⟩
  | x :: xs, acc, z, hP, hl, h => by
    obtain ⟨ρ1, e1, y, z1, e2, hP1, hE⟩ := h x List.mem_cons_self z hP
    simp only [List.length_cons] at hl
    rw [List.map_cons, lcGo, e1]
    dsimp only [ap_ret]
    rw [e2]
    dsimp only
    rw [if_pos (by omega)]
    obtain ⟨ys, z', r1, r2, r3, r4⟩ := lcGo_drawT (E := E) enc f xs (acc ++ [f y]) z1 hP1 (by simp; omega) fun y hy => h y (List.mem_cons_of_mem _ hy)
    refine ⟨y :: ys, z', by rw [r1]; simp, r2, by simp [r3], fun w hw => ?_⟩
    rcases List.mem_cons.mp hw with rfl | hw
    · exact ⟨x, List.mem_cons_self, hE⟩
    · obtain ⟨x', hx, he⟩ := r4 w hw
      exact ⟨x', List.mem_cons_of_mem _ hx, he⟩
theorem rng_map (n : Nat) : rngD 0 n = (List.range n).map fun (i : Nat) => D.int (i : Int) := by unfold rngD; simp
theorem rng1_nn {z : Z} {r : Int} (h0 : 0 ≤ r) (h : r < 16777216) : rng1 z [.int r] = some (rngD 0 r.toNat) := if_pos ⟨by omega, by omega⟩
theorem rng1_in {z : Z} {n : Nat} (h : n < 16777216) : rng1 z [.int (n : Int)] = some (rngD 0 n) := by
  have e := rng1_nn (z := z) (r := (n : Int)) (by omega) (by omega)
  rwa [Int.toNat_natCast] at e
/-! ### customs -/
structure Sta where
  says : Int
  belief : Option Str
  zeros : List Int
  ones : List Int
structure Cu where
  states : List Sta
  starts : List Int
def encB : Option Str → D
  | none => .non
  | some s => .str s
def encR (r : List Int) : D := .tup (r.map .int)
def Sta.enc (s : Sta) : D := .tup [.int s.says, encB s.belief, encR s.zeros, encR s.ones]
def Cu.enc (c : Cu) : D := .tup [.lst (c.states.map Sta.enc), .lst (c.starts.map .int)]
/-- a row of next states of a drawn custom -/
structure GoodR (n : Nat) (r : List Int) : Prop where
  ne : r ≠ []
  asc : r.Pairwise (· < ·)
  rng : ∀ x ∈ r, 0 ≤ x ∧ x < n
  few : r.length ≤ 2
structure GoodS (n : Nat) (names : List Str) (s : Sta) : Prop where
  says : s.says = 0 ∨ s.says = 1
  belief : ∀ b, s.belief = some b → b ∈ names
  zeros : GoodR n s.zeros
  ones : GoodR n s.ones
structure GoodC (most : Nat) (names : List Str) (c : Cu) : Prop where
  pos : 1 ≤ c.states.length
  few : c.states.length ≤ most
  st : ∀ s ∈ c.states, GoodS c.states.length names s
  sne : c.starts ≠ []
  sasc : c.starts.Pairwise (· < ·)
  srng : ∀ x ∈ c.starts, 0 ≤ x ∧ x < c.states.length
  sfew : c.starts.length ≤ c.states.length
def lettersL : List Nat := ("abcdefghijklmnopqrstuvwxyz" : Str).cps.toList
/-- names as the law draws them -/
structure GoodN (s : Str) : Prop where
  pos : 1 ≤ s.cps.toList.length
  few : s.cps.toList.length ≤ 8
  abc : ∀ c ∈ s.cps.toList, c ∈ lettersL
theorem len_cps' (x : Str) : x.cps.toList.length = x.length := (len_cps x).symm
theorem sortI_len : ∀ ns : List Int, (sortI ns).length ≤ ns.length
  | [] => by simp [sortI]
  | n :: ns => by
    have ih := sortI_len ns
    have : ∀ (k : Int) (xs : List Int), (insI k xs).length ≤ xs.length + 1 := by
      intro k xs
      induction xs with
      | nil => simp [insI]
      | cons x xs ih => unfold insI; split; · simp
                        · split
                          · simp
                          · simp; exact ih
    have h := this n (sortI ns)
    show (insI n (sortI ns)).length ≤ _
    simp only [List.length_cons]
    omega
@[simp] theorem le_line {n : Nat} (h : n ≤ 1000) : n ≤ sizeLine := by rw [sizeLine_eq]; omega
@[simp] theorem lt_line {n : Nat} (h : n ≤ 1000) : n < sizeLine := by rw [sizeLine_eq]; omega
theorem range_pw (n : Nat) : (List.range n).Pairwise (· < ·) := List.pairwise_lt_range
end NW
set_option maxHeartbeats 1000000
/-! Defs with *args and their calls; own operators of two instances of one class. -/
namespace NW
open PySem PySem.Spec PyProof.Rows L2 StX
/-- a def's promise for the values that it is given by place -/
structure FnV (P : Program) (w : World) (K : PySem.W.Frag) (mg : Str → Option Value) (base : Heap) (k : Nat) (f : Addr) (sp : Sp) : Prop where
  run : ∀ (A : Around) (outer : List Env) (s : Shared) (H : Hp) (us : List Value) (vs : List V) (Q : VK) (E : XK), Room k A → A.guards = some [] → Env0 P w K mg base A outer s H → Vals vs us → sp vs H Q E →
    codeAny (model P w) A (.call (.ref f) ⟨us, []⟩) (CR (L2.CX P w) outer P w H s Q E) s
theorem FnG.toV {P : Program} {w : World} {K : PySem.W.Frag} {mg : Str → Option Value} {base : Heap} {k : Nat} {f : Addr} {fd : FuncData} {ps : List Str} {sp : Sp} (G : FnG P w K mg base k f fd ps sp) (hb : Binds K fd ps []) : FnV P w K mg base k f sp := ⟨fun A outer s H us vs Q E hr hg e0 r h => by
  have KX : K.In s.heap := e0.mod.kin.keeps fun b o e => (e0.bs b o e).1
  have hl : us.length = ps.length := by rw [← r.length]; exact G.len _ _ _ _ h
  have bb := hb s us KX (by rw [List.append_nil]; exact hl)
  rw [List.append_nil] at bb
  exact G.run A outer s H ⟨us, []⟩ us vs Q E hr hg e0 bb r h⟩
theorem fnTo.back {Γ : Gam} {w w' : W} {H H' : Hp} {r : Res D} {Q : VK} {E : XK} (h : fnTo Γ (RTn Γ) w H r Q E) (s : Step w H w' H') : fnTo Γ (RTn Γ) w' H' r Q E := by
  cases r with
  | ok d z => exact fun v w2 H2 I t rt => h v w2 H2 I (s.trans t) rt
  | exc x z => exact fun cls dd w2 H2 I t rx => h cls dd w2 H2 I (s.trans t) rx
  | bad => exact h
/-- n arguments by place, the others in a tuple -/
def spV (Γ : Gam) (n : Nat) (F : FM) : Sp := fun vs H Q E => n ≤ vs.length ∧ vs.length ≤ n + sizeLine ∧ ∃ w z ds, WI Γ w z H ∧ RepL Γ w ds vs ∧ fnTo Γ (RTn Γ) w H (F (ds.take n ++ [.tup (ds.drop n)]) z) Q E
section
variable {P : Program} {w : World} {K : PySem.W.Frag} {mg : Str → Option Value} {base : Heap} {cls : Nat → Addr} {tb : List (Addr × Str)}
theorem fn_star {x qual : Str} {st : Stmt} {f : Addr} {fd : FuncData} {k n : Nat} {F0 : FM} (N ps : List Str) (pv : Str) (ms : MS) (F : Fun K x qual st f fd) (S : FnScope N (ps ++ [pv]) (defScope st)) (hF : F0 = runB N.length ms) (hn : n = ps.length)
    (hb : ∀ (kV doc pm : Value) (an : Option Addr) (cdv ct : Value) (us rest : List Value), us.length = ps.length → bindArgs (PySem.W.fnOf x qual (defArgs st) (defBody st) (defScope st) .none kV doc pm an cdv ct) ⟨us ++ rest, []⟩ = (newTuple rest >>= fun t => pure (ps.zip us ++ [(pv, t)])))
    (hbody : ∀ (cdv : Value) (A : Around) (outer : List Env) (s : Shared) (H : Hp) (E : XK) (B : Bs), Dv ⟨K, cls, tb⟩ (CxF P w K mg base N qual st f cdv A outer s H E) (WxE E) k → PassesOwn (model P w) (CxF P w K mg base N qual st f cdv A outer s H E).A (CxF P w K mg base N qual st f cdv A outer s H E).env (CxF P w K mg base N qual st f cdv A outer s H E).xe →
      DSs (CxF P w K mg base N qual st f cdv A outer s H E) ⟨K, cls, tb⟩ B (WxE E) (RTn ⟨K, cls, tb⟩) (defBody st) ms) : FnV P w K mg base (k + 1) f (spV ⟨K, cls, tb⟩ n F0) := by
  subst hF hn
  obtain ⟨oc, od, kV, doc, pm, an, cdv, ct, osl, rfl, lk, hcd⟩ := F.ex
  refine ⟨fun A outer s H us vs Q E hr hg e0 r hsp => ?_⟩
  obtain ⟨h1, h2, w0, z, ds, I, rd, hq⟩ := hsp
  obtain ⟨u1, u2, rfl, r1, r2⟩ := vals_split (ws := vs.take ps.length) (rest := vs.drop ps.length) (us := us) (by rw [List.take_append_drop]; exact r)
  have l1 : u1.length = ps.length := by rw [← r1.length, List.length_take]; omega
  have l2 : u2.length ≤ sizeLine := by rw [← r2.length, List.length_drop]; omega
  have lr : (vs.drop ps.length).length ≤ sizeLine := by rw [List.length_drop]; omega
  have hn : H s.heap.objs.size = none := e0.hok.fresh (Nat.le_refl _)
  refine run_bnd lk hcd S hr e0 (G := fun xs H2 => ∃ p, H p = none ∧ xs = vs.take ps.length ++ [V.ref p] ∧ H2 = upd H p (.tup (vs.drop ps.length))) (fun A' Ex Q' h => ?_) fun s2 H2 xs ⟨p, hp, ex, eH⟩ hr' => ?_
  · rw [hb _ _ _ _ _ _ u1 u2 l1]
    refine wpAny_bind (wpAny_newTuple (wpAny_pure ?_) l2)
    have new : ObjOk P w (upd H s.heap.objs.size (.tup (vs.drop ps.length))) (s.heap.push ({ cls := .type "tuple", data := .seq u2.toArray } : Obj)) s.heap.objs.size (.tup (vs.drop ps.length)) := ⟨lr, u2, r2, ⟨_, Heap.get?_push_size _ rfl, rfl, _, rfl⟩⟩
    have un := un_laid (fs := frs outer) (s := s) (o := ({ cls := .type "tuple", data := .seq u2.toArray } : Obj)) (u := .tup (vs.drop ps.length)) hn
    have q := h _ _ (vs.take ps.length ++ [V.ref s.heap.objs.size]) (u1 ++ [Value.ref s.heap.objs.size]) (env0_laid e0 new) un rfl (fun e s' => cxUp outer s H _ _ E e s' un (fun b o q => Heap.get?_push_of_some _ q) rfl) (r1.append (.cons rfl .nil))
      (by rw [r1.append (.cons (show RelV (V.ref s.heap.objs.size) (Value.ref s.heap.objs.size) from rfl) .nil) |>.length, List.length_append, List.length_append, l1] <;> rfl) ⟨_, hn, rfl, rfl⟩
    rw [List.zip_append l1.symm] at q
    exact q
  · subst ex eH
    obtain ⟨I2, st2⟩ := I.new (o := .tup (vs.drop ps.length)) hp
    have rt : Rep ⟨K, cls, tb⟩ ⟨upd w0.R p (.tup (vs.drop ps.length)), w0.pl⟩ (.tup (ds.drop ps.length)) (.ref p) := .tup (SqT.of upd_same) ((rd.drop _).step st2)
    refine ⟨_, hbody cdv A outer s2 _ E (bs _ _) ⟨rfl, rfl, S.nd, hr', hg, takes_of rfl rfl rfl rfl⟩ (passes_of rfl), _, _, z, SI.start I2 (((rd.take _).step st2).append (.cons rt .nil)), body_to (fnTo.back hq st2) fun _ _ => .non⟩
end
section
variable {X : Cx} {Γ : Gam} {B : Bs} {Wx : WX} {RT : RTT} {k j : Nat} {a b e o : Expr} {es : List Expr} {m ma mb mo : M D} {ml : M (List D)} {pos p apos : Pos} {f fa : Addr} {fd : FuncData} {ps : List Str} {F : FM} {x mn : Str}
theorem run_fnV {sp : Sp} {E : XK} {pins : List (Addr × Obj)} {σ : Sl} {H : Hp} {s : Shared} {Q : VK} {us : List Value} {vs : List V} (G : FnV X.prog X.w X.K X.mg X.base k f sp) (hr : Room k X.A) (hg : X.A.guards = some []) (hx : PassesAt (L2.CX X.prog X.w) X σ E)
    (I : Inv X pins σ H s) (r : Vals vs us) (h : sp vs H Q E) : wpAny (model X.prog X.w) X.A (call (.ref f) us) (EP X pins σ Q) X.xe s := by
  refine wpAny_call (codeAny_mono (G.run X.A X.stack s H us vs Q E hr hg I.env0 r h) fun r s' hq => ?_)
  cases r with
  | error e => exact hx pins H s e s' I hq
  | ok fl =>
    cases fl with
    | ret u => exact I.after hq
    | next => exact False.elim hq
    | brk => exact False.elim hq
    | cont => exact False.elim hq
/-- what such a def is given -/
def starA (n : Nat) (F : FM) (ds : List D) (z : Z) : Res D := if n ≤ ds.length ∧ ds.length ≤ n + sizeLine then F (ds.take n ++ [.tup (ds.drop n)]) z else .bad
theorem starA_to {w : W} {ρ : En} {z : Z} {σ : Sl} {H : Hp} {ds : List D} {vs : List V} {Q : VK} {n : Nat} (S : SI Γ B w ρ z σ H) (r : RepL Γ w ds vs) (q : resTo Γ B Wx w ρ σ H (starA n F ds z) fun d w' _ H' => ∀ v, Rep Γ w' d v → Q v H') : spV Γ n F vs H Q (fun cls dd H' => Wx cls dd σ H') := by
  unfold starA at q
  split at q
  · rename_i hl
    rw [← r.length] at hl
    refine ⟨hl.1, hl.2, w, z, ds, S.wi, r, ?_⟩
    cases hr : F (ds.take n ++ [.tup (ds.drop n)]) z with
    | ok d z' => rw [hr] at q; exact fun v w' H' I st rv => q w' H' (S.carry I st) st v rv
    | exc x z' => rw [hr] at q; exact fun cls dd w' H' I st rx => q cls dd w' H' (S.carry I st) st rx
    | bad => rw [hr] at q; exact q
  · exact q.elim
def mAppV (n : Nat) (F : FM) (ml : M (List D)) : M D := mBind ml fun ds _ z => starA n F ds z
def mMethV (c : Nat) (m : Str) (n : Nat) (F : FM) (mo : M D) (ml : M (List D)) : M D := mBind (mOp1 (methD c m) mo) fun o => mBind ml fun ds _ z => starA n F (o :: ds) z
theorem d_callV {n : Nat} (V : Dv Γ X Wx j) (G : FnV X.prog X.w X.K X.mg X.base k f (spV Γ n F)) (hm : X.mg x = some (.ref f)) (hkp : PySem.W.keepIn X.K (.ref f) = true) (ha : PA X (e :: es) (tDA Γ B Wx ml)) (hj : k ≤ j := by decide) (hg : Gl X x := by rfl) (hdb : (x == ("__debug__" : Str)) = false := by decide)
    (he : starEach (e :: es) X.env = (false, eval e X.env) :: starEach es X.env := by rfl) (hpl : (backTo pos (starEach es X.env)).any (·.1) = false := by rfl) : PE X (.Call (.Name x p) (e :: es) [] pos) (tD Γ B Wx (mAppV n F ml)) := by
  refine ⟨fun pins s σ H Q I ⟨w, ρ, z, S, q⟩ => ?_⟩
  refine wpAny_Call_Name_kw (ld_glob I hg hm ?_ hdb)
  refine PySem.W.callWith_K (h₀ := X.base) I.ok.mod.kin hkp (thn (ha.run pos pins s σ H (fun vs H1 => spV Γ n F vs H1 Q (fun cls dd H' => Wx cls dd σ H')) I ⟨w, ρ, z, S, q.bind.mono fun ds w1 z1 H1 _ _ ⟨S1, s1, q1⟩ vs rvs => starA_to S1 rvs q1⟩) fun us s1 ⟨vs, H1, I1, r, q1⟩ => ⟨I1.kIn, ?_⟩) he hpl
  exact run_fnV G (V.room.mono hj) V.grd (passAt V.tk σ) I1 r q1
theorem methVTo {c n : Nat} {t : TA} (ht : ∀ σ H Q, tDA Γ B Wx ml σ H Q → t σ H Q) : ∀ σ H Q, tD Γ B Wx (mMethV c mn n F mo ml) σ H Q → tMethS Wx (Γ.cls c) mn (spV Γ n F) (tD Γ B Wx mo) t σ H Q := fun σ H Q ⟨w, ρ, z, S, q⟩ =>
  ⟨w, ρ, z, S, q.bind.bind.mono fun o w1 z1 H1 _ _ ⟨S1, s1, q1⟩ u ru => by
    obtain ⟨o', ho, q2⟩ := q1.opt
    obtain ⟨rfl, fs, h1, h2⟩ := methD_at ho
    obtain ⟨a, dx, fvs, rfl, g1, g2, g3⟩ := ru.insAt S1.wi h1
    refine ⟨a, dx, fvs, rfl, g1, look_none g2 h2, ht _ _ _ ⟨w1, ρ, z1, S1, ?_⟩⟩
    have q3 : resTo Γ B Wx w1 ρ σ H1 ((ml ρ z1).bind fun ds z => starA n F (o' :: ds) z) (fun d w' _ H' => ∀ v, Rep Γ w' d v → Q v H') := (q2 w1 H1 S1 (.refl _ _)).2.2
    exact q3.bind.mono fun ds w2 z2 H2 _ _ ⟨S2, s2, q4⟩ vs rvs => starA_to S2 (.cons (ru.step s2) rvs) q4⟩
theorem d_methV {pl : Sem Bool} (c : Nat) {n : Nat} (V : Dv Γ X Wx j) (hc : Cls X.K (Γ.cls c)) (hm : Meth X.K (Γ.cls c) mn fa) (G : FnV X.prog X.w X.K X.mg X.base k fa (spV Γ n F)) (he : PE X o (tD Γ B Wx mo)) (ha : PA X (e :: es) (tDA Γ B Wx ml)) (hj : k ≤ j := by decide)
    (hst : starEach (e :: es) X.env = (false, eval e X.env) :: starEach es X.env := by rfl) (hpl : (backTo pos (starEach es X.env)).any (·.1) = false := by rfl)
    (ht : eval (.Call (.Attribute o mn apos) (e :: es) [] pos) X.env = (do
      let ov ← eval o X.env
      standAt apos.atName
      let (f, first) ← holding [ov] (getMethod ov mn pl)
      callWith pos f first (backTo pos (starEach (e :: es) X.env)) (backToKw pos (keywordEach [] X.env))) := by rfl) :
    PE X (.Call (.Attribute o mn apos) (e :: es) [] pos) (tD Γ B Wx (mMethV c mn n F mo ml)) := by
  refine ⟨fun pins s σ H Q I h => ?_⟩
  refine PySem.W.methodCall_KW (pl := pl) (thn (he.run pins s σ H _ I (methVTo (fun _ _ _ q => q) σ H Q h)) fun u s1 ⟨x, H1, I1, rx, a, dx, fs, ex, ea, l, q⟩ => ?_) ht
  subst ex
  obtain rfl : u = Value.ref a := rx
  refine getmeth_ok I1 ea hc hm l ?_
  refine PySem.W.callWith_K (first := [.ref a]) (h₀ := X.base) I.ok.mod.kin hm.kp (thn (ha.run pos pins s1 σ H1 _ I1 q) fun us s2 ⟨vs, H2, I2, r, q2⟩ => ⟨I2.kIn, ?_⟩) hst hpl
  exact run_fnV (us := .ref a :: us) (vs := .ref a :: vs) G (V.room.mono hj) V.grd (passAt V.tk σ) I2 (.cons rfl r) q2
theorem d_methV0 {pl : Sem Bool} (c : Nat) {n : Nat} (V : Dv Γ X Wx j) (hc : Cls X.K (Γ.cls c)) (hm : Meth X.K (Γ.cls c) mn fa) (G : FnV X.prog X.w X.K X.mg X.base k fa (spV Γ n F)) (he : PE X o (tD Γ B Wx mo)) (hj : k ≤ j := by decide)
    (ht : eval (.Call (.Attribute o mn apos) [] [] pos) X.env = (do
      let ov ← eval o X.env
      standAt apos.atName
      let (f, first) ← holding [ov] (getMethod ov mn pl)
      callWith pos f first (backTo pos (starEach [] X.env)) (backToKw pos (keywordEach [] X.env))) := by rfl) :
    PE X (.Call (.Attribute o mn apos) [] [] pos) (tD Γ B Wx (mMethV c mn n F mo mNil)) := by
  refine ⟨fun pins s σ H Q I h => ?_⟩
  refine PySem.W.methodCall_KW (pl := pl) (thn (he.run pins s σ H _ I (methVTo (t := tNil) (fun _ _ _ ⟨w, ρ, z, S, q⟩ => q.ok S [] .nil) σ H Q h)) fun u s1 ⟨x, H1, I1, rx, a, dx, fs, ex, ea, l, q⟩ => ?_) ht
  subst ex
  obtain rfl : u = Value.ref a := rx
  refine getmeth_ok I1 ea hc hm l ?_
  refine PySem.W.callWith_K0 (first := [.ref a]) I1.kIn hm.kp ?_
  exact run_fnV (us := [.ref a]) (vs := [.ref a]) G (V.room.mono hj) V.grd (passAt V.tk σ) I1 (.cons rfl .nil) q
/-! ### x op y by an own method of x, y of the same class -/
theorem binop_own {op : Operator} {h : Heap} {xa fm C : Addr} {ox : Obj} {od : Option Obj} {b : Value} {A : Around} {E : Value → Shared → Prop} {s : Shared} {K : PySem.W.Frag} {prog : Program} {w : World} {Q : Value → Shared → Prop} (KX : K.In s.heap) (I : PySem.W.InstAt s.heap xa ox C od) (hb : PySem.W.Looks (model prog w) s.heap (typeOf b) (.ref C)) (hc : PySem.W.selfFirst K C = true)
    (hs : PySem.W.findIn K (.ref C) (PySem.dunder op.info.2) = some (some (.ref fm))) (hf : PySem.W.isFn K (.ref fm) = true)
    (hq : wpAny (model prog w) A (call (.ref fm) [.ref xa, b]) (fun v s' => v ≠ .notImplemented ∧ Q v s') E s) : wpAny (model prog w) A (binaryOp op (.ref xa) b) Q E s := by
  obtain ⟨cd, hcd, hm⟩ := PySem.W.any_some hc
  obtain ⟨rest, hm⟩ : ∃ rest, cd.mro = .ref C :: rest := by
    match q : cd.mro, hm with
    | a :: r, hm => exact ⟨r, by rw [List.head?_cons] at hm; cases (beq_iff_eq.mp hm); rfl⟩
  refine wpAny_holding (wpAny_bind ?_)
  unfold binaryOp1
  refine wpAny_bind (I.type.here (wpAny_bind (hb.here (wpAny_bind ((PySem.W.fills_K KX hcd hm hs).here ?_)))))
  simp only [beq_self_eq_true, if_true]
  refine wpAny_bind (wpAny_pure ?_)
  simp only [Bool.and_false, Bool.false_eq_true, if_false, Bool.false_and]
  refine wpAny_bind (wpAny_pure ?_)
  simp only [Bool.false_eq_true, if_false]
  refine wpAny_bind (m := tryMethod (.ref xa) _ b) ?_
  unfold tryMethod
  refine wpAny_bind (PySem.W.special_fn KX I hs (beq_iff_eq.mp hf) (wpAny_mono hq (fun v s' hv => ?_) fun _ _ e => e))
  obtain ⟨hv1, hv2⟩ := hv
  cases v <;> first | exact absurd rfl hv1 | exact wpAny_pure (wpAny_pure (wpAny_pure hv2))
def twoD (c : Nat) (z : Z) (x y : D) : Option (D × D) := (insOf z x).bind fun p => (insOf z y).bind fun q => if p.1 = c ∧ q.1 = c then some (x, y) else none
def mOpO (c : Nat) (F : FM) (ma mb : M D) : M D := mBind (mOp2 (twoD c) ma mb) fun p _ z => F [p.1, p.2] z
theorem d_opO (c : Nat) {op : Operator} (V : Dv Γ X Wx j) (hsf : PySem.W.selfFirst X.K (Γ.cls c) = true) (hs : PySem.W.findIn X.K (.ref (Γ.cls c)) (PySem.dunder op.info.2) = some (some (.ref f))) (hf : PySem.W.isFn X.K (.ref f) = true) (G : FnG X.prog X.w X.K X.mg X.base k f fd ps (spD Γ 2 F)) (hb : Binds X.K fd ps [])
    (ha : PE X a (tD Γ B Wx ma)) (hbb : PE X b (tD Γ B Wx mb)) (hj : k ≤ j := by decide) : PE X (.BinOp a op b pos) (tD Γ B Wx (mOpO c F ma mb)) := by
  refine ⟨fun pins s σ H Q I ⟨w, ρ, z, S, q⟩ => ?_⟩
  refine wpAny_BinOp (binT (R := fun x y H => (∃ xa ya dx dy fx fy, x = .ref xa ∧ y = .ref ya ∧ H xa = some (.ins (Γ.cls c) dx fx) ∧ H ya = some (.ins (Γ.cls c) dy fy)) ∧ spD Γ 2 F [x, y] H Q (fun cls dd H' => Wx cls dd σ H')) ha hbb I ⟨w, ρ, z, S, ?_⟩ fun v u s2 x y H2 I2 rx ry q => ?_)
  · exact q.bind.bind.mono fun d w1 z1 H1 _ _ ⟨S1, s1, q1⟩ x rx => ⟨w1, ρ, z1, S1, q1.bind.mono fun d2 w2 z2 H2 _ _ ⟨S2, s2, q2⟩ y ry => by
      obtain ⟨pr, hp, q3⟩ := q2.opt
      unfold twoD at hp
      obtain ⟨⟨c1, f1⟩, g1, hp⟩ := Option.bind_eq_some_iff.mp hp
      obtain ⟨⟨c2, f2⟩, g2, hp⟩ := Option.bind_eq_some_iff.mp hp
      obtain ⟨hcc, hpe⟩ := ite_some hp
      obtain ⟨rfl, rfl⟩ := hpe
      obtain ⟨rfl, rfl⟩ := hcc
      obtain ⟨xa, dx, fx, rfl, e1, _⟩ := (rx.step s2).insAt S2.wi g1
      obtain ⟨ya, dy, fy, rfl, e2, _⟩ := ry.insAt S2.wi g2
      refine ⟨⟨xa, ya, dx, dy, fx, fy, rfl, rfl, e1, e2⟩, ?_⟩
      have q4 := (q3 w2 H2 S2 (.refl _ _)).2.2
      exact app_to (n := 2) S2 (.cons (rx.step s2) (.cons ry .nil)) q4⟩
  · obtain ⟨⟨xa, ya, dx, dy, fx, fy, rfl, rfl, e1, e2⟩, q⟩ := q
    cases rx
    cases ry
    obtain ⟨ox, od, J1, _⟩ := insC_at (X := X) I2 (.inr ⟨dx, fx, e1⟩)
    obtain ⟨oy, od2, J2, _⟩ := insC_at (X := X) I2 (.inr ⟨dy, fy, e2⟩)
    refine binop_own (h := s2.heap) I2.kIn J1 J2.type hsf hs hf (wpAny_mono (run_fnG (us := [.ref xa, .ref ya]) (vs := [.ref xa, .ref ya]) (dvs := []) G (V.room.mono hj) V.grd hb .nil (passAt V.tk σ) I2 (.cons rfl (.cons rfl .nil)) (by simpa using q)) (fun v s' hv => ⟨fun e => ?_, hv⟩) fun _ _ e => e)
    obtain ⟨v', H', _, rv, _⟩ := hv
    subst e
    cases v' <;> first | (obtain ⟨_, h⟩ := rv; cases h; done) | (cases rv; done)
end
/-- a method with *args, as it stands behind the top -/
structure Dms (K : PySem.W.Frag) (C : Addr) (x qual : Str) (st : Stmt) where
  f : Addr
  fd : FuncData
  F : Fun K x qual st f fd
  at_ : PySem.W.findIn K (.ref C) x = some (some (.ref f))
  fn : PySem.W.isFn K (.ref f) = true
theorem Dms.meth {K : PySem.W.Frag} {C : Addr} {x qual : Str} {st : Stmt} (d : Dms K C x qual st) : Meth K C x d.f := ⟨d.at_, d.fn, d.F.kp⟩
theorem bind_star0 {B : List Value → Sem (List (Str × Value))} {pv : Str} (h0 : B [] = (newTuple [] >>= fun t => pure [(pv, t)])) (h1 : ∀ r rs, B (r :: rs) = (newTuple (r :: rs) >>= fun t => pure [(pv, t)])) :
    ∀ us rest : List Value, us.length = ([] : List Str).length → B (us ++ rest) = (newTuple rest >>= fun t => pure (([] : List Str).zip us ++ [(pv, t)]))
  | [], [], _ => h0
  | [], r :: rs, _ => h1 r rs
@[simp] theorem ap_appV {ρ : En} {z : Z} (n : Nat) (F : FM) (ml : M (List D)) : mAppV n F ml ρ z = (ml ρ z).bind fun ds z1 => starA n F ds z1 := rfl
@[simp] theorem ap_methV {ρ : En} {z : Z} (c : Nat) (m : Str) (n : Nat) (F : FM) (mo : M D) (ml : M (List D)) : mMethV c m n F mo ml ρ z = (mo ρ z).bind fun o0 z0 => (ofO (methD c m z0 o0) z0).bind fun o z1 => (ml ρ z1).bind fun ds z2 => starA n F (o :: ds) z2 := by
  simp [mMethV]
@[simp] theorem ap_opO {ρ : En} {z : Z} (c : Nat) (F : FM) (ma mb : M D) : mOpO c F ma mb ρ z = (ma ρ z).bind fun x z1 => (mb ρ z1).bind fun y z2 => (ofO (twoD c z2 x y) z2).bind fun p z3 => F [p.1, p.2] z3 := by
  simp [mOpO]
end NW
set_option maxHeartbeats 1000000
/-! Plain Lean: data whose repr has a bound; customs that are right. -/
namespace NW
open PySem PySem.Spec PyProof.Rows L2
mutual
/-- data that repr shows: ints of at most twelve digits, depth at most n -/
def rpD : Nat → D → Bool
  | _, .non => true
  | _, .bl _ => true
  | _, .int i => decide (i.natAbs < 10 ^ 12)
  | _, .str x => PyData.strOk x
  | n + 1, .tup ds => rpL n ds
  | n + 1, .lst ds => rpL n ds
  | _, _ => false
def rpL : Nat → List D → Bool
  | _, [] => true
  | n, d :: ds => rpD n d && rpL n ds
end
mutual
def wt : D → Nat
  | .str x => x.cps.size
  | .int _ => 41
  | .tup ds => wtL ds
  | .lst ds => wtL ds
  | _ => 0
def wtL : List D → Nat
  | [] => 0
  | d :: ds => wt d + 1 + wtL ds
end
structure RpOk (n : Nat) (w : Nat) (p : PyData) : Prop where
  lay : p.canLay0 = true
  dep : p.depth ≤ n
  sho : p.showable = true
  ish : p.intsShort 13 = true
  wgt : p.weight ≤ w
structure RpsOk (n : Nat) (w : Nat) (p : List PyData) : Prop where
  lay : PyData.canLayAll0 p = true
  dep : PyData.depthAll p ≤ n
  sho : PyData.showableAll p = true
  ish : PyData.intsShortAll 13 p = true
  wgt : PyData.weightAll p ≤ w
theorem log_small {i : Int} (h : i.natAbs < 10 ^ 12) : i.natAbs.log2 < 40 := by
  by_cases h0 : i.natAbs = 0
  · rw [h0]; decide
  · exact (Nat.log2_lt h0).mpr (Nat.lt_of_lt_of_le h (by decide))
mutual
theorem rpD_py : ∀ (n : Nat) (d : D), rpD n d = true → ∃ p, toPy d = some p ∧ RpOk n (wt d) p
  | _, .non, _ => ⟨_, rfl, by simp only [PyData.canLay0], by simp only [PyData.depth]; omega, by simp only [PyData.showable], by simp only [PyData.intsShort], by simp only [PyData.weight]; omega⟩
  | _, .bl _, _ => ⟨_, rfl, by simp only [PyData.canLay0], by simp only [PyData.depth]; omega, by simp only [PyData.showable], by simp only [PyData.intsShort], by simp only [PyData.weight]; omega⟩
  | _, .int i, h => by
    have h' : i.natAbs < 10 ^ 12 := by unfold rpD at h; simpa using h
    have hl := log_small h'
    refine ⟨_, rfl, by simp only [PyData.canLay0], by simp only [PyData.depth]; omega, by simp only [PyData.showable, decide_eq_true_eq]; omega, ?_, ?_⟩
    · simp only [PyData.intsShort, decide_eq_true_eq]
      exact PyData.shown_int_le h'
    · simp only [PyData.weight]
      unfold wt
      split <;> omega
  | _, .str x, h => ⟨_, rfl, by unfold rpD at h; simpa only [PyData.canLay0] using h, by simp only [PyData.depth]; omega, by simp only [PyData.showable], by simp only [PyData.intsShort], by simp only [PyData.weight]; unfold wt; omega⟩
  | n + 1, .tup ds, h => by
    unfold rpD at h
    obtain ⟨ps, e, r⟩ := rpL_py n ds h
    refine ⟨.tuple ps, by simp only [toPy, e]; rfl, by simpa only [PyData.canLay0] using r.lay, by simp only [PyData.depth]; have := r.dep; omega, by simpa only [PyData.showable] using r.sho, by simpa only [PyData.intsShort] using r.ish, ?_⟩
    simp only [PyData.weight]
    unfold wt
    exact r.wgt
  | n + 1, .lst ds, h => by
    unfold rpD at h
    obtain ⟨ps, e, r⟩ := rpL_py n ds h
    refine ⟨.list ps, by simp only [toPy, e]; rfl, by simpa only [PyData.canLay0] using r.lay, by simp only [PyData.depth]; have := r.dep; omega, by simpa only [PyData.showable] using r.sho, by simpa only [PyData.intsShort] using r.ish, ?_⟩
    simp only [PyData.weight]
    unfold wt
    exact r.wgt
  | 0, .tup ds, h => by simp [rpD] at h
  | 0, .lst ds, h => by simp [rpD] at h
  | n, .obj _ _ _, h => by simp [rpD] at h
  | n, .mob _, h => by simp [rpD] at h
theorem rpL_py : ∀ (n : Nat) (ds : List D), rpL n ds = true → ∃ ps, toPys ds = some ps ∧ RpsOk n (wtL ds) ps
  | _, [], _ => ⟨[], rfl, by simp only [PyData.canLayAll0], by simp only [PyData.depthAll]; omega, by simp only [PyData.showableAll], by simp only [PyData.intsShortAll], by simp only [PyData.weightAll]; omega⟩
  | n, d :: ds, h => by
    unfold rpL at h
    obtain ⟨h1, h2⟩ := Bool.and_eq_true_iff.mp h
    obtain ⟨p, e1, a⟩ := rpD_py n d h1
    obtain ⟨ps, e2, b⟩ := rpL_py n ds h2
    refine ⟨p :: ps, by simp only [toPys, e1, e2]; rfl, by simp only [PyData.canLayAll0, a.lay, b.lay, Bool.and_self], by simp only [PyData.depthAll]; have := a.dep; have := b.dep; omega, by simp only [PyData.showableAll, a.sho, b.sho, Bool.and_self], by simp only [PyData.intsShortAll, a.ish, b.ish, Bool.and_self], ?_⟩
    simp only [PyData.weightAll]
    unfold wtL
    have := a.wgt
    have := b.wgt
    omega
end
theorem repr_ok (z : Z) {n : Nat} {d : D} (h : rpD n d = true) (hn : n ≤ 40) (hw : wt d ≤ 1000000) : ∃ x, reprD z [d] = some (.str x) := by
  obtain ⟨p, e, r⟩ := rpD_py n d h
  refine ⟨p.shown, ?_⟩
  have hl : PyData.layable0 p = true := by
    unfold PyData.layable0
    rw [r.lay]
    have := r.dep
    have := r.wgt
    simp
    omega
  have hs := shown_le13 hl r.ish
  show (toPy d).bind _ = _
  rw [e]
  exact if_pos ⟨r.sho, PyData.hasDict_of_canLay p r.lay, by have := r.dep; omega, by rw [sizeLine_eq]; omega⟩
theorem rpL_all {n : Nat} : ∀ {ds : List D}, rpL n ds = true ↔ ∀ d ∈ ds, rpD n d = true
  | [] => by simp [rpL]
  | d :: ds => by simp only [rpL, Bool.and_eq_true, List.mem_cons, forall_eq_or_imp, rpL_all (ds := ds)]
theorem rpL_map {α : Type} {n : Nat} {f : α → D} {xs : List α} (h : ∀ x ∈ xs, rpD n (f x) = true) : rpL n (xs.map f) = true := rpL_all.mpr fun d hd => by
  obtain ⟨x, hx, rfl⟩ := List.mem_map.mp hd
  exact h x hx
theorem wtL_map {α : Type} {f : α → D} {c : Nat} : ∀ {xs : List α}, (∀ x ∈ xs, wt (f x) ≤ c) → wtL (xs.map f) ≤ xs.length * (c + 1)
  | [], _ => by simp [wtL]
  | x :: xs, h => by
    have h1 := h x List.mem_cons_self
    have h2 := wtL_map (xs := xs) fun y hy => h y (List.mem_cons_of_mem _ hy)
    rw [List.map_cons]
    unfold wtL
    rw [List.length_cons, Nat.add_mul]
    omega
end NW
set_option maxHeartbeats 1000000
/-! isinstance, f-strings, bool of a list. -/
namespace NW
open PySem PySem.Spec PyProof.Rows L2
section
variable {X : Cx} {Γ : Gam} {B : Bs} {Wx : WX} {k : Nat} {a b e : Expr} {es : List Expr} {m ma mb : M D} {ml : M (List D)} {pos : Pos}
/-- the built-in type of data -/
def tyD : D → Option String
  | .non => some "NoneType"
  | .bl _ => some "bool"
  | .int _ => some "int"
  | .str _ => some "str"
  | .tup _ => some "tuple"
  | .lst _ => some "list"
  | _ => none
def anyB (t : String) : List String → Option Bool
  | [] => some false
  | c :: cs => (kitB t c).bind fun b => if b then some true else anyB t cs
theorem kitAny_B {K : PySem.W.Frag} {t : String} : ∀ {cs : List String} {b : Bool}, anyB t cs = some b → PySem.W.kitAny K (.type t) (cs.map Value.type) = some b
  | [], b, h => by cases h; exact kitAny_nil
  | c :: cs, b, h => by
    obtain ⟨b1, h1, h2⟩ := Option.bind_eq_some_iff.mp h
    cases b1 with
    | true =>
      cases h2
      exact kitAny_cons (kit_ty h1) (fun z => nomatch z) fun _ => rfl
    | false => exact kitAny_cons (kit_ty h1) (fun _ => kitAny_B h2) (fun z => nomatch z)
def isiD (cs : List String) (_ : Z) (d : D) : Option D := (tyD d).bind fun t => (anyB t cs).map .bl
theorem tyx_rep {w : W} {ρ : En} {z : Z} {σ : Sl} {H : Hp} {d : D} {v : V} {t : String} (r : RepB Γ w H d v) (S : SI Γ B w ρ z σ H) (h : tyD d = some t) : TyX Γ.K H v (.type t) := by
  cases d with
  | non => cases h; cases r.non; exact .base .non
  | bl y => cases h; cases r.bl; exact .base (.bl y)
  | int y => cases h; cases r.int; exact .base (.int y)
  | str y => cases h; cases r.str; exact .base (.str y)
  | tup ds =>
    cases h
    obtain ⟨a, xs, rfl, h1, _⟩ := r.tuple S
    rcases h1 with (h1 | ⟨ob, h1⟩) | ⟨o, its, n, h1, h2, _⟩
    · exact .base (.tup h1)
    · exact .fTuple h1
    · exact .kTuple h1 h2
  | lst ds =>
    cases h
    obtain ⟨a, xs, rfl, h1, _⟩ := r.list S
    rcases h1 with (h1 | ⟨ob, h1⟩) | ⟨its, n, h1, _⟩
    · exact .base (.lst h1)
    · exact .base (.frz h1)
    · exact .kList h1 rfl
  | obj _ _ _ => cases h
  | mob _ => cases h
theorem d_isi2 {p p1 p2 q pos : Pos} {kk : Nat} {t1 t2 : String} {x1 x2 : Str} (hK : X.K = Γ.K) (hm : X.mg "isinstance" = none) (hm1 : X.mg x1 = none) (hm2 : X.mg x2 = none) (h1 : bootBuiltins x1 = some (.type t1)) (h2 : bootBuiltins x2 = some (.type t2)) (he : PE X e (tD Γ B Wx m))
    (hg : Gl X "isinstance" := by rfl) (hg1 : Gl X x1 := by rfl) (hg2 : Gl X x2 := by rfl) (hn1 : x1 ≠ "__name__" := by decide +kernel) (hn2 : x2 ≠ "__name__" := by decide +kernel) (hd1 : (x1 == ("__debug__" : Str)) = false := by decide +kernel) (hd2 : (x2 == ("__debug__" : Str)) = false := by decide +kernel)
    (hs1 : starEach [e, .Tuple [.Name x1 p1, .Name x2 p2] kk q] X.env = (false, eval e X.env) :: starEach [.Tuple [.Name x1 p1, .Name x2 p2] kk q] X.env := by rfl) (hpl : (backTo pos (starEach [.Tuple [.Name x1 p1, .Name x2 p2] kk q] X.env)).any (·.1) = false := by rfl) :
    PE X (.Call (.Name "isinstance" p) [e, .Tuple [.Name x1 p1, .Name x2 p2] kk q] [] pos) (tD Γ B Wx (mOp1 (isiD [t1, t2]) m)) :=
  pe_weak (pe_callB call_isiT hg hm (by decide +kernel) (pa_cons he (pa_cons (pe_tup (pa_cons (pe_bltn (v := .ty t1) hg1 hm1 h1 rfl hn1 hd1) (pa_cons (pe_bltn (v := .ty t2) hg2 hm2 h2 rfl hn2 hd2) pa_nil))) pa_nil) hs1) (by decide +kernel) (by decide +kernel) hs1 hpl) fun σ H Q ⟨w, ρ, z, S, q⟩ => ⟨w, ρ, z, S, q.bind.mono fun d w1 z1 H1 _ _ ⟨S1, s1, q1⟩ v rv => by
    obtain ⟨d', hd, q2⟩ := q1.opt
    obtain ⟨t, ht, hd⟩ := Option.bind_eq_some_iff.mp hd
    obtain ⟨b, hb, rfl⟩ := Option.map_eq_some_iff.mp hd
    refine ⟨by rw [sizeLine_eq]; simp, fun p hp => ?_⟩
    obtain ⟨wi, st⟩ := S1.wi.newO (o := .tup [.ty t1, .ty t2]) hp
    have S2 := S1.carry wi st
    have ty := tyx_rep (RepB.of rv) S2 ht
    rw [← hK] at ty
    exact ⟨v, p, [.ty t1, .ty t2], .type t, [.type t1, .type t2], b, rfl, upd_same, .cons (.ty t1) (.cons (.ty t2) .nil), ty, kitAny_B hb, q2 _ _ S2 st _ (.bl b)⟩⟩
theorem d_isi1 {p p1 pos : Pos} {t1 : String} {x1 : Str} (hK : X.K = Γ.K) (hm : X.mg "isinstance" = none) (hm1 : X.mg x1 = none) (h1 : bootBuiltins x1 = some (.type t1)) (he : PE X e (tD Γ B Wx m))
    (hg : Gl X "isinstance" := by rfl) (hg1 : Gl X x1 := by rfl) (hn1 : x1 ≠ "__name__" := by decide +kernel) (hd1 : (x1 == ("__debug__" : Str)) = false := by decide +kernel)
    (hs1 : starEach [e, .Name x1 p1] X.env = (false, eval e X.env) :: starEach [.Name x1 p1] X.env := by rfl) (hpl : (backTo pos (starEach [.Name x1 p1] X.env)).any (·.1) = false := by rfl) :
    PE X (.Call (.Name "isinstance" p) [e, .Name x1 p1] [] pos) (tD Γ B Wx (mOp1 (isiD [t1]) m)) :=
  pe_weak (pe_callB call_isi hg hm (by decide +kernel) (pa_cons he (pa_cons (pe_bltn (v := .ty t1) hg1 hm1 h1 rfl hn1 hd1) pa_nil) hs1) (by decide +kernel) (by decide +kernel) hs1 hpl) fun σ H Q ⟨w, ρ, z, S, q⟩ => ⟨w, ρ, z, S, q.bind.mono fun d w1 z1 H1 _ _ ⟨S1, s1, q1⟩ v rv => by
    obtain ⟨d', hd, q2⟩ := q1.opt
    obtain ⟨t, ht, hd⟩ := Option.bind_eq_some_iff.mp hd
    obtain ⟨b, hb, rfl⟩ := Option.map_eq_some_iff.mp hd
    have ty := tyx_rep (RepB.of rv) S1 ht
    rw [← hK] at ty
    have hb1 : kitB t t1 = some b := by
      obtain ⟨b1, g1, g2⟩ := Option.bind_eq_some_iff.mp hb
      cases b1 <;> cases g2 <;> exact g1
    exact ⟨v, .ty t1, .type t, .type t1, b, rfl, .ty t1, ty, kit_ty hb1, q2 _ _ S1 (.refl _ _) _ (.bl b)⟩⟩
/-! ### isinstance of an own class -/
structure IsC (K : PySem.W.Frag) (C : Addr) : Prop where
  cl : Cls K C
  ha : PySem.W.findIn K (.ref C) "__class__" = some (some (.builtin "object.__class__"))
  hn : PySem.W.specialIn K (.builtin "object.__class__") "__get__" = some (some (.builtin "getset_descriptor.__get__"))
  tk : PySem.W.takesIn K (.builtin "object.__class__") = some true
  ob : PySem.W.mroIn K C (.type "object") = some true
  own : PySem.W.kitOne K (.ref C) (.ref C) = some true
  non : PySem.W.kitOne K (.type "NoneType") (.ref C) = some false
  bl : PySem.W.kitOne K (.type "bool") (.ref C) = some false
  int : PySem.W.kitOne K (.type "int") (.ref C) = some false
  str : PySem.W.kitOne K (.type "str") (.ref C) = some false
  tup : PySem.W.kitOne K (.type "tuple") (.ref C) = some false
  lst : PySem.W.kitOne K (.type "list") (.ref C) = some false
def isiC (c : Nat) (_ : Z) (d : D) : Option D := match d with
  | .obj c' _ _ => if c' = c then some (.bl true) else none
  | .mob _ => none
  | _ => some (.bl false)
theorem d_isiC {p p1 pos : Pos} {x1 : Str} (c : Nat) (hK : X.K = Γ.K) (T : IsC X.K (Γ.cls c)) (hm : X.mg "isinstance" = none) (hm1 : X.mg x1 = some (.ref (Γ.cls c))) (he : PE X e (tD Γ B Wx m))
    (hg : Gl X "isinstance" := by rfl) (hg1 : Gl X x1 := by rfl) (hd1 : (x1 == ("__debug__" : Str)) = false := by decide +kernel)
    (hs1 : starEach [e, .Name x1 p1] X.env = (false, eval e X.env) :: starEach [.Name x1 p1] X.env := by rfl) (hpl : (backTo pos (starEach [.Name x1 p1] X.env)).any (·.1) = false := by rfl) :
    PE X (.Call (.Name "isinstance" p) [e, .Name x1 p1] [] pos) (tD Γ B Wx (mOp1 (isiC c) m)) :=
  pe_weak (pe_callB call_isi hg hm (by decide +kernel) (pa_cons he (pa_cons (pe_glob (v := .ref (Γ.cls c)) hg1 hm1 rfl hd1) pa_nil) hs1) (by decide +kernel) (by decide +kernel) hs1 hpl) fun σ H Q ⟨w, ρ, z, S, q⟩ => ⟨w, ρ, z, S, q.bind.mono fun d w1 z1 H1 _ _ ⟨S1, s1, q1⟩ v rv => by
    obtain ⟨d', hd, q2⟩ := q1.opt
    have go : ∀ {t : String} {b : Bool}, tyD d = some t → PySem.W.kitOne X.K (.type t) (.ref (Γ.cls c)) = some b → d' = .bl b → rIsi X.K [v, .ref (Γ.cls c)] H1 Q := fun ht hk hb => by
      subst hb
      have ty := tyx_rep (RepB.of rv) S1 ht
      rw [← hK] at ty
      exact ⟨v, .ref (Γ.cls c), _, _, _, rfl, .own _, ty, hk, q2 _ _ S1 (.refl _ _) _ (.bl _)⟩
    cases d with
    | non => cases hd; exact go rfl T.non rfl
    | bl y => cases hd; exact go rfl T.bl rfl
    | int y => cases hd; exact go rfl T.int rfl
    | str y => cases hd; exact go rfl T.str rfl
    | tup y => cases hd; exact go rfl T.tup rfl
    | lst y => cases hd; exact go rfl T.lst rfl
    | mob y => cases hd
    | obj c' ns ds =>
      obtain ⟨rfl, rfl⟩ : c' = c ∧ d' = .bl true := by
        simp only [isiC] at hd
        split at hd
        · exact ⟨by assumption, (Option.some.inj hd).symm⟩
        · cases hd
      cases rv with
      | obj h1 h2 h3 =>
        have h1' := S1.wi.le _ _ h1
        exact ⟨_, .ref (Γ.cls c'), _, _, true, rfl, .own _, .base (.ins h1' T.cl T.ha T.hn T.tk T.ob), T.own, q2 _ _ S1 (.refl _ _) _ (.bl _)⟩⟩
/-! ### f-strings -/
def fmtD (_ : Z) : D → Option D
  | .str y => if y.length ≤ sizeLine then some (.str y) else none
  | .int i => if i.natAbs.log2 < 1920 then some (.str (toString i)) else none
  | _ => none
theorem d_fmt {pos : Pos} (he : PE X e (tD Γ B Wx m)) : PE X (.FormattedValue e (-1) none pos) (tD Γ B Wx (mOp1 fmtD m)) := pe_weak (pe_fmt he) fun σ H Q ⟨w, ρ, z, S, q⟩ => ⟨w, ρ, z, S, q.bind.mono fun d w1 z1 H1 _ _ ⟨S1, s1, q1⟩ v rv => by
  obtain ⟨d', hd, q2⟩ := q1.opt
  unfold fmtD at hd
  split at hd
  · split at hd
    · cases hd
      cases rv
      exact .inl ⟨_, rfl, by assumption, q2 _ _ S1 (.refl _ _) _ (.str _)⟩
    · cases hd
  · split at hd
    · cases hd
      cases rv
      exact .inr ⟨_, rfl, by assumption, q2 _ _ S1 (.refl _ _) _ (.str _)⟩
    · cases hd
  · cases hd⟩
def mJs : Str → List (M D) → M D
  | acc, [] => mRet (.str acc)
  | acc, m :: ms => mBind m fun d => match d with
    | .str y => if (acc ++ y).length ≤ sizeLine then mJs (acc ++ y) ms else fun _ _ => .bad
    | _ => fun _ _ => .bad
theorem js_to : ∀ (ms : List (M D)) (acc : Str) (σ : Sl) (H : Hp) (Q : VK), tD Γ B Wx (mJs acc ms) σ H Q → tJs (ms.map fun m => tD Γ B Wx m) acc σ H fun out H1 => Q (.str out) H1
  | [], acc, σ, H, Q, ⟨w, ρ, z, S, q⟩ => q w H S (.refl _ _) _ (.str acc)
  | m :: ms, acc, σ, H, Q, ⟨w, ρ, z, S, q⟩ => ⟨w, ρ, z, S, q.bind.mono fun d w1 z1 H1 _ _ ⟨S1, s1, q1⟩ v rv => by
    cases d with
    | str y =>
      dsimp only at q1
      cases rv
      by_cases c : (acc ++ y).length ≤ sizeLine
      · rw [if_pos c] at q1
        exact ⟨y, rfl, c, js_to ms (acc ++ y) σ H1 Q ⟨w1, ρ, z1, S1, q1⟩⟩
      · rw [if_neg c] at q1
        exact q1.elim
    | _ => exact q1.elim⟩
inductive PDs (X : Cx) (Γ : Gam) (B : Bs) (Wx : WX) : List Expr → List (M D) → Prop where
  | nil : PDs X Γ B Wx [] []
  | cons {e : Expr} {m : M D} {es : List Expr} {ms : List (M D)} (h : PE X e (tD Γ B Wx m)) (r : PDs X Γ B Wx es ms) : PDs X Γ B Wx (e :: es) (m :: ms)
theorem PDs.pj : ∀ {es : List Expr} {ms : List (M D)}, PDs X Γ B Wx es ms → PJ X es (ms.map fun m => tD Γ B Wx m)
  | _, _, .nil => .nil
  | _, _, .cons h r => .cons h r.pj
theorem d_fstr {v1 v2 : Expr} {rest : List Expr} {ms : List (M D)} {pos : Pos} (h : PDs X Γ B Wx (v1 :: v2 :: rest) ms) : PE X (.JoinedStr (v1 :: v2 :: rest) pos) (tD Γ B Wx (mJs Str.empty ms)) :=
  pe_weak (pe_joined h.pj) fun σ H Q q => js_to ms Str.empty σ H Q q
/-! ### bool(a list) -/
def boolD (_ : Z) : List D → Option D
  | [.lst ds] => some (.bl (!ds.isEmpty))
  | _ => none
theorem oc_boolL : OpC Γ B (fun xs H Q => ∃ (a : Addr) (zs : List V), xs = [.ref a] ∧ SqL Γ.K H a zs ∧ Q (.bl (!zs.isEmpty)) H) boolD := by
  intro Wx w ρ z σ H ds d' vs Q S rvs h q
  unfold boolD at h
  split at h
  · cases h
    obtain ⟨v, rfl, r⟩ := pr1 rvs
    obtain ⟨a, xs, rfl, h1, h2⟩ := r.list S
    refine ⟨a, xs, rfl, h1.sq, ?_⟩
    cases h2 with
    | nil => exact q.ok S _ (.bl _)
    | cons _ _ => exact q.ok S _ (.bl _)
  · cases h
theorem cr_boolL (hK : X.K = Γ.K) : CallR X (.type "bool") (fun xs H Q => ∃ (a : Addr) (zs : List V), xs = [.ref a] ∧ SqL Γ.K H a zs ∧ Q (.bl (!zs.isEmpty)) H) := by rw [← hK]; exact call_boolL
end
@[simp] theorem isi_tl_tup (z : Z) (ds : List D) : isiD ["tuple", "list"] z (.tup ds) = some (.bl true) := by kernel_rfl
@[simp] theorem isi_tl_lst (z : Z) (ds : List D) : isiD ["tuple", "list"] z (.lst ds) = some (.bl true) := by kernel_rfl
@[simp] theorem isi_tl_str (z : Z) (x : Str) : isiD ["tuple", "list"] z (.str x) = some (.bl false) := by kernel_rfl
@[simp] theorem isi_tl_int (z : Z) (x : Int) : isiD ["tuple", "list"] z (.int x) = some (.bl false) := by kernel_rfl
@[simp] theorem isi_str_str (z : Z) (x : Str) : isiD ["str"] z (.str x) = some (.bl true) := by kernel_rfl
end NW
set_option maxHeartbeats 1000000
/-! Texts: split, int of a text. -/
namespace NW
open PySem PySem.Spec PyProof.Rows L2
section
variable {X : Cx} {Γ : Gam} {B : Bs} {Wx : WX} {k : Nat} {a b e o : Expr} {es : List Expr} {m ma mb mo : M D} {ml : M (List D)} {pos : Pos}
def splitD (_ : Z) (d e : D) : Option (List D) := match d, e with
  | .str x, .str y => if (y.length == 0) = false ∧ x.length + 2 ≤ sizeLine then some ((Txt.split x y).map .str) else none
  | _, _ => none
theorem rep_strs {w : W} : ∀ ys : List Str, RepL Γ w (ys.map D.str) (ys.map V.str)
  | [] => .nil
  | y :: ys => .cons (.str y) (rep_strs ys)
def mSplit (ma m : M D) : M (List D) := mBind (mOp1 isS ma) fun d => mBind m fun d' => mOpt fun z => splitD z d d'
theorem f_split {apos cpos : Pos} (ho : PE X o (tD Γ B Wx mo)) (he : PE X e (tD Γ B Wx m))
    (hbase : attributeBase o "split" X.env (eval o X.env) = eval o X.env := by rfl)
    (hfew : ((backTo cpos (starEach (e :: []) X.env)).all (fun x => !x.1) && (backToKw cpos (keywordEach [] X.env)).all (fun x => x.1.isSome)
      && decide ((e :: ([] : List Expr)).length + ([] : List Keyword).length + (if ([] : List Keyword).isEmpty then 0 else 1) < 30)) = true := by rfl)
    (hline : (apos.endLine == cpos.line) = true := by rfl) (hs : starEach (e :: []) X.env = (false, eval e X.env) :: starEach [] X.env := by rfl) (hplain : (backTo cpos (starEach [] X.env)).any (·.1) = false := by rfl) :
    PE X (.Call (.Attribute o "split" apos) [e] [] cpos) (tF Γ B Wx (mSplit mo m)) :=
  pe_weak (pe_bm PySem.F.plainAttrs_str PySem.F.slot_str_split PySem.F.type_str_split mt_split ho (pa_cons he pa_nil hs) hbase hfew hline hs hplain) fun σ H Q ⟨w, ρ, z, S, q⟩ => by
  refine ⟨w, ρ, z, S, q.bind.bind.mono fun d w1 z1 H1 _ t1 ⟨S1, s1, q1⟩ v rv => ?_⟩
  obtain ⟨d0, hd0, q1⟩ := q1.opt
  unfold isS at hd0
  split at hd0
  · cases hd0
    cases rv
    obtain ⟨_, _, q1⟩ := q1.ok S1
    refine ⟨rfl, w1, ρ, z1, S1, q1.bind.mono fun d2 w2 z2 H2 _ t2 ⟨S2, s2, q2⟩ u ru => ?_⟩
    obtain ⟨ds, hd, q3⟩ := q2.opt
    unfold splitD at hd
    split at hd
    · rename_i e1 e2
      cases e1
      obtain ⟨rfl, h1, h2⟩ := ite_some hd
      cases ru
      refine ⟨_, _, rfl, rfl, h1, h2, fun p hp => ?_⟩
      obtain ⟨S3, s3, r2, r3, r4⟩ := S2.lstO (rep_strs _) hp
      exact q3 _ _ S3 s3 p r2 r3 r4 (none_back t1 (none_back t2 hp))
    · cases hd
  · cases hd0
def intSD (_ : Z) : List D → Option D
  | [.str x] => (PySem.intText? x).bind fun n => if x.length ≤ 640 then some (.int n) else none
  | _ => none
theorem oc_intS : OpC Γ B (fun xs H Q => ∃ a n, xs = [.str a] ∧ PySem.intText? a = some n ∧ a.length ≤ 640 ∧ Q (.int n) H) intSD := by
  intro Wx w ρ z σ H ds d' vs Q S rvs h q
  unfold intSD at h
  split at h
  · obtain ⟨n, h1, h2⟩ := Option.bind_eq_some_iff.mp h
    obtain ⟨rfl, h3⟩ := ite_some h2
    obtain ⟨v, rfl, r⟩ := pr1 rvs
    cases r.str
    exact ⟨_, n, rfl, h1, h3, q.ok S _ (.int _)⟩
  · cases h
end
end NW
namespace NW
open PySem PySem.Spec PyProof.Rows L2
@[simp] theorem ap_split {ρ : En} {z : Z} (ma m : M D) : mSplit ma m ρ z = (ma ρ z).bind fun d z1 => (ofO (isS z1 d) z1).bind fun d0 z2 => (m ρ z2).bind fun d' z3 => ofO (splitD z3 d0 d') z3 := by
  simp only [mSplit, ap_bind, ap_op1, ap_opt]
  cases ma ρ z <;> rfl
theorem split_str (z : Z) (x y : Str) (h : (y.length == 0) = false) (hl : x.length ≤ 2000) : splitD z (.str x) (.str y) = some ((Txt.split x y).map .str) := if_pos ⟨h, by rw [sizeLine_eq]; omega⟩
@[simp] theorem ap_intS (z : Z) (x : Str) : intSD z [.str x] = (PySem.intText? x).bind fun n => if x.length ≤ 640 then some (.int n) else none := rfl
end NW
set_option maxHeartbeats 1000000
/-! enumerate(tuple). -/
namespace NW
open PySem PySem.Spec PyProof.Rows L2
/-- enumerate(v), by how v begins -/
theorem meets_enum1 {v : Value} {o : Obj} {J : Heap → Prop} (B : Begins v o J) :
    Meets (Builtin.«enumerate.__new__» ⟨[.type "enumerate", v], []⟩) (fun _ R s => J s.heap ∧
      R (.ok (.ret (.ref (s.heap.push o).objs.size))) { s with heap := (s.heap.push o).push { cls := .type "enumerate", data := .fields #[.none, .bool false, .ref s.heap.objs.size, rawInt 0, .none, .none] } }) :=
  .of_wp fun prog w A R s hs => by
    obtain ⟨hp, g, dr, tk, os⟩ := s
    obtain ⟨hj, hr⟩ := hs
    have sub := sub_enumerate
    have go : ∀ {A' : Around} {E : Value → Shared → Prop} {Q : Value → Shared → Prop}, Q (.ref hp.objs.size) ⟨hp.push o, g, dr, tk, os⟩ → wpAny (model prog w) A' (pyIter v) Q E ⟨hp, g, dr, tk, os⟩ :=
      fun q => B.iter prog w _ _ ⟨hp, g, dr, tk, os⟩ _ hj q
    wp_walk using go
    refine wpAny_stack_any fun st => wpAny_pure ?_
    split
    · rename_i c _ _ _ _ _
      cases (c == Value.type "enumerate") <;>
      · wp_walk using go
        exact ⟨_, rfl, hr⟩
    · wp_walk using go
      exact ⟨_, rfl, hr⟩
theorem call_enum1 {prog : Program} {w : World} {A : Around} {E : Value → Shared → Prop} {s : Shared} {v : Value} {o : Obj} {J : Heap → Prop} {Q : Value → Shared → Prop} (B : Begins v o J) (hj : J s.heap)
    (h : ∀ h', IsEnum h' (s.heap.objs.size + 1) s.heap.objs.size 0 .none → h'.get? s.heap.objs.size = some o → h'.objs.size = s.heap.objs.size + 2 →
      (∀ b u, s.heap.get? b = some u → h'.get? b = some u) → Q (.ref (s.heap.objs.size + 1)) { s with heap := h' }) :
    wpAny (model prog w) A (call (.type "enumerate") [v]) Q E s := by
  refine callType_new F.called_enumerate (by decide) (F.typeCall_enumerate_1 _) (F.newCall_enumerate_1 _) (fun obj => F.args_object_init_2 obj _) F.entry_enumerate_new (meets_enum1 B) ⟨hj, ?_⟩
  have hz : (s.heap.push o).objs.size = s.heap.objs.size + 1 := Heap.size_push ..
  show _ ∧ _
  rw [hz]
  have he : IsEnum ((s.heap.push o).push { cls := .type "enumerate", data := .fields #[.none, .bool false, .ref s.heap.objs.size, rawInt 0, .none, .none] }) (s.heap.objs.size + 1) s.heap.objs.size 0 .none := by
    have := Heap.get?_push_size (s.heap.push o) (o := { cls := .type "enumerate", data := .fields #[.none, .bool false, .ref s.heap.objs.size, rawInt 0, .none, .none] }) rfl
    rw [hz] at this
    exact this
  exact ⟨⟨_, he, rfl⟩, h _ he (Heap.get?_push_of_some _ (Heap.get?_push_size _ B.free)) (by rw [Heap.size_push, hz]) fun b u x => Heap.get?_push_of_some _ (Heap.get?_push_of_some _ x)⟩
/-- the tuple at a, each item in a new pair -/
def IteT (K : PySem.W.Frag) (a : Addr) : It :=
  ⟨fun i H => ∃ (xs : List V) (x : V), SqT K H a xs ∧ xs[i]? = some x, fun i H v H' => ∃ T x, v = .ref T ∧ H T = none ∧ H' = upd H T (.tup [.int (i : Nat), x]) ∧ ∀ xs, SqT K H a xs → xs[i]? = some x, fun i H => ∃ xs : List V, SqT K H a xs ∧ xs.length = i⟩
theorem turn_enumT {P : Program} {w : World} {K : PySem.W.Frag} {elts : List Expr} {kk : Nat} {tpos : Pos} (a e it : Addr) (hae : a ≠ e) (hai : a ≠ it) :
    Turn P w K (.Tuple elts kk tpos) (IteT K a) [e, it] e (fun i h => (∃ old, IsEnum h e it ((i : Nat) : Int) old) ∧ h.IsTupleIter it a i ∧ e ≠ it) where
  mem := by simp
  obj := fun i h st b hb => by
    obtain ⟨⟨old, he⟩, ⟨o, ho, hc, hd⟩, _⟩ := st
    have e' : b = e ∨ b = it := by simpa using hb
    rcases e' with z | z
    · rw [z]; exact ⟨_, he, fun v q => nomatch q⟩
    · rw [z]; exact ⟨o, ho, fun v q => by rw [hd] at q; cases q⟩
  keep := fun i h h' st k => let ⟨⟨old, he⟩, hi, hne⟩ := st; ⟨⟨old, k e (by simp) _ he⟩, hi.at fun o q => k it (by simp) o q, hne⟩
  item := by
    intro X hP hw hK hc i pins s σ H E I hf st hg
    subst hP hw hK
    obtain ⟨⟨old, he⟩, hit, hne⟩ := st
    obtain ⟨xs, x, hq, hx⟩ := hg
    obtain ⟨its, rv, p, hz⟩ := I.tuple hq
    obtain ⟨u, hu, ru⟩ := rv.get hx
    have pT : s.heap.IsTuple a its.toArray := p
    have hel : e < s.heap.objs.size := Heap.lt_size he
    have hil : it < s.heap.objs.size := by obtain ⟨_, q, _⟩ := hit; exact Heap.lt_size q
    have hlt : i < its.toArray.size := by
      have := (List.getElem?_eq_some_iff.mp hu).1
      simpa using this
    refine wpAny_pyNext_enum_itemD (Draws.tuple (A := X.A.in1) (I.ok.hd hc) it a hai its.toArray) he ⟨hit, pT⟩ hlt hne (by simp [hne, Ne.symm hae]) fun x' h' tk hx' ho st' hT hsz hk => ?_
    obtain ⟨hit', _⟩ := st'
    have exu : x' = u := by
      have h2 : its[i]? = some x' := by simpa using hx'
      rw [hu] at h2
      exact (Option.some.inj h2).symm
    subst exu
    refine ⟨_, rfl, wpAny_letOwnedTupleGo_enum (s := { s with heap := h', toks := tk + 1 }) ho fun h'' he' sb => ?_⟩
    have hT2 : h''.get? s.heap.objs.size = some { cls := .type "tuple", data := .seq #[.int i tk, x'] } := (sb.2 _ (Nat.ne_of_gt hel)).trans hT
    have new : ObjOk X.prog X.w (upd H s.heap.objs.size (.tup [.int (i : Nat), x])) h'' s.heap.objs.size (.tup [.int (i : Nat), x]) :=
      ⟨by show 2 ≤ sizeLine; decide, [.int i tk, x'], .cons ⟨_, rfl⟩ (.cons ru .nil), ⟨_, hT2, rfl, _, rfl⟩⟩
    have I1 : Inv X pins σ (upd H s.heap.objs.size (.tup [.int (i : Nat), x])) { s with heap := h'', toks := tk + 1 } :=
      I.turnedNew (ch := [e, it]) (fun b ob hb q => (sb.2 b (fun z => hb (by simp [z]))).trans (hk b ob (fun z => hb (by simp [z])) (fun z => hb (by simp [z])) q)) hf (Nat.le_refl _) new
    refine ⟨.ref s.heap.objs.size, _, I1, rfl, ⟨_, x, rfl, I.hok.fresh (Nat.le_refl _), rfl, fun ys hy => by rw [I.tuple_inj hy hq]; exact hx⟩, ⟨⟨x', ?_⟩, hit'.at fun o q => (sb.2 it (Ne.symm hne)).trans q, hne⟩, fun b hb => ?_⟩
    · have e1 : ((i + 1 : Nat) : Int) = (i : Int) + 1 := by omega
      rw [e1]; exact he'
    · have hb' : b < s.heap.objs.size := by
        have e' : b = e ∨ b = it := by simpa using hb
        rcases e' with z | z
        · rw [z]; exact hel
        · rw [z]; exact hil
      rw [upd_ne (Nat.ne_of_lt hb')]
      exact (hf b hb).1
  done := by
    intro X hP hw hK hc i pins s σ H E I hf st hg
    subst hP hw hK
    obtain ⟨⟨old, he⟩, hit, hne⟩ := st
    obtain ⟨xs, hq, hx⟩ := hg
    obtain ⟨its, rv, p, hz⟩ := I.tuple hq
    have pT : s.heap.IsTuple a its.toArray := p
    obtain ⟨f0, f1, f2, f3, f4, f5⟩ := hf it (by simp)
    have hl := rv.length
    have hi : i = its.toArray.size := by simp; omega
    exact wpAny_pyNext_enum_endD (Draws.tuple (A := X.A.in1) (I.ok.hd hc) it a hai its.toArray) he ⟨hi ▸ hit, pT⟩ fun h' eb => ⟨rfl, I.turned (t' := s.toks) (fun b o hb q => eb b o hb q) f0 f1 f3 f4 f5⟩
  self := fun A i s Q E st h => let ⟨⟨_, he⟩, _⟩ := st; wpAny_pyIter_enum he h
def iEnumT (K : PySem.W.Frag) (ta : TA) : TI := fun σ H R => ta σ H fun vs H1 => ∃ a xs, vs = [.ref a] ∧ ((SqL K H1 a xs ∧ R (Ite K a) H1) ∨ (SqT K H1 a xs ∧ R (IteT K a) H1))
theorem pi_enumT {X : Cx} {e : Expr} {ta : TA} {p pos tpos : Pos} {elts : List Expr} {kk : Nat} (hg : Gl X "enumerate") (hm : X.mg "enumerate" = none) (ha : PA X [e] ta) (hs : starEach [e] X.env = [(false, eval e X.env)] := by rfl) :
    PI X (.Tuple elts kk tpos) (.Call (.Name "enumerate" p) [e] [] pos) (iEnumT X.K ta) := by
  refine ⟨fun pins s σ H R I h => ?_⟩
  refine Call_ (ld_blt I hg hm boot_enumerate (PyProof.Rows.callWith_type1 (thn (ha.run pos pins s σ H _ I h) fun us s1 ⟨vs, H1, I1, r1, q1⟩ => ?_) hs rfl))
  obtain ⟨a, xs, ex, q1⟩ := q1
  subst ex
  cases r1 with
  | cons r rr =>
    cases rr
    cases r
    have fre : ∀ b, b ∈ [s1.heap.objs.size + 1, s1.heap.objs.size] → FpOk X pins H1 b := fun b hb => by
      have e' : b = s1.heap.objs.size + 1 ∨ b = s1.heap.objs.size := by simpa using hb
      have hle : s1.heap.objs.size ≤ b := by
        rcases e' with z | z
        · rw [z]; exact Nat.le_add_right _ _
        · rw [z]; exact Nat.le_refl _
      exact I1.fpOk hle (I1.hok.fresh hle)
    rcases q1 with ⟨hq, q⟩ | ⟨hq, q⟩
    · obtain ⟨its, rv, p', hz⟩ := I1.list hq
      refine call_enumerate_list p'.isList fun h' he hit hsz hk => wpAny_pyIter_enum he ?_
      have I2 : Inv X pins σ H1 { s1 with heap := h' } := I1.kept (t' := s1.toks) hk
      exact ⟨s1.heap.objs.size + 1, [s1.heap.objs.size + 1, s1.heap.objs.size], _, _, H1, rfl, I2, turn_enum a (s1.heap.objs.size + 1) s1.heap.objs.size, ⟨⟨.none, he⟩, hit, Nat.succ_ne_self _⟩, fre, q⟩
    · obtain ⟨its, rv, p', hz⟩ := I1.tuple hq
      have pT : s1.heap.IsTuple a its.toArray := p'
      obtain ⟨o1, ho1, _⟩ := id pT
      have hal : a < s1.heap.objs.size := Heap.lt_size ho1
      refine call_enum1 (begins_tuple a its.toArray) pT fun h' he hit hsz hk => wpAny_pyIter_enum he ?_
      have I2 : Inv X pins σ H1 { s1 with heap := h' } := I1.kept (t' := s1.toks) hk
      exact ⟨s1.heap.objs.size + 1, [s1.heap.objs.size + 1, s1.heap.objs.size], _, _, H1, rfl, I2, turn_enumT a (s1.heap.objs.size + 1) s1.heap.objs.size (Nat.ne_of_lt (Nat.lt_succ_of_lt hal)) (Nat.ne_of_lt hal), ⟨⟨.none, he⟩, ⟨_, hit, rfl, rfl⟩, Nat.succ_ne_self _⟩, fre, q⟩
section
variable {X : Cx} {Γ : Gam} {B : Bs} {Wx : WX} {k : Nat} {a b e tg : Expr} {es : List Expr} {m ma mb : M D} {ml : M (List D)} {pos tpos : Pos} {elts : List Expr} {kk : Nat}
theorem it_enumT {Fut : W → Hp → Prop} {ds : List D} {a : Addr} (r : ∀ w H z, Fut w H → WI Γ w z H → ∃ xs, SqT Γ.K H a xs ∧ RepL Γ w ds xs) : ItD Γ Fut (IteT Γ.K a) (enumD ds) where
  go := fun i w z H f I hi => by
    obtain ⟨xs, h1, h2⟩ := r w H z f I
    have hx : i < xs.length := by rw [h2.length]; simpa [enumD] using hi
    exact ⟨xs, xs[i], h1, List.getElem?_eq_getElem hx⟩
  yld := fun i w z H x H' d f I hd y => by
    obtain ⟨T, x0, rfl, hT, rfl, h⟩ := y
    obtain ⟨xs, h1, h2⟩ := r w H z f I
    unfold enumD at hd
    rw [List.getElem?_mapIdx] at hd
    obtain ⟨d0, hd0, rfl⟩ := Option.map_eq_some_iff.mp hd
    obtain ⟨v, h3, h4⟩ := h2.get hd0
    rw [h xs h1] at h3
    cases h3
    exact I.pair hT (.int _) h4
  stop := fun w z H f I => by
    obtain ⟨xs, h1, h2⟩ := r w H z f I
    exact ⟨xs, h1, by rw [h2.length]; simp [enumD]⟩
def sqD (_ : Z) : D → Option (List D)
  | .lst ds => some ds
  | .tup ds => some ds
  | _ => none
theorem i_enumS {p : Pos} (hK : X.K = Γ.K) (hm : X.mg "enumerate" = none) (he : PE X e (tD Γ B Wx m)) (hg : Gl X "enumerate" := by rfl) (hs : starEach [e] X.env = [(false, eval e X.env)] := by rfl) (hs2 : starEach [e] X.env = (false, eval e X.env) :: starEach [] X.env := by rfl) :
    PI X (.Tuple elts kk tpos) (.Call (.Name "enumerate" p) [e] [] pos) (tDI Γ B Wx (mMap enumD (mOp1 sqD m))) := pi_weak (pi_enumT hg hm (pa_cons he pa_nil hs2) hs) fun σ H R ⟨w, ρ, z, S, q⟩ => by
  rw [hK]
  refine ⟨w, ρ, z, S, (resTo.map q).bind.mono fun d w1 z1 H1 _ _ ⟨S1, s1, q1⟩ v rv => ?_⟩
  obtain ⟨ds, hd, q2⟩ := q1.opt
  have q3 := q2.ok S1
  cases d with
  | lst es =>
    cases hd
    cases rv with
    | lst h1 h2 => exact ⟨_, _, rfl, .inl ⟨(SqS.le S1.wi.le h1).sq, q3 _ (fun w2 H2 => Ext w1 w2) (fun _ _ h => h) (it_enum fun w2 H2 z2 f I2 => ⟨_, (SqS.le I2.le (SqS.le f.r h1)).sq, h2.ext f⟩)⟩⟩
  | tup es =>
    cases hd
    cases rv with
    | tup h1 h2 => exact ⟨_, _, rfl, .inr ⟨S1.KT h1, q3 _ (fun w2 H2 => Ext w1 w2) (fun _ _ h => h) (it_enumT fun w2 H2 z2 f I2 => ⟨_, SqT.le I2.le (SqT.le f.r h1), h2.ext f⟩)⟩⟩
  | _ => cases hd
end
@[simp] theorem sq_tup (z : Z) (ds : List D) : sqD z (.tup ds) = some ds := rfl
@[simp] theorem sq_lst (z : Z) (ds : List D) : sqD z (.lst ds) = some ds := rfl
end NW
set_option maxHeartbeats 1000000
/-! C(e, ..) where __init__ has *args. -/
namespace NW
open PySem PySem.Spec PyProof.Rows L2
def mNewFV (c n : Nat) (F : FM) (ml : M (List D)) : M D := mBind ml fun ds _ z => if n ≤ ds.length + 1 ∧ ds.length + 1 ≤ n + sizeLine then newTo c z.length (F ((.mob z.length :: ds).take n ++ [.tup ((.mob z.length :: ds).drop n)]) (z ++ [.ins c []])) else .bad
def mNewMV (c n : Nat) (F : FM) (ml : M (List D)) : M D := mBind ml fun ds _ z => if n ≤ ds.length + 1 ∧ ds.length + 1 ≤ n + sizeLine then newMTo z.length (F ((.mob z.length :: ds).take n ++ [.tup ((.mob z.length :: ds).drop n)]) (z ++ [.ins c []])) else .bad
section
variable {X : Cx} {Γ : Gam} {B : Bs} {Wx : WX} {k j : Nat} {e : Expr} {es : List Expr} {ml : M (List D)} {pos p : Pos} {fa C : Addr} {fd : FuncData} {ps : List Str} {F : FM} {x : Str}
theorem run_makeV {sp : Sp} {pins : List (Addr × Obj)} {σ : Sl} {H : Hp} {s : Shared} {Q : VK} {us : List Value} {vs : List V} (V : Dv Γ X Wx j) (M : Mk X.K C fa) (G : FnV X.prog X.w X.K X.mg X.base k fa sp) (hj : k + 1 ≤ j) (I : Inv X pins σ H s) (r : Vals vs us)
    (h : ∀ x dx, H x = none → H dx = none → dx ≠ x → sp (.ref x :: vs) (upd (upd H dx (.own x)) x (.ins C dx [])) (fun v H2 => v = .non ∧ Q (.ref x) H2) (fun cls dd H' => Wx cls dd σ H')) :
    wpAny (model X.prog X.w) X.A (call (.ref C) us) (EP X pins σ Q) X.xe s := by
  have hq := h (s.heap.objs.size + 1) s.heap.objs.size (I.hok.fresh (Nat.le_succ _)) (I.hok.fresh (Nat.le_refl _)) (Nat.ne_of_lt (Nat.lt_succ_self _))
  have I2 := Inv.made (C := C) I
  have r2 : Vals (L2.V.ref (s.heap.objs.size + 1) :: vs) (Value.ref (s.heap.objs.size + 1) :: us) := .cons rfl r
  have hr := V.room.mono hj
  refine wpAny_call (make_map (f := fa) I.kIn M.makes M.init (beq_iff_eq.mp M.fn) (codeAny_mono (G.run _ X.stack _ _ (Value.ref (s.heap.objs.size + 1) :: us) _ _ _ (hr.make C us []) (make_guards.trans V.grd)
    (I2.env0.make C us []) r2 hq) fun r s' hq' => ?_))
  cases r with
  | error e => exact passAt V.tk σ pins _ _ e s' I2 hq'
  | ok fl =>
    cases fl with
    | ret u =>
      obtain ⟨v, H', I3, rv, ev, q3⟩ := I2.after hq'
      subst ev
      exact ⟨rv, ⟨L2.V.ref (s.heap.objs.size + 1), H', I3, rfl, q3⟩⟩
    | next => exact False.elim hq'
    | brk => exact False.elim hq'
    | cont => exact False.elim hq'
theorem pe_makeV {sp : Sp} {t : TA} (V : Dv Γ X Wx j) (M : Mk X.K C fa) (G : FnV X.prog X.w X.K X.mg X.base k fa sp) (hj : k + 1 ≤ j) (hg : Gl X x) (hm : X.mg x = some (.ref C)) (ha : PA X (e :: es) t) (hdb : (x == ("__debug__" : Str)) = false)
    (he : starEach (e :: es) X.env = (false, eval e X.env) :: starEach es X.env) (hpl : (backTo pos (starEach es X.env)).any (·.1) = false) : PE X (.Call (.Name x p) (e :: es) [] pos) (tMakeS Wx C sp t) := by
  refine ⟨fun pins s σ H Q I h => ?_⟩
  refine wpAny_Call_Name_kw (ld_glob I hg hm ?_ hdb)
  refine PySem.W.callWith_K (h₀ := X.base) I.ok.mod.kin M.kp (thn (ha.run pos pins s σ H _ I h) fun us s1 ⟨vs, H1, I1, r, q⟩ => ⟨I1.kIn, ?_⟩) he hpl
  exact run_makeV V M G hj I1 r q
theorem pe_makeV0 {sp : Sp} (V : Dv Γ X Wx j) (M : Mk X.K C fa) (G : FnV X.prog X.w X.K X.mg X.base k fa sp) (hj : k + 1 ≤ j) (hg : Gl X x) (hm : X.mg x = some (.ref C)) (hdb : (x == ("__debug__" : Str)) = false) : PE X (.Call (.Name x p) [] [] pos) (tMakeS Wx C sp tNil) := by
  refine ⟨fun pins s σ H Q I h => ?_⟩
  refine wpAny_Call_Name_kw (ld_glob I hg hm ?_ hdb)
  exact PySem.W.callWith_K0 I.kIn M.kp (run_makeV (us := []) V M G hj I .nil h)
theorem newFV_to {c n : Nat} {t : TA} (ht : ∀ σ H Q, tDA Γ B Wx ml σ H Q → t σ H Q) : ∀ σ H Q, tD Γ B Wx (mNewFV c n F ml) σ H Q → tMakeS Wx (Γ.cls c) (spV Γ n F) t σ H Q := fun σ H Q ⟨w, ρ, z, S, q⟩ =>
  ht _ _ _ ⟨w, ρ, z, S, q.bind.mono fun ds w1 z1 H1 _ _ ⟨S1, s1, q1⟩ vs rvs x dx hx hd ne => by
    dsimp only at q1
    split at q1
    · rename_i hn
      obtain ⟨I2, s2⟩ := S1.wi.made c hx hd ne
      refine ⟨by rw [List.length_cons, rvs.length]; exact hn.1, by rw [List.length_cons, rvs.length]; exact hn.2, _, _, .mob z1.length :: ds, I2, .cons (rep_at S1.wi x) (rvs.step s2), ?_⟩
      cases e : F ((.mob z1.length :: ds).take n ++ [.tup ((.mob z1.length :: ds).drop n)]) (z1 ++ [.ins c []]) with
      | ok d z2 =>
        rw [e] at q1
        unfold newTo at q1
        cases d with
        | non =>
          dsimp only at q1
          cases ep : popIns c z1.length z2 with
          | none => rw [ep] at q1; exact q1.elim
          | some pr =>
            obtain ⟨fs, z3⟩ := pr
            rw [ep] at q1
            intro v w' H' I' s' rv
            cases rv
            refine ⟨rfl, ?_⟩
            obtain ⟨x', dx', fvs, g1, g2, g3, g4, g5⟩ := I'.popIns ep
            have hx' : x' = x := by
              have := s'.t z1.length x (by
                show (w1.pl ++ [x])[z1.length]? = some x
                rw [← S1.wi.len, List.getElem?_append_right (Nat.le_refl _)]; simp)
              rw [g1] at this
              cases this; rfl
            subst hx'
            have st := s2.trans s'
            have s3 : Step w1 H1 ⟨upd w'.R x' (.ins (Γ.cls c) dx' fvs), w'.pl.take z1.length⟩ H' := by
              refine ⟨fun a o h => ?_, fun l a h => ?_, st.k, fun a o h hn => ?_, fun a h => st.n a (List.mem_of_mem_take h), st.y⟩
              · show upd w'.R x' _ a = some o
                rw [upd_ne (ne_of_none (st.r a o h) g2)]
                exact st.r a o h
              · have hl : l < z1.length := by rw [← S1.wi.len]; exact (List.getElem?_eq_some_iff.mp h).1
                show (w'.pl.take z1.length)[l]? = some a
                rw [List.getElem?_take_of_lt hl]
                exact st.t l a h
              · show upd w'.R x' _ a = none
                rw [upd_ne (ne_of_none h hx)]
                exact st.f a o h hn
            exact q1 _ H' (S1.carry g4 s3) s3 _ g5
        | _ => exact q1.elim
      | exc y z2 =>
        rw [e] at q1
        exact fun cls dd w' H' I' s' rx => q1 cls dd w' H' (S1.carry I' (s2.trans s')) (s2.trans s') rx
      | bad => rw [e] at q1; exact q1.elim
    · exact q1.elim⟩
theorem newMV_to {c n : Nat} {t : TA} (ht : ∀ σ H Q, tDA Γ B Wx ml σ H Q → t σ H Q) : ∀ σ H Q, tD Γ B Wx (mNewMV c n F ml) σ H Q → tMakeS Wx (Γ.cls c) (spV Γ n F) t σ H Q := fun σ H Q ⟨w, ρ, z, S, q⟩ =>
  ht _ _ _ ⟨w, ρ, z, S, q.bind.mono fun ds w1 z1 H1 _ _ ⟨S1, s1, q1⟩ vs rvs x dx hx hd ne => by
    dsimp only at q1
    split at q1
    · rename_i hn
      obtain ⟨I2, s2⟩ := S1.wi.made c hx hd ne
      refine ⟨by rw [List.length_cons, rvs.length]; exact hn.1, by rw [List.length_cons, rvs.length]; exact hn.2, _, _, .mob z1.length :: ds, I2, .cons (rep_at S1.wi x) (rvs.step s2), ?_⟩
      cases e : F ((.mob z1.length :: ds).take n ++ [.tup ((.mob z1.length :: ds).drop n)]) (z1 ++ [.ins c []]) with
      | ok d z2 =>
        rw [e] at q1
        unfold newMTo at q1
        cases d with
        | non =>
          dsimp only at q1
          intro v w' H' I' s' rv
          cases rv
          exact ⟨rfl, q1 _ H' (S1.carry I' (s2.trans s')) (s2.trans s') _ ((rep_at S1.wi x).step s')⟩
        | _ => exact q1.elim
      | exc y z2 =>
        rw [e] at q1
        exact fun cls dd w' H' I' s' rx => q1 cls dd w' H' (S1.carry I' (s2.trans s')) (s2.trans s') rx
      | bad => rw [e] at q1; exact q1.elim
    · exact q1.elim⟩
theorem d_newFV (c : Nat) {n : Nat} (V : Dv Γ X Wx j) (M : Mk X.K (Γ.cls c) fa) (G : FnV X.prog X.w X.K X.mg X.base k fa (spV Γ n F)) (hm : X.mg x = some (.ref (Γ.cls c))) (ha : PA X (e :: es) (tDA Γ B Wx ml)) (hj : k + 1 ≤ j := by decide) (hg : Gl X x := by rfl) (hdb : (x == ("__debug__" : Str)) = false := by decide)
    (he : starEach (e :: es) X.env = (false, eval e X.env) :: starEach es X.env := by rfl) (hpl : (backTo pos (starEach es X.env)).any (·.1) = false := by rfl) : PE X (.Call (.Name x p) (e :: es) [] pos) (tD Γ B Wx (mNewFV c n F ml)) :=
  pe_weak (pe_makeV V M G hj hg hm ha hdb he hpl) (newFV_to fun _ _ _ q => q)
theorem d_newFV0 (c : Nat) {n : Nat} (V : Dv Γ X Wx j) (M : Mk X.K (Γ.cls c) fa) (G : FnV X.prog X.w X.K X.mg X.base k fa (spV Γ n F)) (hm : X.mg x = some (.ref (Γ.cls c))) (hj : k + 1 ≤ j := by decide) (hg : Gl X x := by rfl) (hdb : (x == ("__debug__" : Str)) = false := by decide) : PE X (.Call (.Name x p) [] [] pos) (tD Γ B Wx (mNewFV c n F mNil)) :=
  pe_weak (pe_makeV0 V M G hj hg hm hdb) (newFV_to fun _ _ _ ⟨w, ρ, z, S, q⟩ => q.ok S [] .nil)
theorem d_newMV (c : Nat) {n : Nat} (V : Dv Γ X Wx j) (M : Mk X.K (Γ.cls c) fa) (G : FnV X.prog X.w X.K X.mg X.base k fa (spV Γ n F)) (hm : X.mg x = some (.ref (Γ.cls c))) (ha : PA X (e :: es) (tDA Γ B Wx ml)) (hj : k + 1 ≤ j := by decide) (hg : Gl X x := by rfl) (hdb : (x == ("__debug__" : Str)) = false := by decide)
    (he : starEach (e :: es) X.env = (false, eval e X.env) :: starEach es X.env := by rfl) (hpl : (backTo pos (starEach es X.env)).any (·.1) = false := by rfl) : PE X (.Call (.Name x p) (e :: es) [] pos) (tD Γ B Wx (mNewMV c n F ml)) :=
  pe_weak (pe_makeV V M G hj hg hm ha hdb he hpl) (newMV_to fun _ _ _ q => q)
theorem d_newMV0 (c : Nat) {n : Nat} (V : Dv Γ X Wx j) (M : Mk X.K (Γ.cls c) fa) (G : FnV X.prog X.w X.K X.mg X.base k fa (spV Γ n F)) (hm : X.mg x = some (.ref (Γ.cls c))) (hj : k + 1 ≤ j := by decide) (hg : Gl X x := by rfl) (hdb : (x == ("__debug__" : Str)) = false := by decide) : PE X (.Call (.Name x p) [] [] pos) (tD Γ B Wx (mNewMV c n F mNil)) :=
  pe_weak (pe_makeV0 V M G hj hg hm hdb) (newMV_to fun _ _ _ ⟨w, ρ, z, S, q⟩ => q.ok S [] .nil)
end
@[simp] theorem ap_newFV {ρ : En} {z : Z} (c n : Nat) (F : FM) (ml : M (List D)) : mNewFV c n F ml ρ z = (ml ρ z).bind fun ds z1 => if n ≤ ds.length + 1 ∧ ds.length + 1 ≤ n + sizeLine then newTo c z1.length (F ((.mob z1.length :: ds).take n ++ [.tup ((.mob z1.length :: ds).drop n)]) (z1 ++ [.ins c []])) else .bad := rfl
@[simp] theorem ap_newMV {ρ : En} {z : Z} (c n : Nat) (F : FM) (ml : M (List D)) : mNewMV c n F ml ρ z = (ml ρ z).bind fun ds z1 => if n ≤ ds.length + 1 ∧ ds.length + 1 ≤ n + sizeLine then newMTo z1.length (F ((.mob z1.length :: ds).take n ++ [.tup ((.mob z1.length :: ds).drop n)]) (z1 ++ [.ins c []])) else .bad := rfl
theorem Dms.init {K : PySem.W.Frag} {C : Addr} {mg : Str → Option Value} {cx qual : Str} {st : Stmt} (d : Dms K C "__init__" qual st) (c : Cd K mg C cx) : Mk K C d.f := ⟨c.mks, d.at_, d.fn, c.kp⟩
end NW
set_option maxHeartbeats 1000000
/-! x in a list of data of any depth. -/
namespace NW
open PySem PySem.Spec PyProof.Rows L2
section
variable {X : Cx} {Γ : Gam} {B : Bs} {Wx : WX}
def inP (neg : Bool) (_ : Z) (d e : D) : Option Bool := match e with
  | .lst es => (toPy d).bind fun p => (toPys es).bind fun ps => if SeqAt.shaped p = true ∧ SeqAt.shaped (.list ps) = true then some (if neg then !ps.any (fun q => PyData.eqv q p) else ps.any fun q => PyData.eqv q p) else none
  | _ => none
theorem inP_some {neg : Bool} {z : Z} {d e : D} {k : Bool} (h : inP neg z d e = some k) : ∃ es p ps, e = .lst es ∧ toPy d = some p ∧ toPy (.lst es) = some (.list ps) ∧ SeqAt.shaped p = true ∧ SeqAt.shaped (.list ps) = true ∧ k = if neg then !ps.any (fun q => PyData.eqv q p) else ps.any fun q => PyData.eqv q p := by
  unfold inP at h
  split at h
  · obtain ⟨p, h1, h⟩ := Option.bind_eq_some_iff.mp h
    obtain ⟨ps, h2, h⟩ := Option.bind_eq_some_iff.mp h
    obtain ⟨rfl, h3, h4⟩ := ite_some h
    exact ⟨_, p, ps, rfl, h1, by simp only [toPy, h2]; rfl, h3, h4, rfl⟩
  · cases h
theorem ob_inP (hK : X.K = Γ.K) : OpB Γ B (rInD X.K) (inP false) := by
  intro w ρ z σ H d e k v u Q S rv ru h q
  obtain ⟨es, p, ps, rfl, h1, h2, h3, h4, rfl⟩ := inP_some h
  exact ⟨p, ps, rv.dp hK S.wi.le h1, ru.dp hK S.wi.le h2, h3, h4, q⟩
theorem ob_notInP (hK : X.K = Γ.K) : OpB Γ B (rNotInD X.K) (inP true) := by
  intro w ρ z σ H d e k v u Q S rv ru h q
  obtain ⟨es, p, ps, rfl, h1, h2, h3, h4, rfl⟩ := inP_some h
  exact ⟨p, ps, rv.dp hK S.wi.le h1, ru.dp hK S.wi.le h2, h3, h4, q⟩
end
theorem toPys_any {n m : Nat} {d : D} {p : PyData} (hd : okD n d = true) (e : toPy d = some p) (hp : p.canLay0 = true) : ∀ {es : List D}, okL m es = true → ∃ ps, toPys es = some ps ∧ PyData.canLayAll0 ps = true ∧ PyData.depthAll ps ≤ m ∧ ((ps.any fun q => PyData.eqv q p) = true ↔ d ∈ es)
  | [], _ => ⟨[], rfl, by simp only [PyData.canLayAll0], by simp only [PyData.depthAll]; omega, by simp⟩
  | x :: es, h => by
    unfold okL at h
    obtain ⟨a, b⟩ := Bool.and_eq_true_iff.mp h
    obtain ⟨px, e1, c1, c2⟩ := okD_py m x a
    obtain ⟨ps, e2, c3, c4, c5⟩ := toPys_any hd e hp b
    refine ⟨px :: ps, by simp only [toPys, e1, e2]; rfl, by simp only [PyData.canLayAll0, c1, c3, Bool.and_self], by simp only [PyData.depthAll]; omega, ?_⟩
    rw [List.any_cons, Bool.or_eq_true, c5, List.mem_cons]
    constructor
    · rintro (hq | hq)
      · exact .inl (eqv_ok m n x d px p a hd e1 e hq).symm
      · exact .inr hq
    · rintro (rfl | hq)
      · rw [e] at e1
        cases e1
        exact .inl (SeqAt.eqv_refl p hp)
      · exact .inr hq
open Classical in
theorem inP_ok (z : Z) {n m : Nat} {d : D} {es : List D} (hd : okD n d = true) (he : okL m es = true) (hn : n ≤ 63 := by decide) (hm : m ≤ 63 := by decide) : inP false z d (.lst es) = some (decide (d ∈ es)) ∧ inP true z d (.lst es) = some (!decide (d ∈ es)) := by
  obtain ⟨p, e1, a1, b1⟩ := okD_py n d hd
  obtain ⟨ps, e2, a2, b2, c2⟩ := toPys_any hd e1 a1 he
  have s1 : SeqAt.shaped p = true := by unfold SeqAt.shaped; rw [a1]; simp; omega
  have s2 : SeqAt.shaped (.list ps) = true := by
    unfold SeqAt.shaped
    simp only [PyData.canLay0, PyData.depth, a2, Bool.true_and, decide_eq_true_eq]
    have h3 : PyData.depthAll ps ≤ 63 := Nat.le_trans b2 hm
    first | omega | exact decide_eq_true (Nat.succ_le_succ h3)
  have key : (ps.any fun q => PyData.eqv q p) = decide (d ∈ es) := by
    rw [Bool.eq_iff_iff, c2, decide_eq_true_eq]
  unfold inP
  simp only [e1, e2, Option.bind_some, key]
  constructor
  · rw [if_pos ⟨s1, s2⟩]
    rfl
  · rw [if_pos ⟨s1, s2⟩]
    rfl
theorem hu65 {X : Cx} {Γ : Gam} {Wx : WX} {k : Nat} (V : Dv Γ X Wx k) : X.A.units + 65 < cLine := by have := V.room.un; omega
end NW
set_option maxHeartbeats 3200000
/-! Sets whose members are tuples of a given kind (KD): the search and the adding, by the hashes' table (L2.TabOk). -/
namespace NW
open PySem PySem.Spec PyProof.Rows L2

/-- a kind of tuples as keys: what a set asks of them -/
structure KD (P : Program) (w : World) (α : Type) [DecidableEq α] where
  here : Heap → α → Addr → Prop
  code : α → Int
  obj : ∀ {h : Heap} {k : α} {b : Addr}, here h k b → ∃ o its n, h.get? b = some o ∧ o.cls = .type "tuple" ∧ o.data = .seq its n
  mono : ∀ {h h' : Heap} {k : α} {b : Addr}, here h k b → (∀ c o, h.get? c = some o → o.cls = .type "tuple" → h'.get? c = some o) → here h' k b
  inj : ∀ {h : Heap} {k k' : α} {b : Addr}, here h k b → here h k' b → k = k'
  hash : ∀ {A : Around} {E : Value → Shared → Prop} {s : Shared} {k : α} {b : Addr} {Q : Int → Shared → Prop}, A.units < cLine → here s.heap k b → (∀ t, s.toks ≤ t → Q (code k) { s with toks := t }) → wpAny (model P w) A (pyHash (.ref b)) Q E s
  same : ∀ {A : Around} {E : Value → Shared → Prop} {s : Shared} {k k' : α} {b c : Addr} {Q : Bool → Shared → Prop}, A.units < cLine → here s.heap k b → here s.heap k' c → Q (decide (k = k')) s → wpAny (model P w) A (eqBool (.ref b) (.ref c)) Q E s
  quiet : ∀ {A : Around} {E : Value → Shared → Prop} {s : Shared} {k : α} {b : Addr} {Q : Bool → Shared → Prop}, here s.heap k b → Q true s → wpAny (model P w) A (eqIsQuiet 8 (.ref b)) Q E s
  noCls : ∀ {A : Around} {E : Value → Shared → Prop} {s : Shared} {k : α} {b : Addr} {Q : Bool → Shared → Prop}, here s.heap k b → Q false s → wpAny (model P w) A (ofAClassStatement 8 (.ref b)) Q E s
  byVal : ∀ {A : Around} {E : Value → Shared → Prop} {s : Shared} {k : α} {b : Addr} {Q : Bool → Shared → Prop}, here s.heap k b → (∀ r, Q r s) → wpAny (model P w) A (hashByValue 8 (.ref b)) Q E s

/-- a loop that only looks, and goes on at each item -/
theorem look_all {P : Program} {w : World} {A : Around} {E : Value → Shared → Prop} {s : Shared} {β γ : Type} {r0 : β} {body : γ → β → Sem (ForInStep β)} {xs : List γ} {Q : β → Shared → Prop}
    (h : ∀ v ∈ xs, ∀ Q' : ForInStep β → Shared → Prop, Q' (.yield r0) s → wpAny (model P w) A (body v r0) Q' E s) (hQ : Q r0 s) : wpAny (model P w) A (forIn xs r0 body) Q E s := by
  refine wpAny_forIn_list _ (fun rest r s' => r = r0 ∧ s' = s ∧ ∀ v ∈ rest, v ∈ xs) _ ?_ ?_ _ _ ⟨rfl, rfl, fun _ h => h⟩
  · rintro v rest r s' ⟨rfl, rfl, hr⟩
    exact h v (hr v List.mem_cons_self) _ ⟨rfl, rfl, fun u hu => hr u (List.mem_cons_of_mem _ hu)⟩
  · rintro r s' ⟨rfl, rfl, _⟩
    exact hQ

section
variable {P : Program} {w : World} {A : Around} {E : Value → Shared → Prop} {s : Shared}
theorem plain_cls {v : Value} (h : ∃ x t, v = Value.str x t) (n : Nat) : ofAClassStatement n v = pure false := by
  obtain ⟨x, t, rfl⟩ := h
  cases n <;> rfl
theorem text_hash {v : Value} (h : ∃ x t, v = Value.str x t) (n : Nat) : hashByValue n v = pure false := by
  obtain ⟨x, t, rfl⟩ := h
  cases n <;> (unfold hashByValue; rfl)
theorem strs_at {k : List PySem.Str} {vs : List Value} (h : ItemsAre (PySem.strKind P w) k vs) : ∀ v ∈ vs, ∃ x t, v = Value.str x t := by
  induction h with
  | nil => intro v z; simp at z
  | @cons k0 v0 ks vs h1 _ ih =>
    intro v z
    rcases List.mem_cons.mp z with rfl | z
    · obtain ⟨t, e⟩ := Value.isStrOf_shape h1
      exact ⟨k0, t, e⟩
    · exact ih v z
/-- tuples of texts -/
def kdS (P : Program) (w : World) : KD P w (List PySem.Str) where
  here := fun h k b => IsTupleKey (PySem.strKind P w) h k b
  code := fun k => tupleKeyHash (PySem.strKind P w) k
  obj := fun ⟨o, its, n, a, b, c, _⟩ => ⟨o, its, n, a, b, c⟩
  mono := fun ⟨o, its, n, a, b, c, d⟩ m => ⟨o, its, n, m _ o a b, b, c, d⟩
  inj := fun x y => x.inj y
  hash := fun hu x h => wpAny_pyHash_tuple hu x (h _ (Nat.le_add_right _ _))
  same := fun hu x y h => wpAny_eqBool_tuple hu x y h
  quiet := fun x h => wpAny_eqIsQuiet_tuple x h
  noCls := fun {A E s k b Q} x h => by
    have ty := x.typeIs
    obtain ⟨o, its, n, a1, a2, a3, a4⟩ := x
    unfold ofAClassStatement
    refine wpAny_bind (wpAny_typeOf ty ?_)
    dsimp only
    have z : (("tuple" : String) == "tuple") = true := by decide
    simp only [z, if_true, Bool.not_true, Bool.false_eq_true, if_false]
    try refine wpAny_bind (wpAny_pure ?_)
    try simp only [Bool.not_true, Bool.false_eq_true, if_false]
    show wpAny _ _ (seqItems? (.ref b) >>= _) _ _ s
    refine wpAny_bind (wpAny_seqItems a1 a3 ?_)
    dsimp only
    refine wpAny_bind ?_
    show wpAny _ _ (forIn its _ _) _ _ s
    rw [← Array.forIn_toList]
    refine look_all (fun v hv Q' q => ?_) ?_
    · rw [plain_cls (strs_at a4 v hv)]
      refine wpAny_bind (wpAny_pure ?_)
      simp only [Bool.false_eq_true, if_false]
      exact wpAny_pure q
    · exact wpAny_pure h
  byVal := fun {A E s k b Q} x h => by
    have ty := x.typeIs
    obtain ⟨o, its, n, a1, a2, a3, a4⟩ := x
    unfold hashByValue
    refine wpAny_bind (wpAny_specialOf ty F.slot_tuple_hash.lookup ?_)
    show wpAny _ _ (seqItems? (.ref b) >>= _) _ _ s
    refine wpAny_bind (wpAny_seqItems a1 a3 (wpAny_bind ?_))
    show wpAny _ _ (forIn its _ _) _ _ s
    rw [← Array.forIn_toList]
    refine wpAny_forIn_list _ (fun rest r s' => r.1 = none ∧ s' = s ∧ ∀ v ∈ rest, v ∈ its.toList) _ (fun v rest r s' ⟨hr, hs, hm⟩ => ?_) (fun r s' ⟨hr, hs, _⟩ => ?_) _ _ ⟨rfl, rfl, fun _ z => z⟩
    · subst hs
      rw [text_hash (strs_at a4 v (hm v List.mem_cons_self))]
      refine wpAny_bind (wpAny_pure ?_)
      simp only [Bool.not_false, if_true]
      exact wpAny_pure (wpAny_pure (h _))
    · subst hs
      obtain ⟨r1, r2⟩ := r
      simp only at hr
      subst hr
      exact wpAny_pure (h _)
end

section
variable {P : Program} {w : World} {A : Around} {E : Value → Shared → Prop} {s : Shared} {α : Type} [DecidableEq α] (D : KD P w α)
/-- what the search of one among others could show: nothing -/
theorem KD.seen {k : α} {b : Addr} {Q : Bool → Shared → Prop} (x : D.here s.heap k b) {ys : List Value} (hy : ∀ y ∈ ys, ∃ k' c, y = Value.ref c ∧ D.here s.heap k' c) (h : Q false s) :
    wpAny (model P w) A (searchCouldBeSeen (.ref b) ys) Q E s := by
  unfold searchCouldBeSeen
  refine wpAny_bind (look_all (fun v hv Q' q => ?_) ?_)
  · obtain ⟨k', c, rfl, hc⟩ := hy v hv
    dsimp only
    by_cases z : (b == c || (carriedByValue (.ref b) && carriedByValue (.ref c))) = true
    · exact wp_if_pos z (wpAny_pure q)
    · refine wp_if_neg z (wpAny_bind (D.quiet x ?_))
      simp only [Bool.not_true, Bool.false_eq_true, if_false]
      refine wpAny_bind (D.quiet hc ?_)
      simp only [Bool.not_true, Bool.false_eq_true, if_false]
      refine wpAny_bind (D.noCls x ?_)
      simp only [Bool.false_eq_true, if_false]
      refine wpAny_bind (D.noCls hc ?_)
      simp only [Bool.false_eq_true, if_false]
      exact wpAny_pure q
  · exact wpAny_pure h

/-- a set's rows: hash and address -/
def KD.rows (L : List (Addr × α)) : List (Int × Value) := L.map fun p => (D.code p.2, Value.ref p.1)
def KD.codes (L : List (Addr × α)) : List Int := L.map fun p => D.code p.2
/-- the set at a holds L -/
structure KD.Set (h : Heap) (a : Addr) (L : List (Addr × α)) (es : Array (Int × Value)) (ep : Nat) (t : SetTable) : Prop where
  ob : ∃ o, h.get? a = some o ∧ o.ExactSet ∧ o.data = .set es ep t
  rw' : es.toList = D.rows L
  tb : TabOk t (D.codes L)
  nd : (L.map Prod.snd).Nodup
  mem : ∀ p ∈ L, D.here h p.2 p.1
  ld : w.params.followText "set-order" = true ∨ t.led = true
  room : 5 * L.length < 3 * t.mask
  few : L.length < 64
variable {D} {a : Addr} {L : List (Addr × α)} {es : Array (Int × Value)} {ep : Nat} {t : SetTable}
theorem KD.rows_len : (D.rows L).length = L.length := by simp [KD.rows]
theorem KD.codes_len : (D.codes L).length = L.length := by simp [KD.codes]
theorem rows_size (h : es.toList = D.rows L) : es.size = L.length := by
  have := congrArg List.length h
  rwa [Array.length_toList, KD.rows_len] at this
theorem fits_of (h1 : t.dummies = #[]) (h2 : t.place.size = es.size) (h3 : es.size ≤ t.mask) : t.fits es.size = true := by
  unfold SetTable.fits SetTable.fill
  rw [h1, Bool.and_eq_true, beq_iff_eq, decide_eq_true_eq]
  exact ⟨h2, by rw [h2]; simpa using h3⟩
theorem KD.Set.size (R : D.Set s.heap a L es ep t) : es.size = L.length := rows_size R.rw'
theorem KD.Set.place (R : D.Set s.heap a L es ep t) : t.place.size = L.length := by rw [R.tb.sz, KD.codes_len]
theorem KD.Set.fits (R : D.Set s.heap a L es ep t) : t.fits es.size = true :=
  fits_of R.tb.dm (by rw [R.place, R.size]) (by have := R.room; rw [R.size]; omega)
theorem rows_at (h : es.toList = D.rows L) {i : Nat} {p : Addr × α} (hp : L[i]? = some p) : es[i]? = some (D.code p.2, Value.ref p.1) := by
  rw [← Array.getElem?_toList, h, KD.rows, List.getElem?_map, hp] <;> rfl
theorem KD.Set.codeAt (R : D.Set s.heap a L es ep t) {i : Nat} {p : Addr × α} (hp : L[i]? = some p) : (es[i]?.map (·.1)).getD 0 = D.code p.2 := by rw [rows_at R.rw' hp] <;> rfl
theorem KD.Set.noGap (R : D.Set s.heap a L es ep t) : ¬ t.gaveWay = true := by
  unfold SetTable.gaveWay
  rw [mask_odd R.tb.mok]
  decide
theorem dmy (m : Nat) : ∀ (n : Nat) (p : SetTable.Probe), p.dummy = none → (nth m p n).dummy = none
  | 0, _, h => h
  | n + 1, p, h => dmy m n (adv m p) (by unfold adv; split <;> exact h)
/-- where a search for the hash h begins -/
abbrev beg (m : Nat) (h : Int) : SetTable.Probe := runAt m (SetTable.bits h % (m + 1)) (SetTable.bits h)

/-- the search, from step c of its way on; K: its first empty slot -/
theorem KD.Set.go (R : D.Set s.heap a L es ep t) {x : Addr} {k : α} (hx : D.here s.heap k x) (hu : A.units < cLine) {h : Int} (eh : D.code k = h) {K : Nat} (k1 : K < 10 * SetTable.turns t.mask)
    (k2 : way t.mask h K ∉ t.place.toList) (k3 : ∀ c, c < K → way t.mask h c ∈ t.place.toList) {Q : SetFound → Shared → Prop}
    (yes : k ∈ L.map Prod.snd → Q (.there none) s) (no : k ∉ L.map Prod.snd → Q (.free (way t.mask h K) false) s) (f : Nat) :
    ∀ (c : Nat) (stand : Option SetTable.Probe), stand.getD (t.probeStart h) = nth t.mask (beg t.mask h) c → c ≤ K → K - c < f →
      (∀ (i : Nat) p, L[i]? = some p → p.2 = k → ∃ d, c ≤ d ∧ d < K ∧ t.place.toList[i]? = some (way t.mask h d)) →
      wpAny (model P w) A (setSearchFrom a (.ref x) h true f stand) Q E s := by
  induction f with
  | zero => intro c _ _ _ z; exact absurd z (Nat.not_lt_zero _)
  | succ f ih =>
    intro c stand st ck cf rest
    obtain ⟨o, o1, o2, o3⟩ := R.ob
    have mv : ∀ q, nth t.mask (nth t.mask (beg t.mask h) c) q = nth t.mask (beg t.mask h) (c + q) := fun q => (nth_add t.mask c _ q).symm
    have mj : ∀ q, (nth t.mask (nth t.mask (beg t.mask h) c) q).j = way t.mask h (c + q) := fun q => congrArg SetTable.Probe.j (mv q)
    have back : ∀ (i d : Nat) (p : Addr × α), L[i]? = some p → p.2 = k → c ≤ d → t.place.toList[i]? = some (way t.mask h d) → ∀ (q : Nat),
        (∀ (e i' : Nat), e < q → t.place.toList[i']? = some (nth t.mask (nth t.mask (beg t.mask h) c) e).j → ((es[i']?.map (·.1)).getD 0 : Int) ≠ h) → d < c + q → False := by
      intro i d p hp hk hd hpl q nn lt
      refine nn (d - c) i (by omega) ?_ ?_
      · rw [mj, show c + (d - c) = d by omega]; exact hpl
      · rw [R.codeAt hp, hk, eh]
    rw [setSearchFrom_succ]
    refine wpAny_bind (wpAny_setState_of o1 o3 R.fits ?_)
    dsimp only
    refine wp_if_neg R.noGap ?_
    try refine wpAny_bind (wpAny_pure ?_)
    rcases go_spec t R.tb.ris R.tb.dm (fun i => (es[i]?.map (·.1)).getD 0) h (10 * SetTable.turns t.mask) (K - c) _ (dmy t.mask c _ rfl) (by omega)
      (fun q hq => by rw [mj]; exact k3 (c + q) (by omega)) (by rw [mj, show c + (K - c) = K by omega]; exact k2) with ⟨q, i, g1, g2, g3, g4, g5⟩ | ⟨g1, g2⟩
    · have pe : t.probe (fun i => (es[i]?.map (·.1)).getD 0) h (stand.getD (t.probeStart h)) = some (.candidate (way t.mask h (c + q)) i (nth t.mask (beg t.mask h) (c + (q + 1)))) := by
        rw [st, ← mj, ← mv]; exact g5
      rw [pe]
      dsimp only
      rw [mj] at g2
      obtain ⟨p, hp⟩ : ∃ p, L[i]? = some p := by
        have i1 : i < t.place.toList.length := (List.getElem?_eq_some_iff.mp g2).1
        rw [Array.length_toList, R.place] at i1
        exact ⟨_, List.getElem?_eq_getElem i1⟩
      have hpm : p ∈ L := List.mem_of_getElem? hp
      have sl : t.slot (way t.mask h (c + q)) = .live i := slot_live R.tb.ris g2
      have on : wpAny (model P w) A (searchRest a (.ref x) h true f es t (way t.mask h (c + q)) i (nth t.mask (beg t.mask h) (c + (q + 1)))) Q E s := by
        unfold searchRest
        rw [rows_at R.rw' hp]
        dsimp only
        refine wpAny_bind (wpAny_holding (D.same hu (R.mem p hpm) hx ?_))
        refine wpAny_bind (wpAny_setState_of o1 o3 R.fits ?_)
        dsimp only
        by_cases pk : p.2 = k
        · exact wp_if_pos (by simp [pk]) (wpAny_pure (yes (List.mem_map.mpr ⟨p, hpm, pk⟩)))
        refine wp_if_neg (by simp [pk]) ?_
        try refine wpAny_bind (wpAny_pure ?_)
        rw [sameMem]
        dsimp only
        simp only [if_true, sl, rows_at R.rw' hp]
        refine wpAny_bind (wpAny_isSame_ref_self (wpAny_bind (wpAny_pure ?_)))
        simp only [if_true]
        refine wp_if_neg (by simp [pk]) (ih (c + (q + 1)) _ rfl (by omega) (by omega) fun i' p' hp' hk' => ?_)
        obtain ⟨d, d1, d2, d3⟩ := rest i' p' hp' hk'
        refine ⟨d, ?_, d2, d3⟩
        rcases Nat.lt_trichotomy d (c + q) with z | z | z
        · exact (back i' d p' hp' hk' d1 d3 q g4 z).elim
        · rw [z] at d3
          have := slot_live R.tb.ris d3
          rw [sl] at this
          cases this
          rw [hp] at hp'
          cases hp'
          exact absurd hk' pk
        · omega
      by_cases hl : t.led = true
      · refine wp_if_neg (by simp [hl]) ?_
        try refine wpAny_bind (wpAny_pure ?_)
        exact on
      · refine wp_if_pos (by simp [hl]) (wpAny_bind (D.seen hx (fun y hy => ?_) ?_))
        · obtain ⟨e, e1, rfl⟩ := List.mem_map.mp hy
          have e2 : e ∈ es.toList := by
            have : e ∈ es ∧ e.1 = h := by simpa using e1
            simpa using this.1
          rw [R.rw'] at e2
          obtain ⟨p', z, rfl⟩ := List.mem_map.mp e2
          exact ⟨p'.2, p'.1, rfl, R.mem p' z⟩
        · refine wp_if_neg (by decide) ?_
          try refine wpAny_bind (wpAny_pure ?_)
          exact on
    · have pe : t.probe (fun i => (es[i]?.map (·.1)).getD 0) h (stand.getD (t.probeStart h)) = some (.empty (way t.mask h K) none) := by
        have z := mj (K - c)
        rw [show c + (K - c) = K by omega] at z
        rw [st, ← z]
        exact g2
      rw [pe]
      dsimp only
      refine wpAny_pure (no fun hm => ?_)
      obtain ⟨p, hpm, pk⟩ := List.mem_map.mp hm
      obtain ⟨i, hi, e⟩ := List.getElem_of_mem hpm
      have hp : L[i]? = some p := by rw [List.getElem?_eq_getElem hi, e]
      obtain ⟨d, d1, d2, d3⟩ := rest i p hp pk
      exact back i d p hp pk d1 d3 (K - c) g1 (by omega)

theorem KD.Set.find (R : D.Set s.heap a L es ep t) {x : Addr} {k : α} (hx : D.here s.heap k x) (hu : A.units < cLine) {Q : SetFound → Shared → Prop} (yes : k ∈ L.map Prod.snd → Q (.there none) s)
    (no : ∀ K, k ∉ L.map Prod.snd → way t.mask (D.code k) K ∉ t.place.toList → (∀ c, c < K → way t.mask (D.code k) c ∈ t.place.toList) → Q (.free (way t.mask (D.code k) K) false) s) :
    wpAny (model P w) A (setSearch a (.ref x) (D.code k) true) Q E s := by
  obtain ⟨K, k1, k2, k3⟩ := R.tb.first (by have := R.room; rw [KD.codes_len]; omega) (D.code k)
  have tl : 10 * SetTable.turns t.mask ≤ 1420 := by
    unfold SetTable.turns
    rcases R.tb.mok with e | e | e <;> omega
  unfold setSearch
  refine R.go hx hu rfl k1 k2 k3 yes (fun z => no K z k2 k3) 100000 0 none rfl (Nat.zero_le _) (by omega) fun i p hp hk => ?_
  have ci : (D.codes L)[i]? = some (D.code k) := by rw [KD.codes, List.getElem?_map, hp, ← hk] <;> rfl
  have il : i < t.place.toList.length := by
    have := (List.getElem?_eq_some_iff.mp hp).1
    rw [Array.length_toList, R.place]
    exact this
  obtain ⟨d, d1, d2⟩ := R.tb.before k2 ci (List.getElem?_eq_getElem il)
  exact ⟨d, Nat.zero_le _, d1, by rw [List.getElem?_eq_getElem il, d2]⟩
end
end NW
set_option maxHeartbeats 3200000
/-! Sets of tuples (KD): adding, the table laid anew, set.update's loop. -/
namespace NW
open PySem PySem.Spec PyProof.Rows L2
section
variable {P : Program} {w : World} {A : Around} {E : Value → Shared → Prop} {s : Shared} {α : Type} [DecidableEq α] {D : KD P w α}
theorem KD.keepBut {h h' : Heap} {k : α} {a b : Addr} {o : Obj} (x : D.here h k b) (ho : h.get? a = some o) (hc : o.ExactSet) (sb : Heap.SameBut a h h') : D.here h' k b :=
  D.mono x fun c o' e ec => by
    by_cases z : c = a
    · subst z
      rw [ho] at e
      cases e
      have q := hc.1.symm.trans ec
      injection q with q
      exact absurd q (by decide)
    · exact (sb.2 c z).trans e
theorem KD.keepAll {h h' : Heap} {k : α} {b : Addr} (x : D.here h k b) (m : ∀ c o, h.get? c = some o → h'.get? c = some o) : D.here h' k b := D.mono x fun c o e _ => m c o e
/-- what the set has of those that were put in -/
structure KGot (done L : List (Addr × α)) : Prop where
  sub : ∀ p ∈ L, p ∈ done
  all : ∀ p ∈ done, p.2 ∈ L.map Prod.snd
  le : L.length ≤ done.length
theorem KGot.nil : KGot ([] : List (Addr × α)) [] := ⟨fun _ h => h, fun _ h => (nomatch h), Nat.le_refl _⟩
theorem KGot.old {done L : List (Addr × α)} {p : Addr × α} (g : KGot done L) (h : p.2 ∈ L.map Prod.snd) : KGot (done ++ [p]) L where
  sub q hq := List.mem_append_left _ (g.sub q hq)
  all q hq := by
    rcases List.mem_append.mp hq with z | z
    · exact g.all q z
    · cases List.mem_singleton.mp z; exact h
  le := by have := g.le; simp; omega
theorem KGot.new {done L L' : List (Addr × α)} {p : Addr × α} (g : KGot done L) (h : L'.Perm (p :: L)) : KGot (done ++ [p]) L' where
  sub q hq := by
    rcases List.mem_cons.mp (h.mem_iff.mp hq) with z | z
    · subst z; simp
    · exact List.mem_append_left _ (g.sub q z)
  all q hq := by
    refine (h.map Prod.snd).mem_iff.mpr ?_
    rcases List.mem_append.mp hq with z | z
    · exact List.mem_cons_of_mem _ (g.all q z)
    · cases List.mem_singleton.mp z; exact List.mem_cons_self
  le := by have := g.le; rw [h.length_eq]; simp; omega
variable {a : Addr} {L : List (Addr × α)} {es : Array (Int × Value)} {ep : Nat} {t : SetTable}
theorem rows_ins (p : Nat) (x : Addr × α) : D.rows (L.take p ++ x :: L.drop p) = (D.rows L).take p ++ (D.code x.2, Value.ref x.1) :: (D.rows L).drop p := by
  simp [KD.rows, List.map_take, List.map_drop]
theorem codes_ins (p : Nat) (x : Addr × α) : D.codes (L.take p ++ x :: L.drop p) = (D.codes L).take p ++ D.code x.2 :: (D.codes L).drop p := by
  simp [KD.codes, List.map_take, List.map_drop]
theorem pick_all {β : Type} (l : List β) : ∀ n, n ≤ l.length → (List.range n).filterMap (fun i => l[i]?) = l.take n
  | 0, _ => rfl
  | n + 1, h => by
    have z : l[n]? = some l[n] := List.getElem?_eq_getElem h
    rw [List.range_succ, List.filterMap_append, pick_all l n (Nat.le_of_lt h), take_next z]
    congr 1
    rw [List.filterMap_cons_some z] <;> rfl
/-- the rows in another order -/
theorem rows_order (hr : es.toList = D.rows L) {order : Array Nat} (hp : order.toList.Perm (List.range L.length)) :
    ∃ L2, L2.Perm L ∧ (order.filterMap (es[·]?)).toList = D.rows L2 ∧ D.codes L2 = order.toList.map fun i => (es.map (·.1)).getD i 0 := by
  refine ⟨order.toList.filterMap fun i => L[i]?, ?_, ?_, ?_⟩
  · have := hp.filterMap fun i => L[i]?
    rwa [pick_all L _ (Nat.le_refl _), List.take_length] at this
  all_goals
    have lt : ∀ i ∈ order.toList, i < L.length := fun i hi => List.mem_range.mp (hp.mem_iff.mp hi)
  · rw [Array.toList_filterMap]
    revert lt
    generalize order.toList = l
    intro lt
    induction l with
    | nil => rfl
    | cons i l ih =>
      have z : L[i]? = some (L[i]'(lt i List.mem_cons_self)) := List.getElem?_eq_getElem _
      rw [List.filterMap_cons_some (rows_at hr z), List.filterMap_cons_some z, ih fun j hj => lt j (List.mem_cons_of_mem _ hj)] <;> rfl
  · revert lt
    generalize order.toList = l
    intro lt
    induction l with
    | nil => rfl
    | cons i l ih =>
      have z : L[i]? = some (L[i]'(lt i List.mem_cons_self)) := List.getElem?_eq_getElem _
      have e : (es.map (·.1)).getD i 0 = D.code (L[i]'(lt i List.mem_cons_self)).2 := by
        have e5 : (es.map (·.1))[i]? = some (D.code (L[i]'(lt i List.mem_cons_self)).2) := by rw [Array.getElem?_map, rows_at hr z] <;> rfl
        simp [Array.getD_eq_getD_getElem?, e5]
      rw [List.filterMap_cons_some z, List.map_cons, e, ← ih fun j hj => lt j (List.mem_cons_of_mem _ hj)] <;> rfl

/-- the larger table -/
theorem KD.relay {o : Obj} (ho : s.heap.get? a = some o) (hc : o.ExactSet) (hd : o.data = .set es ep t) (hr : es.toList = D.rows L) (h1 : t.dummies = #[]) (h2 : t.place.size = es.size) (h3 : es.size ≤ t.mask)
    (nd : (L.map Prod.snd).Nodup) (mem : ∀ p ∈ L, D.here s.heap p.2 p.1) (ld : w.params.followText "set-order" = true ∨ t.led = true) (few : L.length < 64) {want m : Nat}
    (sz : SetTable.sizeAbove want = m + 1) (mk : MaskOk m) (fit : 5 * L.length < 3 * m) {Q : Unit → Shared → Prop}
    (q : ∀ h' L' es' ep' t', Heap.SameBut a s.heap h' → D.Set h' a L' es' ep' t' → L'.Perm L → Q () { s with heap := h' }) : wpAny (model P w) A (setRelay a want) Q E s := by
  have n1 : es.size = L.length := rows_size hr
  have m1 : m ≤ 127 := by rcases mk with e | e | e <;> omega
  obtain ⟨t', order, e1, e2, e3, e4, e5, e6, e7⟩ := relaid_ok t (hs := es.map (·.1)) (wanted := want) (M := m) (by omega) mk (by rw [Array.size_map]; omega)
  rw [Array.size_map, n1] at e2
  obtain ⟨L2, p1, p2, p3⟩ := rows_order hr e2
  rw [← p3] at e3
  have n2 : (order.filterMap (es[·]?)).size = es.size := by rw [rows_size p2, p1.length_eq, n1]
  rw [setRelay_eq]
  refine wpAny_bind (wpAny_setState_of ho hd (fits_of h1 h2 h3) ?_)
  dsimp only
  refine wp_if_neg (by rw [sizeLine_eq, sz]; omega) ?_
  try refine wpAny_bind (wpAny_pure ?_)
  rw [e1]
  dsimp only
  refine wpAny_bind (wp_if_neg (by rw [n2]; simp) ?_)
  try refine wpAny_bind (wpAny_pure ?_)
  refine wpAny_pure ?_
  dsimp only
  refine wpAny_storeSet_of ho hd ?_ (by rw [n2, n1, sizeLine_eq]; omega)
  have sb : Heap.SameBut a s.heap (s.heap.update a (Obj.putSet (order.filterMap (es[·]?)) t')) := Heap.SameBut.update ..
  refine q _ L2 _ (ep + 1) t' sb ⟨⟨_, store_at ho hd, ⟨hc.1, hc.2.1, hc.2.2⟩, rfl⟩, p2, e3, (p1.map _).nodup_iff.mpr nd, fun p hp => KD.keepBut (mem p (p1.mem_iff.mp hp)) ho hc sb, ?_, ?_, ?_⟩ p1
  · rw [e5]; exact ld
  · rw [p1.length_eq, e4]; exact fit
  · rw [p1.length_eq]; exact few

/-- one more -/
theorem KD.Set.add {done : List (Addr × α)} (R : D.Set s.heap a L es ep t) (g : KGot done L) {x : Addr} {k : α} (hx : D.here s.heap k x) (hu : A.units < cLine) (few : done.length + 1 < 64) {Q : Bool → Shared → Prop}
    (q : ∀ b h' L' es' ep' t', Heap.SameBut a s.heap h' → D.Set h' a L' es' ep' t' → KGot (done ++ [(x, k)]) L' → Q b { s with heap := h' }) :
    wpAny (model P w) A (setAddHashed a (.ref x) (D.code k)) Q E s := by
  obtain ⟨o, o1, o2, o3⟩ := R.ob
  have n1 := R.size
  have rm := R.room
  have lfew : L.length + 1 < 64 := by have := g.le; omega
  unfold setAddHashed
  rw [show (100000 : Nat) = 99999 + 1 from rfl, setAddHashedIn_succ]
  refine wpAny_holding (wpAny_bind (wpAny_setState_of o1 o3 R.fits ?_))
  dsimp only
  refine wp_if_neg (by simp [byScan, Value.scannable]) ?_
  try refine wpAny_bind (wpAny_pure ?_)
  refine wpAny_bind (R.find hx hu (fun hm => ?_) fun K hm k2 k3 => ?_)
  · exact wpAny_pure (q false s.heap L es ep t (Heap.SameBut.refl a s.heap) R (g.old hm))
  dsimp only
  refine wpAny_bind (wpAny_setState_of o1 o3 R.fits ?_)
  dsimp only
  obtain ⟨u1, u2, u3, u4, u5, u6, u7, u8, u9⟩ := R.tb.put k2 k3
  generalize t.put (way t.mask (D.code k) K) = pt at u1 u3 u4 u5 u6 u7 u8 u9 ⊢
  obtain ⟨t1, p⟩ := pt
  dsimp only at u1 u3 u4 u5 u6 u7 u8 u9 ⊢
  subst u1
  clear u6 u7 u8
  suffices tail : ∀ t2 : SetTable, TabOk t2 ((D.codes L).take (SetTable.below t.place (way t.mask (D.code k) K)) ++ D.code k :: (D.codes L).drop (SetTable.below t.place (way t.mask (D.code k) K))) → t2.mask = t.mask → t2.led = t.led → t2.fill = (D.codes L).length + 1 →
      wpAny (model P w) A (storeSet a (SetTable.insertAt es (SetTable.below t.place (way t.mask (D.code k) K)) (D.code k, Value.ref x)) t2 >>= fun _ => do
        if !false && t2.tooFull then setRelay a (SetTable.grown (es.size + 1))
        return true) Q E s by
    by_cases up : t1.plain = true
    · first
        | (refine wpAny_bind (wp_if_pos up (D.byVal hx fun r => ?_)))
        | refine wp_if_pos up (wpAny_bind (D.byVal hx fun r => ?_))
      cases r with
      | true => exact tail t1 u3 u4 u5 u9
      | false => exact tail { t1 with plain := false } ⟨u3.ris, u3.dm, u3.sz, u3.mok, u3.bd, u3.reach⟩ u4 u5 u9
    · first
        | (refine wpAny_bind (wp_if_neg up (wpAny_pure ?_)))
        | refine wp_if_neg up (wpAny_bind (wpAny_pure ?_))
      exact tail t1 u3 u4 u5 u9
  clear u3 u4 u5 u9
  clear t1
  intro t1 u3 u4 u5 u9
  have r1 : (SetTable.insertAt es (SetTable.below t.place (way t.mask (D.code k) K)) (D.code k, Value.ref x)).toList = D.rows (L.take (SetTable.below t.place (way t.mask (D.code k) K)) ++ (x, k) :: L.drop (SetTable.below t.place (way t.mask (D.code k) K))) := by
    rw [SetTable.toList_insertAt, rows_ins, R.rw']
  generalize SetTable.below t.place (way t.mask (D.code k) K) = p at u2 u3 r1 ⊢
  have pm := put_perm L p (x, k)
  rw [← codes_ins (D := D) p (x, k)] at u3
  have nd1 : ((L.take p ++ (x, k) :: L.drop p).map Prod.snd).Nodup := (pm.map Prod.snd).nodup_iff.mpr (List.nodup_cons.mpr ⟨hm, R.nd⟩)
  have n2 : (SetTable.insertAt es p (D.code k, Value.ref x)).size = L.length + 1 := (rows_size r1).trans pm.length_eq
  generalize SetTable.insertAt es p (D.code k, Value.ref x) = es1 at r1 n2 ⊢
  generalize L.take p ++ (x, k) :: L.drop p = L1 at pm u3 nd1 r1
  have n3 : L1.length = L.length + 1 := pm.length_eq
  refine wpAny_bind (wpAny_storeSet_of o1 o3 ?_ (by rw [n2, sizeLine_eq]; omega))
  have sb : Heap.SameBut a s.heap (s.heap.update a (Obj.putSet es1 t1)) := Heap.SameBut.update ..
  have ob1 := store_at (es' := es1) (t' := t1) o1 o3
  generalize s.heap.update a (Obj.putSet es1 t1) = hp at sb ob1 ⊢
  have mem1 : ∀ p ∈ L1, D.here hp p.2 p.1 := fun p z => by
    rcases List.mem_cons.mp (pm.mem_iff.mp z) with rfl | z
    · exact KD.keepBut hx o1 o2 sb
    · exact KD.keepBut (R.mem p z) o1 o2 sb
  have ld1 : w.params.followText "set-order" = true ∨ t1.led = true := by rw [u5]; exact R.ld
  have cl : (D.codes L).length = L.length := KD.codes_len
  have full : t1.tooFull = decide (5 * (L.length + 1) ≥ 3 * t.mask) := by
    unfold SetTable.tooFull
    rw [u9, u4, cl]
    congr 1
    simp [Nat.mul_comm]
  cases hf : t1.tooFull with
  | false =>
    rw [hf] at full
    have rm1 := of_decide_eq_false full.symm
    first
      | refine wp_if_neg (by simp) ?_
      | refine wpAny_bind (wp_if_neg (by simp) (wpAny_pure ?_))
    exact wpAny_pure (q true hp L1 es1 (ep + 1) t1 sb ⟨⟨_, ob1, ⟨o2.1, o2.2.1, o2.2.2⟩, rfl⟩, r1, u3, nd1, mem1, ld1, by rw [n3, u4]; omega, by rw [n3]; omega⟩ (g.new pm))
  | true =>
    rw [hf] at full
    have rm1 := of_decide_eq_true full.symm
    first
      | (refine wpAny_bind ?_; refine wp_if_pos (by simp) ?_)
      | (refine wp_if_pos (by simp) ?_; refine wpAny_bind ?_)
    rw [n1]
    have pz : t1.place.size = es1.size := by rw [u3.sz, KD.codes_len, n3, n2]
    have step : ∀ m, SetTable.sizeAbove (SetTable.grown (L.length + 1)) = m + 1 → MaskOk m → 5 * (L.length + 1) < 3 * m → L.length + 1 ≤ t.mask →
        wpAny (model P w) A (setRelay a (SetTable.grown (L.length + 1))) (fun _ s' => wpAny (model P w) A (pure true) Q E s') E { s with heap := hp } := fun m z1 z2 z3 z4 => by
      refine KD.relay (s := { s with heap := hp }) ob1 ⟨o2.1, o2.2.1, o2.2.2⟩ rfl r1 u3.dm pz (by rw [n2, u4]; exact z4) nd1 mem1 ld1 (by rw [n3]; omega) z1 z2 (by rw [n3]; exact z3) ?_
      intro h2 L2 es2 ep2 t2 sb2 R2 pm2
      exact wpAny_pure (q true h2 L2 es2 ep2 t2 (sb.trans sb2) R2 (g.new (pm2.trans pm)))
    have g5 : SetTable.sizeAbove (SetTable.grown 5) = 31 + 1 := size_20
    have g19 : SetTable.sizeAbove (SetTable.grown 19) = 127 + 1 := size_76
    rcases R.tb.mok with e | e | e
    · have e4 : L.length = 4 := by omega
      exact step 31 (by rw [e4]; exact g5) (.inr (.inl rfl)) (by omega) (by omega)
    · have e4 : L.length = 18 := by omega
      exact step 127 (by rw [e4]; exact g19) (.inr (.inr rfl)) (by omega) (by omega)
    · omega

theorem KD.Set.on {h h' : Heap} (R : D.Set h a L es ep t) (ha : ∀ o, h.get? a = some o → h'.get? a = some o) (hm : ∀ p ∈ L, D.here h' p.2 p.1) : D.Set h' a L es ep t :=
  let ⟨o, o1, o2⟩ := R.ob
  ⟨⟨o, ha o o1, o2⟩, R.rw', R.tb, R.nd, hm, R.ld, R.room, R.few⟩
theorem KD.fresh {h : Heap} (ho : h.get? a = some (nwSet0 w)) : D.Set h a [] #[] 0 (.fresh 0 0 (!w.params.followText "set-order")) where
  ob := ⟨_, ho, ⟨rfl, rfl, rfl⟩, rfl⟩
  rw' := rfl
  tb := { ris := .nil, dm := rfl, sz := rfl, mok := .inl rfl, bd := fun _ z => (by cases z), reach := fun i h j z => (by simp [KD.codes] at z) }
  nd := .nil
  mem := fun _ z => nomatch z
  ld := by
    show _ ∨ (!w.params.followText "set-order") = true
    cases w.params.followText "set-order" <;> simp
  room := by show 5 * 0 < 3 * 7; decide
  few := by show 0 < 64; decide
end
end NW
set_option maxHeartbeats 3200000
/-! set(xs) of tuples of texts, sorted of such a set, as rules of calls. -/
namespace NW
open PySem PySem.Spec L2
open PySem.Calls PyProof.Rows
section
variable {P : Program} {w : World} {A : Around} {E : Value → Shared → Prop} {s : Shared} {α : Type} [DecidableEq α] {D : KD P w α}
theorem KD.update {I : Addr} {fp wr : List Addr} {G : Array GenState → Array GenState → Prop} {n : Nat} {Pv : Nat → Value → Prop} {St : Nat → Shared → Prop} {R : Result → Shared → Prop}
    (W : WalksS P w A.in1 I fp wr G n Pv St) (a : Addr) (ha : a ∉ fp) (ks : List (Addr × α)) (hn : n = ks.length) (few : ks.length < 64) (val : ∀ i v, Pv i v → ∃ p, ks[i]? = some p ∧ v = .ref p.1)
    (h0 : Heap) (mem : ∀ p ∈ ks, D.here h0 p.2 p.1) (fr : ∀ b, b = a ∨ b ∈ wr → h0.get? b = none) (hu : A.in1.units < cLine)
    (fin : ∀ s L es ep t, D.Set s.heap a L es ep t → KGot ks L → (∀ b o, h0.get? b = some o → s.heap.get? b = some o) → (∃ s0, Moved (a :: wr) G s0 s) → True) (m : Nat) :
    ∀ (i : Nat) (s : Shared), n - i = m → i ≤ n → St i s → (∀ b o, h0.get? b = some o → s.heap.get? b = some o) → (∃ L es ep t, D.Set s.heap a L es ep t ∧ KGot (ks.take i) L) →
      (∀ s' L es ep t, Moved (a :: wr) G s s' → D.Set s'.heap a L es ep t → KGot ks L → (∀ b o, h0.get? b = some o → s'.heap.get? b = some o) → R (.ok (.ret .none)) s') →
      codeAny (model P w) A (.builtin "set.update.loop" ⟨[.ref a, .ref I], []⟩) R s := by
  have aw : a ∉ wr := fun h => ha (W.sub _ h)
  have up : ∀ {s s' : Shared}, Moved wr G s s' → Moved (a :: wr) G s s' := fun hm => hm.mono fun b hb => List.mem_cons_of_mem _ hb
  have old : ∀ {s s' : Shared}, Moved wr G s s' → (∀ b o, h0.get? b = some o → s.heap.get? b = some o) → ∀ b o, h0.get? b = some o → s'.heap.get? b = some o := fun hm kp b o e =>
    hm.heap b o (fun hb => by rw [fr b (.inr hb)] at e; cases e) (kp b o e)
  have moved : ∀ {s s' : Shared} {i : Nat} {L es ep t}, Moved wr G s s' → (∀ b o, h0.get? b = some o → s'.heap.get? b = some o) → D.Set s.heap a L es ep t → KGot (ks.take i) L → D.Set s'.heap a L es ep t := fun hm kp S g =>
    S.on (fun o e => hm.heap a o aw e) fun p hp => KD.keepAll (mem p (List.mem_of_mem_take (g.sub p hp))) kp
  induction m with
  | zero =>
    intro i s hk hi st kp ⟨L, es, ep, t, S, g⟩ q
    have e : i = n := by omega
    subst e
    refine codeAny_builtin F.entry_set_update_loop ?_
    rw [Around.under_plainId F.plain_set_update_loop _]
    show wpAny _ A.in1 (pyNext (.ref I) >>= _) _ _ s
    refine wpAny_bind (W.done s _ _ st fun s' hm => ?_)
    show wpAny _ A.in1 (ret Value.none) _ _ s'
    have kp' := old hm kp
    have S' := moved hm kp' S g
    rw [hn, List.take_length] at g
    exact wpAny_pure (q s' L es ep t (up hm) S' g kp')
  | succ m ih =>
    intro i s hk hi st kp ⟨L, es, ep, t, S, g⟩ q
    have lt : i < n := by omega
    refine codeAny_builtin F.entry_set_update_loop ?_
    rw [Around.under_plainId F.plain_set_update_loop _]
    show wpAny _ A.in1 (pyNext (.ref I) >>= _) _ _ s
    refine wpAny_bind (W.item i s _ _ lt st fun v s' hv st' hm => ?_)
    obtain ⟨p, hp, rfl⟩ := val i v hv
    have kp' := old hm kp
    have S' := moved hm kp' S g
    have hx : D.here s'.heap p.2 p.1 := KD.keepAll (mem p (List.mem_of_getElem? hp)) kp'
    show wpAny _ A.in1 (holding [Value.ref p.1] (setAdd a (.ref p.1)) >>= _) _ _ s'
    unfold setAdd
    refine wpAny_bind (wpAny_holding (wpAny_holding (wpAny_bind (D.hash hu hx fun tk tle => ?_))))
    refine KD.Set.add (s := { s' with toks := tk }) S' g hx hu (by rw [List.length_take]; omega) fun b h' L' es' ep' t' sb S2 g2 => ?_
    rw [← take_next hp] at g2
    have fp' : ∀ b o, b ≠ a → s'.heap.get? b = some o → h'.get? b = some o := fun b o hb e => (sb.2 b hb).trans e
    refine wpAny_pure ⟨plainId_quiet F.plain_set_update_loop _, ih (i + 1) _ (by omega) lt (W.frame _ s' _ _ st' tle fun b hb o e => fp' b o (fun z => ha (z ▸ hb)) e) (fun b o e => fp' b o (fun z => by rw [z, fr a (.inl rfl)] at e; cases e) (kp' b o e)) ⟨L', es', ep', t', S2, g2⟩ fun s2 L2 es2 ep2 t2 m2 S3 g3 kp3 => ?_⟩
    exact q s2 L2 es2 ep2 t2 (Moved.trans W.gtrans ((up hm).then_heap tle fun b o hb e => fp' b o (fun z => hb (z ▸ List.mem_cons_self)) e) m2) S3 g3 kp3

theorem nw_set_keys {l : Addr} {items : Array Value} (ks : List (Addr × α)) {Q : Value → Shared → Prop} (hh : A.handled = none) (hl : s.heap.IsList l items) (hit : items.toList = ks.map fun p => Value.ref p.1) (mem : ∀ p ∈ ks, D.here s.heap p.2 p.1) (few : ks.length < 64) (hu : A.units + 3 < cLine)
    (h : ∀ (h' : Heap) (tk : Nat) L es ep t, D.Set h' s.heap.objs.size L es ep t → KGot ks L → (∀ b o, s.heap.get? b = some o → h'.get? b = some o) → Q (.ref s.heap.objs.size) { s with heap := h', toks := tk }) :
    wpAny (model P w) A (call (.type "set") [.ref l]) Q E s := by
  have hn : items.size = ks.length := by rw [← Array.length_toList, hit, List.length_map]
  obtain ⟨_, _, hmro⟩ := F.called_set.mro
  have f1 := F.called_set.made
  have f2 := F.called_set.sub
  have f3 := F.called_set.notType
  have f4 := F.called_set.canCreate
  have f5 := F.typeCall_set_1 (.ref l)
  refine wpAny_call (codeAny_of_tree ?_)
  show wpAny _ _ (callAny (.type "set") _) _ _ _
  refine wpAny_pure ⟨Code.quiet_builtin _ (by decide +kernel), codeAny_builtin F.entry_type_call ?_⟩
  rw [Around.under_plain (weight_type_call_type "set" [.ref l] []) rfl]
  repeat (any_goals (first | assumption | wp_step))
  refine codeAny_mono (code_set_led1 (.ref l) (E := E) (Q₁ := fun obj s₁ => obj = .ref s.heap.objs.size ∧ s₁ = { s with heap := s.heap.push (nwSet0 w) }) ⟨rfl, rfl⟩) fun r s₁ hr => ?_
  cases r with
  | error e => exact hr
  | ok fl => ?_
  cases fl with
  | next => exact hr.elim
  | brk => exact hr.elim
  | cont => exact hr.elim
  | ret obj =>
    obtain ⟨rfl, rfl⟩ := hr
    have hS : (s.heap.push (nwSet0 w)).get? s.heap.objs.size = some (nwSet0 w) := Heap.get?_push_size _ rfl
    have hT : Shared.TypeIs { s with heap := s.heap.push (nwSet0 w) } (.ref s.heap.objs.size) "set" := ⟨_, hS, rfl⟩
    have g1 := F.called_set.init.lookup
    have g2 := F.called_set.init.bind (.ref s.heap.objs.size)
    repeat (any_goals (first | assumption | wp_step))
    refine codeAny_mono (codeAny_call_builtin (R := wants (fun r s₂ => r = .none ∧ ∃ h' tk L es ep t, s₂ = { s with heap := h', toks := tk } ∧ D.Set h' s.heap.objs.size L es ep t ∧ KGot ks L ∧
        (∀ b o, s.heap.get? b = some o → h'.get? b = some o)) E) F.called_set.init.plain F.entry_set_init (check_set_init_1 hT ?_)) fun r₂ s₂ hr₂ => ?_
    · obtain ⟨⟨_, odict, _, oslots⟩, hol, hcl, nl, hdl⟩ := hl
      simp only at hcl hdl
      subst hcl; subst hdl
      have hl1 : (s.heap.push (nwSet0 w)).IsList l items := ⟨_, Heap.get?_push_of_some _ hol, rfl, nl, rfl⟩
      have hol' : (s.heap.push (nwSet0 w)).get? l = some { cls := .type "list", dict := odict, data := .seq items nl, slots := oslots } := Heap.get?_push_of_some _ hol
      have q1 := F.sub_list_set
      have q2 := F.sub_list_frozenset
      have hne : (Value.type "list" == Value.type "dict") = false := by decide
      unfold Builtin.«set.__init__» noKeywords Builtin.Frozenset.updateFrom
      generalize hPI : pyIter = PI
      wp_walk
      subst hPI
      refine wpAny_pyIter_list hl1 (wpAny_bind (wpAny_runValue ?_))
      have lt : l < s.heap.objs.size := Heap.lt_size hol
      have hh3 : A.in1.in1.in1.handled = none := by simp [hh]
      have sz : (s.heap.push (nwSet0 w)).objs.size = s.heap.objs.size + 1 := Heap.size_push ..
      have ne1 : l ≠ (s.heap.push (nwSet0 w)).objs.size := by rw [sz]; exact Nat.ne_of_lt (Nat.lt_succ_of_lt lt)
      have gone : ∀ b, s.heap.objs.size ≤ b → s.heap.get? b = none := fun b hb => by
        cases z : s.heap.get? b with
        | none => rfl
        | some o => exact absurd (Heap.lt_size z) (Nat.not_lt.mpr hb)
      refine KD.update (D := D) ((Walks.list hh3 _ l ne1 items).toS) s.heap.objs.size (by rw [sz]; simp only [List.mem_cons, List.not_mem_nil, or_false, not_or]; exact ⟨Nat.ne_of_lt (Nat.lt_succ_self _), Nat.ne_of_gt lt⟩) ks hn few (fun i v hv => ?_) s.heap mem
        (fun b hb => gone b ?_) hu (fun _ _ _ _ _ _ _ _ _ => trivial) (items.size - 0) 0 _ (by omega) (Nat.zero_le _) ⟨⟨_, Heap.get?_push_size _ rfl, rfl, rfl⟩, (hl1.push _)⟩ (fun b o e => Heap.get?_push_of_some _ (Heap.get?_push_of_some _ e))
        ⟨[], #[], 0, _, KD.fresh (Heap.get?_push_of_some _ hS), KGot.nil⟩ ?_
      · have z : items.toList[i]? = some v := by rw [Array.getElem?_toList]; exact hv
        rw [hit, List.getElem?_map] at z
        obtain ⟨p, hp, e⟩ := Option.map_eq_some_iff.mp z
        exact ⟨p, hp, e.symm⟩
      · rcases hb with rfl | hb
        · exact Nat.le_refl _
        · rw [List.mem_singleton.mp hb, sz]; exact Nat.le_succ _
      rintro ⟨h', g', d', tk', os'⟩ L es ep t hm S g kp
      cases (show g' = s.gens from hm.gens)
      cases (show d' = s.drawn from hm.drawn)
      cases (show os' = s.os from hm.os)
      show wpAny _ _ _ _ _ _
      refine wpAny_pure ?_
      show wpAny _ _ (ret Value.none) _ _ _
      exact wpAny_pure ⟨rfl, h', tk', L, es, ep, t, rfl, S, g, kp⟩
    · cases r₂ with
      | error e => exact hr₂
      | ok fl₂ => ?_
      cases fl₂ with
      | ret r =>
        obtain ⟨rfl, h', tk, L, es, ep, t, rfl, S, g, kp⟩ := hr₂
        repeat (any_goals (first | assumption | wp_step))
        exact h _ _ _ _ _ _ S g kp
      | next => exact hr₂.elim
      | brk => exact hr₂.elim
      | cont => exact hr₂.elim
/-- set.add -/
theorem nw_set_add {a x : Addr} {k : α} {done L : List (Addr × α)} {es : Array (Int × Value)} {ep : Nat} {t : SetTable} {Q : Value → Shared → Prop} (S : D.Set s.heap a L es ep t) (g : KGot done L) (hx : D.here s.heap k x) (hu : A.units + 3 < cLine) (few : done.length + 1 < 64)
    (h : ∀ h' tk L' es' ep' t', Heap.SameBut a s.heap h' → D.Set h' a L' es' ep' t' → KGot (done ++ [(x, k)]) L' → Q .none { s with heap := h', toks := tk }) : wpAny (model P w) A (call (.builtin "set.add") [.ref a, .ref x]) Q E s := by
  obtain ⟨o, o1, o2, _⟩ := S.ob
  refine wpAny_call_entry F.slot_set_add ⟨o, o1, o2.1⟩ F.entry_set_add ?_ (F.args_set_add_2 _ _)
  unfold Builtin.«set.add» Builtin.Frozenset.oneOther
  simp only [List.isEmpty_nil, bind_assoc]
  unfold Builtin.Frozenset.addrOf setAdd
  refine wpAny_bind (wpAny_pure ?_)
  try dsimp only
  refine wpAny_bind (wpAny_pure ?_)
  try dsimp only
  refine wpAny_bind (wpAny_holding (wpAny_bind (D.hash ?_ hx fun tk _ => ?_)))
  · show A.in1.units < cLine
    exact Nat.lt_of_lt_of_le (by show A.units + 1 < _; omega) (Nat.le_refl _)
  refine KD.Set.add (s := { s with toks := tk }) S g hx ?_ few fun b h' L' es' ep' t' sb S2 g2 => ?_
  · show A.in1.units < cLine
    exact Nat.lt_of_lt_of_le (by show A.units + 1 < _; omega) (Nat.le_refl _)
  show wpAny _ _ (ret Value.none) _ _ _
  exact wpAny_pure ⟨_, rfl, h h' tk L' es' ep' t' sb S2 g2⟩
end

/-! ### the order of tuples of texts -/
abbrev tkS (k : List PySem.Str) : List (Int ⊕ List Nat) := k.map fun x => Sum.inr x.cps.toList
/-- one tuple of texts ahead of another -/
def tlt (a b : List PySem.Str) : Bool := lexLt itemOrd (tkS a) (tkS b)
theorem tkS_inj : ∀ {a b : List PySem.Str}, tkS a = tkS b → a = b
  | [], [], _ => rfl
  | [], _ :: _, h => by cases h
  | _ :: _, [], h => by cases h
  | ⟨x⟩ :: a, ⟨y⟩ :: b, h => by
    injection h with h1 h2
    injection h1 with h1
    have e : x = y := Array.toList_inj.mp h1
    rw [tkS_inj h2, e]
theorem tlt_irr (a : List PySem.Str) : tlt a a = false := lex_irrefl _
theorem tlt_tr {a b c : List PySem.Str} (h : tlt a b = true) (k : tlt b c = true) : tlt a c = true := lex_trans _ _ _ h k
theorem tlt_tot {a b : List PySem.Str} (h : tlt a b = false) (k : tlt b a = false) : a = b := tkS_inj (lex_total _ _ h k)
section
variable {P : Program} {w : World} {A : Around} {E : Value → Shared → Prop} {s : Shared}
theorem items_all {k : List PySem.Str} {vs : List Value} (h : ItemsAre (PySem.strKind P w) k vs) : ∀ i, tupItems (fun _ => true) i vs = some (tkS k) := by
  induction h with
  | nil => intro i; rfl
  | @cons k0 v ks vs h1 _ ih =>
    intro i
    obtain ⟨t, rfl⟩ := Value.isStrOf_shape h1
    show (if true = true then (tupItems (fun _ => true) (i + 1) vs).map (Sum.inr k0.cps.toList :: ·) else none) = _
    rw [if_pos rfl, ih] <;> rfl
theorem key_at {h : Heap} {k : List PySem.Str} {b : Addr} (x : (kdS P w).here h k b) : tupKey h (fun _ => true) (.ref b) = some (tkS k) := by
  obtain ⟨o, its, n, e1, _, e2, e3⟩ := x
  show (match h.get? b with | some o => (match o.data with | .seq xs _ => tupItems (fun _ => true) 0 xs.toList | _ => none) | none => none) = _
  rw [e1]
  dsimp only
  rw [e2]
  exact items_all e3 0
theorem first_at {h : Heap} {k : List PySem.Str} {b : Addr} (x : (kdS P w).here h k b) (hk : k ≠ []) : ∃ f, TupOf h (fun _ => true) (.ref b) f := by
  obtain ⟨o, its, n, e1, e0, e2, e3⟩ := x
  cases k with
  | nil => exact absurd rfl hk
  | cons k0 k =>
    generalize hl : its.toList = l at e3
    cases e3 with
    | @cons _ v _ vs h1 _ =>
      obtain ⟨t, rfl⟩ := Value.isStrOf_shape h1
      refine ⟨.str k0 t, b, o, its, n, rfl, e1, e0, e2, ?_, nofun, fun _ => ⟨k0, t, rfl⟩⟩
      rw [← Array.getElem?_toList, hl] <;> rfl
/-- a list that stands for another one by f, in another order -/
theorem perm_lift {α β : Type} {f : α → β} {l m : List β} (h : l.Perm m) : ∀ L : List α, m = L.map f → ∃ L' : List α, L'.Perm L ∧ l = L'.map f := by
  induction h with
  | nil =>
    intro L e
    cases L with
    | nil => exact ⟨[], .refl _, rfl⟩
    | cons _ _ => cases e
  | cons x _ ih =>
    intro L e
    cases L with
    | nil => cases e
    | cons y L =>
      injection e with e1 e2
      obtain ⟨L', p, rfl⟩ := ih L e2
      exact ⟨y :: L', p.cons y, by rw [e1] <;> rfl⟩
  | swap x y l =>
    intro L e
    match L, e with
    | [], e => cases e
    | [_], e => cases e
    | a :: b :: L, e =>
      injection e with e1 e2
      injection e2 with e2 e3
      exact ⟨b :: a :: L, .swap a b L, by rw [e1, e2, e3] <;> rfl⟩
  | trans _ _ ih1 ih2 =>
    intro L e
    obtain ⟨L1, p1, e1⟩ := ih2 L e
    obtain ⟨L2, p2, e2⟩ := ih1 L1 e1
    exact ⟨L2, p2.trans p1, e2⟩
/-- what an address is sorted by -/
abbrev keyV (h : Heap) (v : Value) : List (Int ⊕ List Nat) := (tupKey h (fun _ => true) v).getD []
theorem swo_lexS (f : Value → List (Int ⊕ List Nat)) : SrtO.Swo fun v u => lexLt itemOrd (f v) (f u) := by
  refine ⟨fun x y h => ?_, fun x y z h1 h2 => ?_⟩
  · cases e : lexLt itemOrd (f y) (f x) with
    | false => rfl
    | true => exact absurd (lex_trans _ _ _ h e) (by rw [lex_irrefl]; exact Bool.false_ne_true)
  · cases e : lexLt itemOrd (f z) (f x) with
    | false => rfl
    | true =>
      rcases lex_negTrans _ (f y) _ e with c | c
      · rw [h2] at c; cases c
      · rw [h1] at c; cases c
theorem tups_of {h : Heap} : ∀ (vs : List Value), (∀ v ∈ vs, ∃ f, TupOf h (fun _ => true) v f) → ∃ fs, fs.length = vs.length ∧ TupsOf h (fun _ => true) vs fs
  | [], _ => ⟨[], rfl, .nil⟩
  | v :: vs, x => by
    obtain ⟨f, hf⟩ := x v List.mem_cons_self
    obtain ⟨fs, e, t⟩ := tups_of vs fun u hu => x u (List.mem_cons_of_mem _ hu)
    exact ⟨f :: fs, by rw [List.length_cons, List.length_cons, e], .cons hf t⟩
theorem sortableS {a : Addr} {L : List (Addr × List PySem.Str)} {vs : List Value} (hv : ∀ v ∈ vs, ∃ p ∈ L, v = Value.ref p.1) (mem : ∀ p ∈ L, (kdS P w).here s.heap p.2 p.1) (ne : ∀ p ∈ L, p.2 ≠ []) (ha : ∀ o, s.heap.get? a = some o → o.cls ≠ .type "tuple") (h2 : 2 ≤ vs.length) :
    SrtO.SortableO P w A s a vs fun v u => lexLt itemOrd (keyV s.heap v) (keyV s.heap u) := by
  intro h' keep
  have mem' : ∀ p ∈ L, (kdS P w).here h' p.2 p.1 := fun p hp => (kdS P w).mono (mem p hp) fun c o e hc => keep c o (fun z => by subst z; exact ha o e hc) e
  obtain ⟨fs, fl, ft⟩ := tups_of (h := h') vs fun v z => by
    obtain ⟨p, hp, rfl⟩ := hv v z
    exact first_at (mem' p hp) (ne p hp)
  have ks : ∀ v ∈ vs, tupKey h' (fun _ => true) v = some (keyV s.heap v) := fun v z => by
    obtain ⟨p, hp, rfl⟩ := hv v z
    show _ = some ((tupKey s.heap (fun _ => true) (.ref p.1)).getD [])
    rw [key_at (mem' p hp), key_at (mem p hp)] <;> rfl
  refine ⟨tuples' true, fun Q E q => tup_kind (s := { s with heap := h' }) (by omega) ft q, fun p q hp hq => ?_⟩
  exact tup_ltAt (s := { s with heap := h' }) true _ _ p.1 q.1 _ _ (ks _ hp) (ks _ hq) ⟨rfl, rfl⟩

/-- sorted(set) -/
theorem nw_sorted {a : Addr} {L : List (Addr × List PySem.Str)} {es : Array (Int × Value)} {ep : Nat} {t : SetTable} {Q : Value → Shared → Prop} (R : (kdS P w).Set s.heap a L es ep t) (hh : A.handled = none) (ne : ∀ p ∈ L, p.2 ≠ [])
    (q : ∀ s' p (out : Array Value) (c : Nat) (L' : List (Addr × List PySem.Str)), (∀ b o, s.heap.get? b = some o → s'.heap.get? b = some o) → s'.gens = s.gens → s'.os = s.os → s.heap.objs.size ≤ p →
      s'.heap.get? p = some (seqObj "list" out c) → out.toList = L'.map (fun p => Value.ref p.1) → L'.Perm L → L'.Pairwise (fun p r => tlt p.2 r.2 = true) → Q (.ref p) s') : wpAny (model P w) A (call (.builtin "sorted") [.ref a]) Q E s := by
  obtain ⟨o, o1, o2, o3⟩ := R.ob
  have n1 := R.size
  have few := R.few
  refine Calls.call_function_entry kind_sorted plain_sorted entry_sorted (args_sorted1 _) ?_
  unfold Builtin.«sorted»
  refine wpAny_bind (m := checkCount "sorted" 1 1 _) (wpAny_pure ?_)
  refine wpAny_bind (collect_set (A := A.in1) hh ⟨o, o1, o2.1, o3⟩ R.fits (by unfold scanBound; omega) R.tb.ris R.ld fun s1 vs k1 z1 g1 os1 pm => ?_)
  have ev : es.toList.map (·.2) = L.map fun p => Value.ref p.1 := by rw [R.rw', KD.rows, List.map_map] <;> rfl
  rw [ev] at pm
  have vl : vs.length < 64 := by rw [pm.length_eq, List.length_map]; exact few
  have hv : ∀ v ∈ vs, ∃ p ∈ L, v = Value.ref p.1 := fun v z => by
    obtain ⟨p, hp, e⟩ := List.mem_map.mp (pm.mem_iff.mp z)
    exact ⟨p, hp, e.symm⟩
  refine wpAny_bind (wpAny_newList ?_ (by rw [sizeLine_eq]; omega))
  have hL : (s1.heap.push (seqObj "list" vs.toArray 0)).get? s1.heap.objs.size = some (seqObj "list" vs.toArray 0) := Heap.get?_push_size _ rfl
  have mem1 : ∀ p ∈ L, (kdS P w).here (s1.heap.push (seqObj "list" vs.toArray 0)) p.2 p.1 := fun p hp => KD.keepAll (D := kdS P w) (R.mem p hp) fun b u e => Heap.get?_push_of_some _ (k1 b u e)
  have nt : ∀ o, (s1.heap.push (seqObj "list" vs.toArray 0)).get? s1.heap.objs.size = some o → o.cls ≠ .type "tuple" := fun o e => by
    rw [hL] at e
    cases e
    intro c
    exact absurd (Value.type.inj c) (by decide)
  refine wpAny_bind (wpAny_holding (wpAny_call_entry slot_list_sort ⟨_, hL, rfl⟩ entry_list_sort (SrtO.list_sort_ord (s := { s1 with heap := s1.heap.push (seqObj "list" vs.toArray 0) }) (swo_lexS (keyV (s1.heap.push (seqObj "list" vs.toArray 0)))) hL (by rw [sizeLine_eq]; omega)
    (fun h2 => sortableS (s := { s1 with heap := s1.heap.push (seqObj "list" vs.toArray 0) }) hv mem1 ne nt h2) fun out hs hb => ⟨_, rfl, ?_⟩) (args_list_sort _)))
  obtain ⟨L', p1, p2⟩ := perm_lift (hb.perm.trans pm) L rfl
  obtain ⟨c, hc⟩ := sortedHeap_at (vs := vs) (out := out.toArray) hL
  have key : ∀ p ∈ L', keyV (s1.heap.push (seqObj "list" vs.toArray 0)) (.ref p.1) = tkS p.2 := fun p hp => by
    show (tupKey _ _ _).getD [] = _
    rw [key_at (mem1 p (p1.mem_iff.mp hp))] <;> rfl
  have nd' : L'.Pairwise fun p r => p.2 ≠ r.2 := by
    have := (p1.map Prod.snd).nodup_iff.mpr R.nd
    exact List.pairwise_map.mp this
  have pw : L'.Pairwise fun p r => tlt p.2 r.2 = true := by
    rw [p2] at hs
    refine List.Pairwise.imp_of_mem (R := fun p r => lexLt itemOrd (keyV (s1.heap.push (seqObj "list" vs.toArray 0)) (.ref r.1)) (keyV (s1.heap.push (seqObj "list" vs.toArray 0)) (.ref p.1)) = false ∧ p.2 ≠ r.2) (fun {p r} hp hr ⟨h1, h2⟩ => ?_) ((List.pairwise_map.mp hs).and nd')
    rw [key p hp, key r hr] at h1
    cases e : tlt p.2 r.2 with
    | true => rfl
    | false => exact absurd (tlt_tot e h1) h2
  refine wpAny_pure ⟨_, rfl, q _ s1.heap.objs.size out.toArray c L' (fun b u e => ?_) g1 os1 z1 hc (by simpa using p2) p1 pw⟩
  have e1 := k1 b u e
  have lt := Heap.lt_size e1
  show (sortedHeap (s1.heap.push (seqObj "list" vs.toArray 0)) s1.heap.objs.size vs out.toArray).get? b = some u
  rw [sortedHeap_old (Nat.ne_of_lt lt) (by rw [size_push']; exact Nat.lt_succ_of_lt lt)]
  exact Heap.get?_push_of_some _ e1
end
end NW
set_option maxHeartbeats 3200000
/-! Sets of tuples of texts as tracked things: set(xs), sorted(set), {elt for target in iter}. -/
namespace NW
open PySem PySem.Spec PyProof.Rows L2
section
variable {P : Program} {w : World} {α : Type} [DecidableEq α]
def KD.Set0 (D : KD P w α) (h : Heap) (a : Addr) (L : List (Addr × α)) : Prop := ∃ (es : Array (Int × Value)) (ep : Nat) (t : SetTable), (∃ o, h.get? a = some o ∧ o.ExactSet ∧ o.data = .set es ep t) ∧ es.toList = D.rows L ∧ TabOk t (D.codes L) ∧ (L.map Prod.snd).Nodup ∧
  (w.params.followText "set-order" = true ∨ t.led = true) ∧ 5 * L.length < 3 * t.mask ∧ L.length < 64
theorem KD.Set.bare {D : KD P w α} {h : Heap} {a : Addr} {L : List (Addr × α)} {es : Array (Int × Value)} {ep : Nat} {t : SetTable} (S : D.Set h a L es ep t) : D.Set0 h a L := ⟨es, ep, t, S.ob, S.rw', S.tb, S.nd, S.ld, S.room, S.few⟩
theorem KD.Set0.full {D : KD P w α} {h : Heap} {a : Addr} {L : List (Addr × α)} (S : D.Set0 h a L) (m : ∀ p ∈ L, D.here h p.2 p.1) : ∃ es ep t, D.Set h a L es ep t :=
  let ⟨es, ep, t, a1, a2, a3, a4, a6, a7, a8⟩ := S
  ⟨es, ep, t, a1, a2, a3, a4, m, a6, a7, a8⟩
/-- a tracked set of tuples of texts -/
def SetKO (P : Program) (w : World) (a : Addr) (L : List (Addr × List Str)) : HO := .ext fun h => (kdS P w).Set0 h a L
theorem setKO_ok {H : Hp} {h : Heap} {a : Addr} {L : List (Addr × List Str)} (S : (kdS P w).Set0 h a L) : ObjOk P w H h a (SetKO P w a L) := by
  have ⟨_, _, _, ⟨o, e, _⟩, _⟩ := S
  refine ⟨S, ⟨o, e⟩, fun h1 h2 S1 k => ?_⟩
  have ⟨es1, ep1, t1, ⟨o1, e1, r1⟩, r2⟩ := S1
  exact ⟨es1, ep1, t1, ⟨o1, k o1 e1, r1⟩, r2⟩
theorem items_strs : ∀ {k : List Str} {us : List Value}, Vals (k.map V.str) us → ItemsAre (PySem.strKind P w) k us
  | [], _, .nil => .nil
  | x :: k, _, .cons r t => by
    obtain ⟨tk, rfl⟩ := r
    exact .cons (strKind_is P w x tk) (items_strs t)
theorem refs_addr {β : Type} : ∀ {L : List (Addr × β)} {us : List Value}, Vals (L.map fun p => V.ref p.1) us → us = L.map fun p => Value.ref p.1
  | [], _, .nil => rfl
  | p :: L, _, .cons r t => by cases r; rw [refs_addr t] <;> rfl
theorem addr_refs {β : Type} : ∀ (L : List (Addr × β)), Vals (L.map fun p => V.ref p.1) (L.map fun p => Value.ref p.1)
  | [] => .nil
  | _ :: L => .cons rfl (addr_refs L)
end
section
variable {X : Cx} {pins : List (Addr × Obj)} {σ : Sl} {H : Hp} {s : Shared}
/-- all of L are tuples of their texts -/
abbrev AllT (K : PySem.W.Frag) (H : Hp) (L : List (Addr × List Str)) : Prop := ∀ p ∈ L, SqT K H p.1 (p.2.map V.str)
theorem here_of (I : Inv X pins σ H s) {b : Addr} {k : List Str} (h : SqT X.K H b (k.map V.str)) : (kdS X.prog X.w).here s.heap k b := by
  obtain ⟨its, r, ⟨o, e1, e2, n, e3⟩, _⟩ := I.tuple h
  exact ⟨o, its.toArray, n, e1, e2, e3, by simpa using items_strs r⟩
def rSetK (K : PySem.W.Frag) (P : Program) (w : World) : List V → Hp → VK → Prop := fun vs H Q => ∃ (l : Addr) (L0 : List (Addr × List Str)), vs = [V.ref l] ∧ SqL K H l (L0.map fun p => V.ref p.1) ∧ AllT K H L0 ∧ L0.length < 64 ∧
  ∀ a L, H a = none → KGot L0 L → Q (.ref a) (upd H a (SetKO P w a L))
theorem cr_setK (hc : X.calm = true) (hu : X.A.units + 64 < cLine) : CallR X (.type "set") (rSetK X.K X.prog X.w) := by
  intro pins s σ H vs us Q I r h
  obtain ⟨l, L0, rfl, hl, ht, few, q⟩ := h
  rw [Vals.ref1 r]
  obtain ⟨its, rv, pl, _⟩ := I.list hl
  refine nw_set_keys (D := kdS X.prog X.w) L0 (I.ok.hd hc) pl.isList (by simpa using refs_addr rv) (fun p hp => here_of I (ht p hp)) few (by omega) fun h' tk L es ep t S g k => ?_
  exact ⟨.ref s.heap.objs.size, _, I.laid (t' := tk) k (Nat.le_refl _) (setKO_ok S.bare), rfl, q _ L (I.hok.fresh (Nat.le_refl _)) g⟩
def rSortK (K : PySem.W.Frag) (P : Program) (w : World) : List V → Hp → VK → Prop := fun vs H Q => ∃ (a : Addr) (L : List (Addr × List Str)), vs = [V.ref a] ∧ H a = some (SetKO P w a L) ∧ AllT K H L ∧ (∀ p ∈ L, p.2 ≠ []) ∧
  ∀ (L' : List (Addr × List Str)) (p : Addr), L'.Perm L → L'.Pairwise (fun q r => tlt q.2 r.2 = true) → H p = none → Q (.ref p) (upd H p (.lst (L'.map fun q => V.ref q.1)))
theorem cr_sortK (hc : X.calm = true) : CallR X (.builtin "sorted") (rSortK X.K X.prog X.w) := by
  intro pins s σ H vs us Q I r h
  obtain ⟨a, L, rfl, ha, ht, ne, q⟩ := h
  rw [Vals.ref1 r]
  have S0 : (kdS X.prog X.w).Set0 s.heap a L := (I.hok a _ ha).1
  obtain ⟨es, ep, t, S⟩ := S0.full fun p hp => here_of I (ht p hp)
  refine nw_sorted S (I.ok.hd hc) ne fun s' p out c L' k g o hp hg ho pm pw => ?_
  have fr : H p = none := I.hok.fresh hp
  have ll : (L'.map fun q => V.ref q.1).length ≤ sizeLine := by rw [List.length_map, sizeLine_eq, pm.length_eq]; have := S.few; omega
  obtain ⟨h', g', d', t', o'⟩ := s'
  cases (show g' = s.gens from g)
  cases (show o' = s.os from o)
  have J : Inv X pins σ (upd H p (.lst (L'.map fun q => V.ref q.1))) { s with heap := h', drawn := d', toks := t' } :=
    I.call (ch := []) (Un.laid k hp fr) (I.hok.laid k hp ⟨ll, out.toList, c, by rw [ho]; exact addr_refs L', by simpa using hg⟩) I.bare (fun _ z => nomatch z)
  exact ⟨.ref p, _, J, rfl, q L' p pm pw fr⟩
/-- set.add of a tuple of texts -/
theorem addK_ok {E : Value → Shared → Prop} {S a : Addr} {k : List Str} {done L : List (Addr × List Str)} {Q : Value → Shared → Prop} (I : Inv X pins σ H s) (hS : H S = some (SetKO X.prog X.w S L)) (g : KGot done L) (ht : AllT X.K H L) (ha : SqT X.K H a (k.map V.str)) (few : done.length + 1 < 64) (hu : X.A.units + 64 < cLine)
    (h : ∀ s' L', KGot (done ++ [(a, k)]) L' → Inv X pins σ (upd H S (SetKO X.prog X.w S L')) s' → Q .none s') : wpAny (model X.prog X.w) X.A (call (.builtin "set.add") [.ref S, .ref a]) Q E s := by
  have S0 : (kdS X.prog X.w).Set0 s.heap S L := (I.hok S _ hS).1
  obtain ⟨es, ep, t, S1⟩ := S0.full fun p hp => here_of I (ht p hp)
  refine nw_set_add S1 g (here_of I ha) (by omega) few fun h' tk L' es' ep' t' sb S2 g2 => ?_
  have ob : ∃ u, h'.get? S = some u := let ⟨o, e, _⟩ := S2.ob; ⟨o, e⟩
  exact h _ L' g2 (I.write (e := S) (t' := tk) (by rw [hS]; trivial) (.inl rfl) (fun b u hb e => (sb.2 b hb).trans e) ob (setKO_ok S2.bare))
end

/-! ### {elt for target in iter if ..} -/
section
variable {X : Cx}
/-- what stands at the end of a turn that put y in -/
def PutK (K : PySem.W.Frag) (P : Program) (w : World) (S : Addr) (y : V) (H : Hp) (Nx : Hp → Prop) : Prop := ∃ (a : Addr) (k : List Str) (done L : List (Addr × List Str)), y = .ref a ∧ H S = some (SetKO P w S L) ∧ KGot done L ∧ AllT K H L ∧ SqT K H a (k.map V.str) ∧ done.length + 1 < 64 ∧
  ∀ L', KGot (done ++ [(a, k)]) L' → Nx (upd H S (SetKO P w S L'))
def tSk (K : PySem.W.Frag) (P : Program) (w : World) (wi : TI) (g : TG) (tt : TT) (te : TE) (vs : List Nat) : TE := fun σ H Q => wi σ H fun J H1 => ∀ S, H1 S = none → ∃ W : Nat → Nat → Hp → Prop, (∃ m, W 0 m (upd H1 S (SetKO P w S []))) ∧ ∀ i m H, W i m H →
  (J.stop i H ∧ Q (.ref S) H) ∨ (J.go i H ∧ ∃ Nx : Hp → Prop, (∀ H', Nx H' → ∃ m', m' < m ∧ W (i + 1) m' H') ∧ ∀ x H', J.yld i H x H' → g x (wipe σ vs) H' fun σ2 H2 => wipe σ2 vs = wipe σ vs ∧ tt σ2 H2 fun b H3 =>
    if b = true then te σ2 H3 fun y H4 => PutK K P w S y H4 Nx else Nx H3)
theorem nw_setcomp {pins : List (Addr × Obj)} {s : Shared} {σ : Sl} {H : Hp} {Q : VK} {elt tg iter : Expr} {ifs : List Expr} {scope : Scope} {own : List (Str × Nat)} {pos pos' : Pos} {wi : TI} {g : TG} {tt : TT} {te : TE} {use : Option (Value → Sem Unit)} {Qf : Value → Shared → Prop}
    (hc : X.calm = true) (hu : X.A.units + 64 < cLine) (hN : X.N.Nodup) (I : Inv X pins σ H s) (hi : PI X tg iter wi) (ok : BlkOk X.N X.env.scope scope own)
    (hg : ∀ (s : Shared) (H : Hp) (C : Addr) (cl : List (Str × Addr)) (fp : List Addr), PG (X.blk s H scope (compEnvC scope cl C X.env) fp) tg g) (ht : ∀ (s : Shared) (H : Hp) (C : Addr) (cl : List (Str × Addr)) (fp : List Addr), PTs (X.blk s H scope (compEnvC scope cl C X.env) fp) ifs tt)
    (he : ∀ (s : Shared) (H : Hp) (C : Addr) (cl : List (Str × Addr)) (fp : List Addr), PE (X.blk s H scope (compEnvC scope cl C X.env) fp) elt te) (hs : ∀ x, foldedSetIterable iter X.env x = pure x)
    (h : tSk X.K X.prog X.w wi g tt te (own.map (·.2)) σ H Q)
    (fin : ∀ S C s' m H', Inv X pins σ H' s' → Q (.ref S) H' → s'.heap.Ns C m → FpOk X pins H' C → compPost (model X.prog X.w) X.A X.xe use Qf (.ref S) C (.ok .next) s') :
    wpAny (model X.prog X.w) X.A (comprehension (.SetComp elt [⟨tg, iter, ifs, 0⟩] scope pos) scope X.env pos' (newSet (.type "set")) false (eval iter X.env) use) Qf X.xe s := by
  refine wpAny_comprehension_free (use := use) rfl hs (closure_ok fun y hy e => ?_) ok.kind (fun y hy e => by rw [ok.uniq y hy, e]) (thn (hi.run pins s σ H _ I h) fun xv s1 hx => thn hx fun itv s2 h2 => ?_)
  · rcases ok.free y hy e with k | k
    · exact I.ok.has _ (.inl k)
    · exact I.ok.has _ (.inr k)
  obtain ⟨it, fp, tn, J, H2, rfl, I2, T, st2, f2, q⟩ := h2
  refine PpSet.newSet_ok (newEnv_comp ?_)
  have fr : H2 s2.heap.objs.size = none := I2.hok.fresh (Nat.le_refl _)
  obtain ⟨W, ⟨m0, w0⟩, turn⟩ := q _ fr
  have below : ∀ b ∈ fp, b < s2.heap.objs.size := fun b hb => let ⟨o, e, _⟩ := T.obj _ _ st2 b hb; Heap.lt_size e
  have ob : (s2.heap.push (nwSet0 X.w)).get? s2.heap.objs.size = some (nwSet0 X.w) := Heap.get?_push_size _ rfl
  -- the new set
  have I3 : Inv X pins σ (upd H2 s2.heap.objs.size (SetKO X.prog X.w s2.heap.objs.size [])) { s2 with heap := s2.heap.push (nwSet0 X.w) } :=
    I2.laid (t' := s2.toks) (fun b o e => Heap.get?_push_of_some _ e) (Nat.le_refl _) (setKO_ok (KD.fresh ob).bare)
  have f3 : ∀ b ∈ fp, FpOk X pins (upd H2 s2.heap.objs.size (SetKO X.prog X.w s2.heap.objs.size [])) b ∧ b < (s2.heap.push (nwSet0 X.w)).objs.size := fun b hb => by
    have lt := below b hb
    refine ⟨⟨?_, (f2 b hb).2⟩, by rw [Heap.size_push]; exact Nat.lt_succ_of_lt lt⟩
    rw [upd_ne (Nat.ne_of_lt lt)]
    exact (f2 b hb).1
  have st3 : tn 0 (s2.heap.push (nwSet0 X.w)) := T.keep _ _ _ st2 fun b _ o e => Heap.get?_push_of_some _ e
  change codeAny _ _ _ _ _
  have goal : ∀ s3 : Shared, { s2 with heap := s2.heap.push (nwSet0 X.w) } = s3 → codeAny (model X.prog X.w) X.A (.compStart (.SetComp elt [⟨tg, iter, ifs, 0⟩] scope pos) 0 (.ref it) (.ref s2.heap.objs.size) (compEnvC scope (cellsFrom (s3.heap.objs.size + 1) scope.names (cloFrom X.env.cells scope.names [])) s3.heap.objs.size X.env))
      (compPost (model X.prog X.w) X.A X.xe use Qf (.ref s2.heap.objs.size) s3.heap.objs.size) { s3 with heap := pushCells (s3.heap.push { cls := .type "dict", data := .dict #[] }) scope.names } := by
    intro s3 es3
    have hp3 : s2.heap.push (nwSet0 X.w) = s3.heap := by rw [← es3]
    rw [hp3] at f3 st3
    rw [es3] at I3
    generalize s2.heap.objs.size = S at *
    generalize hH3 : upd H2 S (SetKO X.prog X.w S []) = H3 at *
    have I4 := block_start I3 ok hN f3
    have pg := hg s3 H3 s3.heap.objs.size (cellsFrom (s3.heap.objs.size + 1) scope.names (cloFrom X.env.cells scope.names [])) fp
    have pt := ht s3 H3 s3.heap.objs.size (cellsFrom (s3.heap.objs.size + 1) scope.names (cloFrom X.env.cells scope.names [])) fp
    have pe := he s3 H3 s3.heap.objs.size (cellsFrom (s3.heap.objs.size + 1) scope.names (cloFrom X.env.cells scope.names [])) fp
    have nf : ∀ b ∈ fp, H3 b = none := fun b hb => (f3 b hb).1.1
    generalize hce : compEnvC scope (cellsFrom (s3.heap.objs.size + 1) scope.names (cloFrom X.env.cells scope.names [])) s3.heap.objs.size X.env = ce at I4 pg pt pe ⊢
    have cl : ce.locals = s3.heap.objs.size := by subst hce; rfl
    generalize hs4 : ({ s3 with heap := pushCells (s3.heap.push { cls := .type "dict", data := .dict #[] }) scope.names } : Shared) = s4 at I4 ⊢
    have st4 : tn 0 s4.heap := T.keep _ _ _ st3 fun b _ o e => by rw [← hs4]; exact pushCells_keeps _ _ _ _ (Heap.get?_push_of_some _ e)
    have foot : ∀ {σ' : Sl} {H' : Hp} {s' : Shared}, Inv (X.blk s3 H3 scope ce fp) [] σ' H' s' → (∀ b ∈ fp, H' b = none) → ∀ b ∈ fp, FpOk (X.blk s3 H3 scope ce fp) [] H' b := fun {σ' H' s'} I' hn b hb =>
      ⟨hn b hb, (I'.ok.exf b hb).1, I'.ok.exfs b hb, .inl hb, fun x c e => (I'.ok.exf b hb).2 x c e, fun p hp => absurd (show p ∈ ([] : List (Addr × Obj)) ++ [] from hp) (by simp)⟩
    have loop : codeAny (model X.prog X.w) X.A (.compLoop (.SetComp elt [⟨tg, iter, ifs, 0⟩] scope pos) 0 (.ref it) (.ref S) ce) (compPost (model X.prog X.w) X.A X.xe use Qf (.ref S) s3.heap.objs.size) s4 := by
      refine PpSet.compLoopS_any (fun n s' => ∃ i H', Inv (X.blk s3 H3 scope ce fp) [] (wipe σ (own.map (·.2))) H' s' ∧ tn i s'.heap ∧ (∀ b ∈ fp, H' b = none) ∧ W i n H') ?_ m0 ⟨0, H3, I4, st4, nf, w0⟩
      rintro n s5 ⟨i, H5, I5, st5, n5, w5⟩
      rcases turn i n H5 w5 with ⟨stop, qq⟩ | ⟨go, Nx, nx1, step⟩
      · refine thnF (T.done (X.blk s3 H3 scope ce fp) rfl rfl rfl hc i [] s5 _ H5 (fun _ _ => False) I5 (foot I5 n5) st5 stop) fun r s6 ⟨hr, I6⟩ => ?_
        subst hr
        have I7 : Inv X pins σ H5 s6 := I3.call' (ch := fp) I6.os I6.base I6.hok I6.bare fun b hb => ⟨(f3 b hb).1.2.2.2.1, (f3 b hb).1.2.1, (f3 b hb).1.2.2.2.2.1, (f3 b hb).1.2.2.2.2.2⟩
        have nC : H5 ce.locals = none := I6.free
        obtain ⟨m, hn, _⟩ := I6.loc
        have hn : s6.heap.Ns ce.locals m := hn
        rw [cl] at hn nC
        exact fin S s3.heap.objs.size s6 m H5 I7 qq hn (I3.fpOk (Nat.le_refl _) nC)
      · refine thnF (T.item (X.blk s3 H3 scope ce fp) rfl rfl rfl hc i [] s5 _ H5 (fun _ _ => False) I5 (foot I5 n5) st5 go) fun r s6 ⟨u, hr, h6⟩ => ?_
        subst hr
        refine thnF h6 fun _ s7 ⟨x, H7, I7, r7, y7, st7, n7⟩ => ?_
        refine thnF (pg.run _ s7 _ H7 x u _ (I7.pinned (foot I7 n7) (T.obj _ _ st7)) r7 (step x H7 y7)) fun _ s8 ⟨σ8, H8, I8, hw8, q8⟩ => ?_
        refine thnF (pt.run _ s8 σ8 H8 _ I8 q8) fun b s9 ⟨H9, I9, q9⟩ => ?_
        have next : ∀ {s' : Shared} {H' : Hp}, Inv (X.blk s3 H3 scope ce fp) ([] ++ pinsAt fp s7.heap) σ8 H' s' → Nx H' → ∃ m, m < n ∧ ∃ i H', Inv (X.blk s3 H3 scope ce fp) [] (wipe σ (own.map (·.2))) H' s' ∧ tn i s'.heap ∧ (∀ b ∈ fp, H' b = none) ∧ W i m H' := fun {s' H'} I' nx => by
          obtain ⟨m', hm, w'⟩ := nx1 H' nx
          have pin : ∀ b ∈ fp, ∀ o, s7.heap.get? b = some o → s'.heap.get? b = some o ∧ H' b = none := fun b hb o e => by
            have z := I'.pin (b, o) (List.mem_append_right _ (List.mem_append_right _ (mem_pinsAt hb e)))
            exact ⟨z.1, z.2.1⟩
          refine ⟨m', hm, i + 1, H', (I'.unpinned (pins := [])).weak (by rw [← hw8, wipe_length]) (fun j v e => ?_), T.keep _ _ _ st7 fun b hb o e => (pin b hb o e).1, fun b hb => ?_, w'⟩
          · rw [← hw8] at e
            exact (wipe_some e).1
          · obtain ⟨o, e, _⟩ := T.obj _ _ st7 b hb
            exact (pin b hb o e).2
        cases b with
        | false =>
          simp only [Bool.false_eq_true, if_false] at q9 ⊢
          exact next I9 q9
        | true =>
          simp only [if_true] at q9 ⊢
          refine thnF (pe.run _ s9 σ8 H9 _ I9 q9) fun z s10 ⟨yv, H10, I10, r10, a, k, done, L, ey, e1, e2, e3, e4, e5, e6⟩ => ?_
          subst ey
          cases (show z = Value.ref a from r10)
          exact addK_ok (X := X.blk s3 H3 scope ce fp) I10 e1 e2 e3 e4 e5 hu fun s11 L' g2 I11 => next I11 (e6 L' g2)
    exact PpSet.codeAny_compStart_set loop (T.self X.A 0 _ _ _ st4 loop)
  exact goal _ rfl
theorem pe_setcomp {elt tg iter : Expr} {ifs : List Expr} {scope : Scope} {own : List (Str × Nat)} {pos : Pos} {wi : TI} {g : TG} {tt : TT} {te : TE} (hc : X.calm = true) (hu : X.A.units + 64 < cLine) (hN : X.N.Nodup) (hi : PI X tg iter wi) (ok : BlkOk X.N X.env.scope scope own)
    (hg : ∀ (s : Shared) (H : Hp) (C : Addr) (cl : List (Str × Addr)) (fp : List Addr), PG (X.blk s H scope (compEnvC scope cl C X.env) fp) tg g) (ht : ∀ (s : Shared) (H : Hp) (C : Addr) (cl : List (Str × Addr)) (fp : List Addr), PTs (X.blk s H scope (compEnvC scope cl C X.env) fp) ifs tt)
    (he : ∀ (s : Shared) (H : Hp) (C : Addr) (cl : List (Str × Addr)) (fp : List Addr), PE (X.blk s H scope (compEnvC scope cl C X.env) fp) elt te) (hs : ∀ x, foldedSetIterable iter X.env x = pure x) :
    PE X (.SetComp elt [⟨tg, iter, ifs, 0⟩] scope pos) (tSk X.K X.prog X.w wi g tt te (own.map (·.2))) := by
  refine ⟨fun pins s σ H Q I h => ?_⟩
  rw [PpSet.eval_SetComp]
  refine nw_setcomp hc hu hN I hi ok hg ht he hs h fun S C s' m H' I' q hn f => ⟨m, hn, fun h'' sb => ?_⟩
  obtain ⟨f0, f1, f2, f3, f4, f5⟩ := f
  exact ⟨.ref S, H', I'.turned (t' := s'.toks) (fun b o hb e => (sb.2 b hb).trans e) f0 f1 f3 f4 f5, rfl, q⟩
end
end NW
set_option maxHeartbeats 3200000
/-! sorted(set(list of tuples of texts)), sorted({elt for target in iter}) as rules of data. -/
namespace NW
open PySem PySem.Spec PyProof.Rows L2
/-! ### the order of tuples of texts, sorted without doubles -/
def insT (k : List Str) : List (List Str) → List (List Str)
  | [] => [k]
  | x :: xs => if tlt k x = true then k :: x :: xs else if tlt x k = true then x :: insT k xs else x :: xs
def sortT (ks : List (List Str)) : List (List Str) := ks.foldr insT []
theorem mem_insT {k j : List Str} : ∀ {xs : List (List Str)}, j ∈ insT k xs ↔ j = k ∨ j ∈ xs
  | [] => by simp [insT]
  | x :: xs => by
    unfold insT
    split
    · simp
    · rename_i h1
      split
      · simp only [List.mem_cons, mem_insT (xs := xs)]
        constructor
        · rintro (h | h | h)
          · exact .inr (.inl h)
          · exact .inl h
          · exact .inr (.inr h)
        · rintro (h | h | h)
          · exact .inr (.inl h)
          · exact .inl h
          · exact .inr (.inr h)
      · rename_i h2
        have e : k = x := tlt_tot (by simpa using h1) (by simpa using h2)
        subst e
        simp
theorem pw_insT {k : List Str} : ∀ {xs : List (List Str)}, xs.Pairwise (fun a b => tlt a b = true) → (insT k xs).Pairwise (fun a b => tlt a b = true)
  | [], _ => by simp [insT]
  | x :: xs, h => by
    obtain ⟨h1, h2⟩ := List.pairwise_cons.mp h
    unfold insT
    split
    · rename_i hk
      refine List.pairwise_cons.mpr ⟨fun j hj => ?_, h⟩
      rcases List.mem_cons.mp hj with rfl | hj
      · exact hk
      · exact tlt_tr hk (h1 j hj)
    · split
      · rename_i hx
        refine List.pairwise_cons.mpr ⟨fun j hj => ?_, pw_insT h2⟩
        rcases mem_insT.mp hj with rfl | hj
        · exact hx
        · exact h1 j hj
      · exact h
theorem mem_sortT {j : List Str} : ∀ {ks : List (List Str)}, j ∈ sortT ks ↔ j ∈ ks
  | [] => Iff.rfl
  | k :: ks => by
    show j ∈ insT k (sortT ks) ↔ _
    rw [mem_insT, mem_sortT (ks := ks), List.mem_cons]
theorem pw_sortT : ∀ {ks : List (List Str)}, (sortT ks).Pairwise (fun a b => tlt a b = true)
  | [] => .nil
  | _ :: ks => pw_insT (pw_sortT (ks := ks))
theorem sortT_uniq : ∀ {xs ys : List (List Str)}, xs.Pairwise (fun a b => tlt a b = true) → ys.Pairwise (fun a b => tlt a b = true) → (∀ j, j ∈ xs ↔ j ∈ ys) → xs = ys
  | [], [], _, _, _ => rfl
  | [], y :: ys, _, _, h => by have := (h y).mpr (by simp); simp at this
  | x :: xs, [], _, _, h => by have := (h x).mp (by simp); simp at this
  | x :: xs, y :: ys, hx, hy, h => by
    obtain ⟨hx1, hx2⟩ := List.pairwise_cons.mp hx
    obtain ⟨hy1, hy2⟩ := List.pairwise_cons.mp hy
    have no : ∀ {a b : List Str}, tlt a b = true → tlt b a = true → False := fun h k => by
      have := tlt_tr h k
      rw [tlt_irr] at this
      cases this
    have e : x = y := by
      rcases List.mem_cons.mp ((h x).mp (by simp)) with a | a
      · exact a
      · rcases List.mem_cons.mp ((h y).mpr (by simp)) with b | b
        · exact b.symm
        · exact (no (hy1 x a) (hx1 y b)).elim
    subst e
    refine congrArg (x :: ·) (sortT_uniq hx2 hy2 fun j => ⟨fun hj => ?_, fun hj => ?_⟩)
    · rcases List.mem_cons.mp ((h j).mp (List.mem_cons_of_mem _ hj)) with rfl | q
      · exact (no (hx1 _ hj) (hx1 _ hj)).elim
      · exact q
    · rcases List.mem_cons.mp ((h j).mpr (List.mem_cons_of_mem _ hj)) with rfl | q
      · exact (no (hy1 _ hj) (hy1 _ hj)).elim
      · exact q

/-! ### tuples of texts among the data -/
def strsD : List D → Option (List Str)
  | [] => some []
  | .str x :: ds => (strsD ds).map (x :: ·)
  | _ => none
def tupsD : List D → Option (List (List Str))
  | [] => some []
  | .tup es :: ds => (strsD es).bind fun k => if k = [] then none else (tupsD ds).map (k :: ·)
  | _ => none
def tdS (k : List Str) : D := .tup (k.map D.str)
def sortK (ds : List D) : Option (List D) := (tupsD ds).bind fun ks => if ks.length < 64 then some ((sortT ks).map tdS) else none
theorem tupsD_app {a b : List D} : ∀ {ks : List (List Str)}, tupsD (a ++ b) = some ks → ∃ ka kb, tupsD a = some ka ∧ tupsD b = some kb ∧ ks = ka ++ kb := by
  induction a with
  | nil => intro ks h; exact ⟨[], ks, rfl, h, rfl⟩
  | cons d a ih =>
    intro ks h
    cases d with
    | tup es =>
      simp only [List.cons_append, tupsD] at h ⊢
      obtain ⟨k, h1, h2⟩ := Option.bind_eq_some_iff.mp h
      split at h2
      · cases h2
      · rename_i hk
        obtain ⟨ks', h3, rfl⟩ := Option.map_eq_some_iff.mp h2
        obtain ⟨ka, kb, e1, e2, rfl⟩ := ih h3
        exact ⟨k :: ka, kb, by rw [h1, e1]; simp [hk], e2, rfl⟩
    | _ => simp [tupsD] at h
section
variable {Γ : Gam} {w : W}
theorem RepL.strsD : ∀ {ds : List D} {xs : List V} {k : List Str}, RepL Γ w ds xs → strsD ds = some k → xs = k.map V.str
  | [], _, k, .nil, h => by cases h; rfl
  | .str x :: ds, _, k, .cons r rr, h => by
    obtain ⟨ms, h1, rfl⟩ := Option.map_eq_some_iff.mp h
    cases r
    rw [RepL.strsD rr h1] <;> rfl
theorem Rep.tupsD1 {d : D} {v : V} {ks : List (List Str)} (r : Rep Γ w d v) (h : tupsD [d] = some ks) : ∃ a k, v = .ref a ∧ ks = [k] ∧ k ≠ [] ∧ SqT Γ.K w.R a (k.map V.str) := by
  cases d with
  | tup es =>
    simp only [tupsD] at h
    obtain ⟨k, h1, h2⟩ := Option.bind_eq_some_iff.mp h
    split at h2
    · cases h2
    · rename_i hk
      cases h2
      cases r with
      | tup a1 a2 =>
        rw [a2.strsD h1] at a1
        exact ⟨_, k, rfl, rfl, hk, a1⟩
  | _ => simp [tupsD] at h
theorem RepL.tupsD : ∀ {ds : List D} {xs : List V} {ks : List (List Str)}, RepL Γ w ds xs → tupsD ds = some ks → ∃ L : List (Addr × List Str), xs = L.map (fun p => V.ref p.1) ∧ L.map Prod.snd = ks ∧ AllT Γ.K w.R L
  | [], _, ks, .nil, h => by cases h; exact ⟨[], rfl, rfl, fun _ z => (nomatch z)⟩
  | d :: ds, _, ks, .cons r rr, h => by
    obtain ⟨ka, kb, e1, e2, rfl⟩ := tupsD_app (a := [d]) h
    obtain ⟨a, k, rfl, rfl, _, h1⟩ := r.tupsD1 e1
    obtain ⟨L, rfl, rfl, h2⟩ := RepL.tupsD rr e2
    refine ⟨(a, k) :: L, rfl, rfl, fun p z => ?_⟩
    rcases List.mem_cons.mp z with rfl | z
    · exact h1
    · exact h2 p z
theorem tupsD_ne : ∀ {ds : List D} {ks : List (List Str)}, tupsD ds = some ks → ∀ k ∈ ks, k ≠ []
  | [], _, h => by cases h; exact fun _ z => (nomatch z)
  | d :: ds, ks, h => by
    cases d with
    | tup es =>
      simp only [NW.tupsD] at h
      obtain ⟨k, h1, h2⟩ := Option.bind_eq_some_iff.mp h
      split at h2
      · cases h2
      · rename_i hk
        obtain ⟨ks', h3, rfl⟩ := Option.map_eq_some_iff.mp h2
        intro j z
        rcases List.mem_cons.mp z with rfl | z
        · exact hk
        · exact tupsD_ne h3 j z
    | _ => simp [NW.tupsD] at h
theorem repL_strs : ∀ (k : List Str), RepL Γ w (k.map D.str) (k.map V.str)
  | [] => .nil
  | x :: k => .cons (.str x) (repL_strs k)
theorem repL_tups {L : List (Addr × List Str)} (h : AllT Γ.K w.R L) : RepL Γ w (L.map fun p => tdS p.2) (L.map fun p => V.ref p.1) := by
  induction L with
  | nil => exact .nil
  | cons p L ih => exact .cons (.tup (h p List.mem_cons_self) (repL_strs _)) (ih fun q z => h q (List.mem_cons_of_mem _ z))
/-- the list that a set is made of -/
def lsOf (z : Z) : D → Option (List D)
  | .lst ds => some ds
  | .mob n => match z[n]? with
    | some (.lst ds) => some ds
    | _ => none
  | _ => none
theorem RepB.lsOf {B : Bs} {ρ : En} {z : Z} {σ : Sl} {H : Hp} {d : D} {ds : List D} {v : V} (r : RepB Γ w H d v) (S : SI Γ B w ρ z σ H) (h : lsOf z d = some ds) : ∃ a xs, v = .ref a ∧ SqL Γ.K H a xs ∧ RepL Γ w ds xs := by
  unfold NW.lsOf at h
  split at h
  · cases h
    obtain ⟨a, xs, rfl, h1, h2⟩ := r.list S
    exact ⟨a, xs, rfl, h1.sq, h2⟩
  · split at h
    · rename_i hz
      cases h
      obtain ⟨a, xs, rfl, _, h1, h2⟩ := r.mobl S hz
      exact ⟨a, xs, rfl, SqL.of h1, h2⟩
    · cases h
  · cases h
end
def sortSetT (z : Z) (d : D) : Option (List D) := (lsOf z d).bind sortK
theorem AllT.le {K : PySem.W.Frag} {H H' : Hp} {L : List (Addr × List Str)} (h : AllT K H L) (e : ∀ a o, H a = some o → H' a = some o) : AllT K H' L := fun p z => SqT.le e (h p z)

section
variable {X : Cx} {Γ : Gam} {B : Bs} {Wx : WX} {k : Nat} {e : Expr} {m : M D} {pos : Pos}
/-- the end: the sorted list out of the set -/
theorem sort_end {w : W} {ρ : En} {z : Z} {σ : Sl} {H : Hp} {done L : List (Addr × List Str)} {a : Addr} {Q : VK} (S : SI Γ B w ρ z σ H) (ha : H a = some (SetKO X.prog X.w a L)) (g : KGot done L) (ht : AllT Γ.K w.R done) (ne : ∀ k ∈ done.map Prod.snd, k ≠ [])
    (q : ∀ H', SI Γ B w ρ z σ H' → Step w H w H' → ∀ p, OwnRep Γ w H' p (.lst ((sortT (done.map Prod.snd)).map tdS)) → w.R p = none → p ∉ w.pl → H p = none → Q (.ref p) H') : rSortK Γ.K X.prog X.w [.ref a] H Q := by
  have hL : AllT Γ.K w.R L := fun p z => ht p (g.sub p z)
  refine ⟨a, L, rfl, ha, hL.le S.wi.le, fun p z => ne _ (List.mem_map_of_mem (g.sub p z)), fun L' p pm pw hp => ?_⟩
  have e : L'.map Prod.snd = sortT (done.map Prod.snd) := sortT_uniq (List.pairwise_map.mpr pw) pw_sortT fun j => by
    rw [mem_sortT, (pm.map Prod.snd).mem_iff]
    constructor
    · intro z
      obtain ⟨x, hx, rfl⟩ := List.mem_map.mp z
      exact List.mem_map_of_mem (g.sub x hx)
    · intro z
      obtain ⟨x, hx, rfl⟩ := List.mem_map.mp z
      exact g.all x hx
  have r : RepL Γ w ((sortT (done.map Prod.snd)).map tdS) (L'.map fun q => V.ref q.1) := by
    rw [← e, List.map_map]
    exact repL_tups fun p z => hL p (pm.mem_iff.mp z)
  obtain ⟨S4, s4, r4, r5, r6⟩ := S.lstO r hp
  exact q _ S4 s4 p r4 r5 r6 hp
theorem f_sortSetT {p p2 q : Pos} (hK : X.K = Γ.K) (hm : X.mg "sorted" = none) (hm2 : X.mg "set" = none) (he : PE X e (tB Γ B Wx m)) (hc : X.calm = true) (hu : X.A.units + 64 < cLine) (hg : Gl X "sorted" := by rfl) (hg2 : Gl X "set" := by rfl)
    (hs : starEach [e] X.env = (false, eval e X.env) :: starEach [] X.env := by rfl)
    (hs2 : starEach [Expr.Call (.Name "set" p2) [e] [] q] X.env = (false, eval (Expr.Call (.Name "set" p2) [e] [] q) X.env) :: starEach [] X.env := by rfl) :
    PE X (.Call (.Name "sorted" p) [.Call (.Name "set" p2) [e] [] q] [] pos) (tF Γ B Wx (mOp1 sortSetT m)) :=
  pe_weak (pe_callB (cr_sortK hc) hg hm rfl (pa_cons (pe_callTy (cr_setK hc hu) hg2 hm2 rfl (pa_cons he pa_nil hs) (by decide) (by decide) hs rfl) pa_nil hs2) (by decide) (by decide) hs2 rfl) fun σ H Q ⟨w, ρ, z, S, qq⟩ => by
  refine ⟨w, ρ, z, S, qq.bind.mono fun d w1 z1 H1 _ t1 ⟨S1, s1, q1⟩ v rv => ?_⟩
  obtain ⟨es, hd, q2⟩ := q1.opt
  obtain ⟨ds, h1, hd⟩ := Option.bind_eq_some_iff.mp hd
  obtain ⟨ks, h2, hd⟩ := Option.bind_eq_some_iff.mp hd
  obtain ⟨rfl, hn⟩ := ite_some hd
  obtain ⟨a, xs, rfl, h3, h4⟩ := rv.lsOf S1 h1
  obtain ⟨L0, rfl, rfl, h5⟩ := h4.tupsD h2
  rw [hK]
  refine ⟨a, L0, rfl, h3, h5.le S1.wi.le, by simpa using hn, fun p L hp g => ?_⟩
  obtain ⟨wi, st⟩ := S1.wi.newO (o := SetKO X.prog X.w p L) hp
  have S2 := S1.carry wi st
  refine sort_end S2 upd_same g h5 (tupsD_ne h2) fun H' S' s' r r4 r5 r6 hr => ?_
  exact q2 _ _ S' (st.trans s') r r4 r5 r6 (none_back t1 (none_back st hr))
end

/-! ### a tracked set that grows -/
theorem heap_of_size : ∀ (n : Nat), ∃ h : Heap, h.objs.size = n
  | 0 => ⟨{}, rfl⟩
  | n + 1 => by
    obtain ⟨h, e⟩ := heap_of_size n
    exact ⟨h.push { cls := .none }, by rw [size_push', e]⟩
theorem code_ne {P : Program} {wo : World} {c : Addr} {q : Str} {L : List (Addr × List Str)} : LamX.CodeO c q ≠ SetKO P wo c L := fun e => by
  obtain ⟨h, hn⟩ := heap_of_size c
  have hg : (h.push { cls := .none, data := .fields #[.none, .str q 0] }).get? c = some { cls := .none, data := .fields #[.none, .str q 0] } := by
    rw [← hn]
    exact Heap.get?_push_size _ rfl
  have e1 : (∃ (oc : Obj) (vs : Array Value) (t : Tok), (h.push { cls := .none, data := .fields #[.none, .str q 0] }).get? c = some oc ∧ oc.data = .fields vs ∧ vs[1]? = some (.str q t)) = (kdS P wo).Set0 (h.push { cls := .none, data := .fields #[.none, .str q 0] }) c L := by
    have e' := HO.ext.inj e
    exact congrFun e' _
  have t1 : (kdS P wo).Set0 (h.push { cls := .none, data := .fields #[.none, .str q 0] }) c L := e1 ▸ ⟨_, _, 0, hg, rfl, rfl⟩
  obtain ⟨es, ep, t, ⟨o, o1, _, o2⟩, _⟩ := t1
  rw [hg] at o1
  cases o1
  cases o2
theorem Tabs.mutK {P : Program} {wo : World} {T : List (Addr × Str)} {H : Hp} (t : LamX.Tabs T H) {p : Addr} {o : HO} {L : List (Addr × List Str)} (hp : H p = some (SetKO P wo p L)) : LamX.Tabs T (upd H p o) := fun b hb => by
  obtain ⟨ps, g1, g2, g3⟩ := t b hb
  have n1 : b.1 ≠ p := fun e => by rw [e, hp] at g1; cases g1
  refine ⟨ps, by rw [upd_ne n1]; exact g1, g2, fun pos cv hc => ?_⟩
  obtain ⟨c, e1, e2⟩ := g3 pos cv hc
  have n2 : c ≠ p := fun e => by
    subst e
    rw [hp] at e2
    exact code_ne (Option.some.inj e2).symm
  exact ⟨c, e1, by rw [upd_ne n2]; exact e2⟩
section
variable {Γ : Gam} {B : Bs}
theorem WI.mutK {P : Program} {wo : World} {w : W} {z : Z} {H : Hp} (I : WI Γ w z H) {p : Addr} {o : HO} {L : List (Addr × List Str)} (h1 : w.R p = none) (h2 : p ∉ w.pl) (h3 : H p = some (SetKO P wo p L)) : WI Γ w z (upd H p o) := by
  refine ⟨fun a u h => ?_, I.len, fun n mo h => ?_, I.nd, I.nt, Tabs.mutK I.tb h3⟩
  · rw [upd_ne (ne_of_none h h1)]; exact I.le _ _ h
  · obtain ⟨a, g1, g2, g3⟩ := I.st n mo h
    have ha : a ≠ p := fun e => h2 (e ▸ List.mem_of_getElem? g1)
    exact ⟨a, g1, g2, g3.keep (fun _ _ h => h) (fun _ _ h => h) fun u hu => by rw [upd_ne ha]; exact hu⟩
theorem SI.mutK {P : Program} {wo : World} {w : W} {ρ : En} {z : Z} {σ : Sl} {H : Hp} (S : SI Γ B w ρ z σ H) {p : Addr} {o : HO} {L : List (Addr × List Str)} (h1 : w.R p = none) (h2 : p ∉ w.pl) (h3 : ∀ (i : Nat) (u : OV), ρ[i]? = some (some (.own u)) → σ[i]? ≠ some (some (.ref p))) (h4 : B.H p = none) (h5 : H p = some (SetKO P wo p L)) : SI Γ B w ρ z σ (upd H p o) where
  wi := S.wi.mutK h1 h2 h5
  st := ⟨S.st.r, S.st.t, fun a u h t k => by rw [upd_ne (ne_of_none h h4)]; exact S.st.k a u h t k, S.st.f, S.st.n, fun a u h => by
    by_cases e : a = p
    · subst e; exact ⟨o, upd_same⟩
    · rw [upd_ne e]; exact S.st.y a u h⟩
  len := S.len
  sh := S.sh
  own := fun i u h => by
    obtain ⟨a, g1, g2, g3, g4, g5⟩ := S.own i u h
    have ne : a ≠ p := fun e => h3 i u h (e ▸ g1)
    refine ⟨a, g1, ?_, g3, g4, g5⟩
    cases u with
    | lst es => obtain ⟨ys, k1, k2⟩ := g2; exact ⟨ys, by rw [upd_ne ne]; exact k1, k2⟩
  dis := S.dis
  exn := S.exn
  fnv := S.fnv
end
theorem lcGo_pre {g : TgF} {mt : M Bool} {me : M D} {ρ : En} : ∀ {ds acc : List D} {z : Z} {es : List D} {zf : Z}, lcGo g mt me ρ ds acc z = .ok es zf → ∃ r, es = acc ++ r
  | [], acc, z, es, zf, h => by cases h; exact ⟨[], by simp⟩
  | d :: ds, acc, z, es, zf, h => by
    unfold lcGo at h
    split at h
    · cases h
    · split at h
      · exact lcGo_pre h
      · split at h
        · split at h
          · obtain ⟨r, e⟩ := lcGo_pre h
            exact ⟨_, by rw [e, List.append_assoc]⟩
          · cases h
        · cases h
      · cases h
theorem lcGo_noexc {g : TgF} {mt : M Bool} {me : M D} {ρ : En} : ∀ {ds acc : List D} {z : Z} {x : XD} {zf : Z}, lcGo g mt me ρ ds acc z ≠ .exc x zf
  | [], acc, z, x, zf, h => by cases h
  | d :: ds, acc, z, x, zf, h => by
    unfold lcGo at h
    split at h
    · cases h
    · split at h
      · exact lcGo_noexc h
      · split at h
        · split at h
          · exact lcGo_noexc h
          · cases h
        · cases h
      · cases h
def mSortC (it : M (List D)) (g : TgF) (mt : M Bool) (me : M D) (vs : List Nat) : M (List D) := mBind (mLc it g mt me vs) fun ds => mOpt fun _ => sortK ds
@[simp] theorem ap_sortC {ρ : En} {z : Z} (it : M (List D)) (g : TgF) (mt : M Bool) (me : M D) (vs : List Nat) : mSortC it g mt me vs ρ z = (mLc it g mt me vs ρ z).bind fun ds z1 => ofO (sortK ds) z1 := by
  simp [mSortC]
section
variable {X : Cx} {Γ : Gam} {B : Bs} {Wx : WX} {k : Nat} {e tg : Expr} {m : M D} {pos : Pos} {iter elt : Expr} {ifs : List Expr} {scope : Scope} {own : List (Str × Nat)} {mi : M (List D)} {g : TgF} {sl : List Nat} {mt : M Bool} {me : M D}
theorem bind2 {α β γ : Type} {r : Res α} {f : α → Z → Res β} {h : β → Z → Res γ} : (r.bind f).bind h = r.bind fun a z => (f a z).bind h := by cases r <;> rfl
theorem sk_to {vs : List Nat} (hsl : ∀ j ∈ sl, j ∈ vs) : ∀ σ H Q, tF Γ B Wx (mSortC mi g mt me vs) σ H Q → tSk Γ.K X.prog X.w (tBI Γ B Wx mi) (gD Γ B sl g) (tDT Γ B Wx0 mt) (tD Γ B Wx0 me) vs σ H (fun v H1 => rSortK Γ.K X.prog X.w [v] H1 Q) := fun σ H Q ⟨w, ρ, z, S, q⟩ => by
  have q0 : resTo Γ B Wx w ρ σ H ((mi ρ z).bind fun ds z1 => (lcGo g mt me (wipeE ρ vs) ds [] z1).bind fun es z2 => mOpt (fun _ => sortK es) ρ z2) (fun ss w' _ H' => ∀ p, OwnRep Γ w' H' p (.lst ss) → w'.R p = none → p ∉ w'.pl → H p = none → Q (.ref p) H') := by
    rw [← bind2]; exact q
  refine ⟨w, ρ, z, S, q0.bind.mono fun ds w1 z1 H1 _ s1 ⟨S1, _, q1⟩ J Fut hf it => fun S0 hD => ?_⟩
  obtain ⟨n1, n2⟩ := S1.notOwn (w' := w1) hD
  obtain ⟨wi2, s2⟩ := S1.wi.newO (o := SetKO X.prog X.w S0 []) hD
  obtain ⟨r2, t2⟩ := S1.wi.noR hD
  have hD0 : H S0 = none := none_back s1 hD
  let Pv : Nat → Hp → Prop := fun i H3 => ∃ w3 z3 acc done L, SI Γ B w3 (wipeE ρ vs) z3 (wipe σ vs) H3 ∧ Step w1 H1 w3 H3 ∧ H3 S0 = some (SetKO X.prog X.w S0 L) ∧ w3.R S0 = none ∧ S0 ∉ w3.pl ∧ tupsD acc = some (done.map Prod.snd) ∧ KGot done L ∧ AllT Γ.K w3.R done ∧
    (∀ es zf, lcGo g mt me (wipeE ρ vs) (ds.drop i) acc z3 = .ok es zf → ∃ ks, tupsD es = some ks ∧ ks.length < 64 ∧ ∀ w4 H4, SI Γ B w4 ρ zf σ H4 → Step w1 H1 w4 H4 → ∀ p, OwnRep Γ w4 H4 p (.lst ((sortT ks).map tdS)) → w4.R p = none → p ∉ w4.pl → H p = none → Q (.ref p) H4) ∧ (∃ es zf, lcGo g mt me (wipeE ρ vs) (ds.drop i) acc z3 = .ok es zf)
  have q1' : ∃ es zf, lcGo g mt me (wipeE ρ vs) ds [] z1 = .ok es zf := by
    cases hr : lcGo g mt me (wipeE ρ vs) ds [] z1 with
    | ok es zf => exact ⟨es, zf, rfl⟩
    | exc x zf => exact absurd hr lcGo_noexc
    | bad => rw [hr] at q1; exact q1.elim
  refine ⟨fun i n H3 => n = ds.length - i ∧ i ≤ ds.length ∧ Pv i H3, ⟨ds.length, by simp, Nat.zero_le _, w1, z1, [], [], [], (S1.carry wi2 s2).wipe vs, s2, upd_same, r2, t2, rfl, KGot.nil, fun _ z => (nomatch z), fun es zf hr => ?_, by simpa using q1'⟩, ?_⟩
  · rw [List.drop_zero] at hr
    rw [hr] at q1
    obtain ⟨ss, h1, h2⟩ := resTo.opt (f := fun _ => sortK es) q1
    obtain ⟨ks, h3, h4⟩ := Option.bind_eq_some_iff.mp h1
    obtain ⟨rfl, h5⟩ := ite_some h4
    exact ⟨ks, h3, h5, fun w4 H4 S4 s4 => h2 w4 H4 S4 s4⟩
  · rintro i n H3 ⟨rfl, hi, w3, z3, acc, done, L, S3, s3, o3, r3, t3, a3, g3, m3, fin, es, zf, hr⟩
    have F3 := hf w3 H3 s3
    by_cases hlt : i < ds.length
    · refine .inr ⟨it.go i w3 z3 H3 F3 S3.wi hlt, fun H' => Pv (i + 1) H', fun H' p' => ⟨ds.length - (i + 1), by omega, rfl, hlt, p'⟩, fun x H' y => ?_⟩
      obtain ⟨w4, I4, s4, r4⟩ := it.yld i w3 z3 H3 x H' ds[i] F3 S3.wi (List.getElem?_eq_getElem hlt) y
      rw [List.drop_eq_getElem_cons hlt] at hr fin
      have S4 := S3.carry I4 s4
      have keep : ∀ {wa wb : W} {Ha Hb : Hp}, Step wa Ha wb Hb → Ha S0 = some (SetKO X.prog X.w S0 L) → wa.R S0 = none → S0 ∉ wa.pl → Hb S0 = some (SetKO X.prog X.w S0 L) ∧ wb.R S0 = none ∧ S0 ∉ wb.pl := fun {wa wb Ha Hb} st o r t =>
        ⟨st.k _ _ o (fun _ => nofun) t, st.f _ _ o r, fun hm => by
          rcases st.n _ hm with h | h
          · exact t h
          · rw [o] at h; cases h⟩
      obtain ⟨o4, r4', t4'⟩ := keep s4 o3 r3 t3
      have s14 := s3.trans s4
      unfold lcGo at hr fin
      cases hg1 : g ds[i] (wipeE ρ vs) with
      | none => rw [hg1] at hr; cases hr
      | some ρ1 =>
        rw [hg1] at hr fin
        dsimp only at hr fin
        refine ⟨w4, wipeE ρ vs, z3, ds[i], S4, r4, ρ1, hg1, fun σ' S5 k5 l5 => ⟨?_, ?_⟩⟩
        · exact wipe_back hsl l5 (fun j hj => k5 j hj) |>.trans (by
            apply wipe_back (sl := vs) (fun j h => h) (wipe_length σ vs) fun j hj => wipe_get hj)
        · refine ⟨w4, ρ1, z3, S5, ?_⟩
          cases ht1 : mt ρ1 z3 with
          | exc x zz => rw [ht1] at hr; cases hr
          | bad => rw [ht1] at hr; cases hr
          | ok b z5 =>
            rw [ht1] at hr fin
            intro w6 H6 S6 s6
            obtain ⟨o6, r6', t6'⟩ := keep s6 o4 r4' t4'
            have s16 := s14.trans s6
            have back : ∀ {w7 : W} {z7 : Z} {H7 : Hp}, SI Γ B w7 ρ1 z7 σ' H7 → Step w1 H1 w7 H7 → SI Γ B w7 (wipeE ρ vs) z7 (wipe σ vs) H7 := fun {w7 z7 H7} S7 s7 => ((S1.wipe vs).carry S7.wi s7)
            have m6 : AllT Γ.K w6.R done := m3.le fun a o h => s6.r _ _ (s4.r _ _ h)
            cases b with
            | false =>
              refine iteF ?_
              dsimp only at hr fin
              exact ⟨w6, z5, acc, done, L, back S6 s16, s16, o6, r6', t6', a3, g3, m6, fin, es, zf, hr⟩
            | true =>
              refine iteT ⟨w6, ρ1, z5, S6, ?_⟩
              dsimp only at hr fin
              cases he1 : me ρ1 z5 with
              | exc x zz => rw [he1] at hr; cases hr
              | bad => rw [he1] at hr; cases hr
              | ok yv z6 =>
                rw [he1] at hr fin
                dsimp only at hr fin
                intro w7 H7 S7 s7 v rv
                obtain ⟨o7, r7', t7'⟩ := keep s7 o6 r6' t6'
                have s17 := s16.trans s7
                have m7 : AllT Γ.K w7.R done := m6.le s7.r
                by_cases hz : acc.length < sizeLine
                · rw [if_pos hz] at hr fin
                  obtain ⟨ks, k1, k2, _⟩ := fin es zf hr
                  obtain ⟨re, rfl⟩ := lcGo_pre hr
                  obtain ⟨ka, kb, e1, e2, rfl⟩ := tupsD_app k1
                  obtain ⟨kc, kd, e3, e4, rfl⟩ := tupsD_app e1
                  rw [a3] at e3
                  cases e3
                  obtain ⟨a, ky, rfl, rfl, _, h1⟩ := rv.tupsD1 e4
                  refine ⟨a, ky, done, L, rfl, o7, g3, fun p hp => m7.le S7.wi.le p (g3.sub p hp), SqT.le S7.wi.le h1, ?_, fun L' g' => ?_⟩
                  · simp only [List.length_append, List.length_map, List.length_cons, List.length_nil] at k2
                    omega
                  · refine ⟨w7, z6, acc ++ [yv], done ++ [(a, ky)], L', ?_, s17.mut hD, upd_same, r7', t7', by rw [e1]; simp, g', fun p hp => ?_, fin, _, zf, hr⟩
                    · exact (back S7 s17).mutK r7' t7' (fun i u h e => by
                        obtain ⟨h1, h2⟩ := wipeE_some h
                        rw [wipe_get h2] at e
                        exact n1 i u h1 e) n2 o7
                    · rcases List.mem_append.mp hp with hp | hp
                      · exact m7 p hp
                      · cases List.mem_singleton.mp hp; exact h1
                · rw [if_neg hz] at hr; cases hr
    · have e : i = ds.length := by omega
      subst e
      refine .inl ⟨it.stop w3 z3 H3 F3 S3.wi, ?_⟩
      rw [List.drop_length] at fin
      obtain ⟨ks, k1, k2, k3⟩ := fin acc z3 rfl
      rw [a3] at k1
      cases k1
      refine sort_end (S1.carry S3.wi s3) o3 g3 m3 (tupsD_ne a3) fun H' S' s' p o r t hp => ?_
      exact k3 w3 H' S' (s3.trans s') p o r t (none_back s1 (none_back s3 hp))
theorem f_sortSetC {p q : Pos} (hK : X.K = Γ.K) (hm : X.mg "sorted" = none) (hc : X.calm = true) (hu : X.A.units + 64 < cLine) (nd : X.N.Nodup) (hi : PI X tg iter (tBI Γ B Wx mi)) (ok : BlkOk X.N X.env.scope scope own)
    (hg : ∀ (s : Shared) (H : Hp) (C : Addr) (cl : List (Str × Addr)) (fp : List Addr), PG (X.blk s H scope (compEnvC scope cl C X.env) fp) tg (gD Γ B sl g)) (ht : ∀ (s : Shared) (H : Hp) (C : Addr) (cl : List (Str × Addr)) (fp : List Addr), PTs (X.blk s H scope (compEnvC scope cl C X.env) fp) ifs (tDT Γ B Wx0 mt))
    (he : ∀ (s : Shared) (H : Hp) (C : Addr) (cl : List (Str × Addr)) (fp : List Addr), PE (X.blk s H scope (compEnvC scope cl C X.env) fp) elt (tD Γ B Wx0 me)) (hsl : ∀ j ∈ sl, j ∈ own.map (·.2) := by decide) (hs : ∀ x, foldedSetIterable iter X.env x = pure x := by intro _; rfl) (hgl : Gl X "sorted" := by rfl)
    (hs2 : starEach [Expr.SetComp elt [⟨tg, iter, ifs, 0⟩] scope q] X.env = (false, eval (Expr.SetComp elt [⟨tg, iter, ifs, 0⟩] scope q) X.env) :: starEach [] X.env := by rfl) :
    PE X (.Call (.Name "sorted" p) [.SetComp elt [⟨tg, iter, ifs, 0⟩] scope q] [] pos) (tF Γ B Wx (mSortC mi g mt me (own.map (·.2)))) :=
  pe_weak (pe_callB (cr_sortK hc) hgl hm rfl (pa_cons (pe_setcomp hc hu nd hi ok hg ht he hs) pa_nil hs2) (by decide) (by decide) hs2 rfl) fun σ H Q h => by
    have z := sk_to (X := X) (Wx := Wx) hsl σ H Q h
    rw [hK]
    exact z
end
end NW
set_option maxHeartbeats 3200000
/-! Order of texts: <=, min and max of two texts in a list or a tuple. -/
namespace NW
open PySem PySem.Spec PyProof.Rows L2
def sltS (x y : Str) : Bool := decide (x.cps.toList < y.cps.toList)
theorem sltS_tlt (x y : Str) : tlt [x] [y] = sltS x y := by
  show (itemLt (.inr x.cps.toList) (.inr y.cps.toList) || (!itemLt (.inr y.cps.toList) (.inr x.cps.toList) && false)) = _
  rw [Bool.and_false, Bool.or_false]
  rfl
theorem sltS_irr (x : Str) : sltS x x = false := by rw [← sltS_tlt]; exact tlt_irr _
theorem sltS_tot {x y : Str} (h : sltS x y = false) (k : sltS y x = false) : x = y := by
  rw [← sltS_tlt] at h k
  exact (List.cons.inj (tlt_tot h k)).1
theorem sltS_asym {x y : Str} (h : sltS x y = true) : sltS y x = false := by
  cases e : sltS y x with
  | false => rfl
  | true =>
    rw [← sltS_tlt] at h e
    have := tlt_tr h e
    rw [tlt_irr] at this
    cases this
/-- the lesser, the greater of two texts, the first of equal ones -/
def minS (x y : Str) : Str := if sltS y x = true then y else x
def maxS (x y : Str) : Str := if sltS x y = true then y else x
section
variable {P : Program} {w : World} {A : Around} {E : Value → Shared → Prop} {s : Shared}
theorem best_lt {Pv : Nat → Value → Prop} (f : Nat → Str) (h : ∀ i v, Pv i v → ∃ t, v = .str (f i) t) : CmpOf P w A .Lt Pv fun i j => sltS (f i) (f j) := fun i j vi vj s Q E hi hj q => by
  obtain ⟨t, rfl⟩ := h i vi hi
  obtain ⟨u, rfl⟩ := h j vj hj
  exact richCompare_gives (op := .Lt) (typeIs_str s _ t) (typeIs_str s _ u) F.slot_str_lt F.entry_str_lt (F.args_str_lt_2 _ _) (gives_str_lt _ _ t u) (fun x => nomatch x) q
theorem best_gt {Pv : Nat → Value → Prop} (f : Nat → Str) (h : ∀ i v, Pv i v → ∃ t, v = .str (f i) t) : CmpOf P w A .Gt Pv fun i j => sltS (f j) (f i) := fun i j vi vj s Q E hi hj q => by
  obtain ⟨t, rfl⟩ := h i vi hi
  obtain ⟨u, rfl⟩ := h j vj hj
  exact richCompare_gives (op := .Gt) (typeIs_str s _ t) (typeIs_str s _ u) F.slot_str_gt F.entry_str_gt (F.args_str_gt_2 _ _) (gives_str_gt _ _ t u) (fun x => nomatch x) q
/-- two texts -/
abbrev two (x y : Str) (i : Nat) : Str := if i = 0 then x else y
theorem two_at {its : Array Value} {x y : Str} (hv : Vals [V.str x, V.str y] its.toList) : its.size = 2 ∧ ∀ (i : Nat) (v : Value), its[i]? = some v → ∃ t, v = Value.str (two x y i) t := by
  generalize hl : its.toList = l at hv
  match l, hv with
  | [a, b], .cons r1 (.cons r2 .nil) =>
    obtain ⟨t, rfl⟩ := r1
    obtain ⟨u, rfl⟩ := r2
    refine ⟨by rw [← Array.length_toList, hl] <;> rfl, fun i v h => ?_⟩
    rw [← Array.getElem?_toList, hl] at h
    match i, h with
    | 0, h => cases h; exact ⟨t, rfl⟩
    | 1, h => cases h; exact ⟨u, rfl⟩
    | i + 2, h => simp at h
theorem old_ofL {l : Addr} {o : Obj} {h' : Heap} (hk : ∀ b u, b ∉ [s.heap.objs.size] → (s.heap.push o).get? b = some u → h'.get? b = some u) : ∀ b u, s.heap.get? b = some u → h'.get? b = some u := fun b u e =>
  hk b u (fun z => absurd (Heap.lt_size e) (by rw [List.mem_singleton.mp z]; exact Nat.lt_irrefl _)) (Heap.get?_push_of_some _ e)
theorem feet {l : Addr} {o : Obj} (lt : l < s.heap.objs.size) : ∀ b ∈ [s.heap.objs.size, l], b < (s.heap.push o).objs.size := fun b hb => by
  rw [Heap.size_push]
  rcases List.mem_cons.mp hb with rfl | hb
  · exact Nat.lt_succ_self _
  · rw [List.mem_singleton.mp hb]; exact Nat.lt_succ_of_lt lt
/-- min and max by what is walked -/
theorem nw_best (mx : Bool) {v0 : Value} {x y : Str} {Q : Value → Shared → Prop}
    (hit : ∀ (Q' : Value → Shared → Prop) , (∀ (s2 : Shared) (I : Addr) (fp wr : List Addr) (its : Array Value) (St : Nat → Heap → Prop), Vals [V.str x, V.str y] its.toList → Walks P w A.in1 I fp wr its.size (fun (i : Nat) (v : Value) => its[i]? = some v) St → St 0 s2.heap → (∀ b ∈ fp, b < s2.heap.objs.size) →
      (∃ h2 : Heap, s2 = { s with heap := h2 } ∧ ∀ h' : Heap, (∀ b o, b ∉ wr → h2.get? b = some o → h'.get? b = some o) → ∀ b o, s.heap.get? b = some o → h'.get? b = some o) → Q' (.ref I) s2) → wpAny (model P w) A.in1 (pyIter v0) Q' E s)
    (q : ∀ h' tk t, (∀ b o, s.heap.get? b = some o → h'.get? b = some o) → Q (.str (if mx = true then maxS x y else minS x y) t) { s with heap := h', toks := tk }) :
    wpAny (model P w) A (call (.builtin (if mx = true then "max" else "min")) [v0]) Q E s := by
  cases mx with
  | true =>
    refine call_max_walk (hit _ fun s2 I fp wr its St rv W st hf ⟨h2, e2, kp⟩ => ?_)
    obtain ⟨n, at_⟩ := two_at rv
    refine ⟨I, fp, wr, its.size, _, St, _, rfl, W, st, hf, by omega, best_gt (two x y) at_, fun v h' tk hv hk => ?_⟩
    subst e2
    obtain ⟨t, rfl⟩ := at_ _ v hv
    rw [n]
    have e : two x y (argBest (fun i j => sltS (two x y j) (two x y i)) (2 - 1)) = maxS x y := by
      show two x y (if sltS x y = true then 1 else 0) = _
      unfold maxS
      split <;> rfl
    rw [e]
    exact q h' tk t (kp h' hk)
  | false =>
    refine call_min_walk (hit _ fun s2 I fp wr its St rv W st hf ⟨h2, e2, kp⟩ => ?_)
    obtain ⟨n, at_⟩ := two_at rv
    refine ⟨I, fp, wr, its.size, _, St, _, rfl, W, st, hf, by omega, best_lt (two x y) at_, fun v h' tk hv hk => ?_⟩
    subst e2
    obtain ⟨t, rfl⟩ := at_ _ v hv
    rw [n]
    have e : two x y (argBest (fun i j => sltS (two x y i) (two x y j)) (2 - 1)) = minS x y := by
      show two x y (if sltS y x = true then 1 else 0) = _
      unfold minS
      split <;> rfl
    rw [e]
    exact q h' tk t (kp h' hk)
end
section
variable {X : Cx} {Γ : Gam} {B : Bs}
def rBest (mx : Bool) (K : PySem.W.Frag) : List V → Hp → VK → Prop := fun vs H Q => ∃ (a : Addr) (x y : Str), vs = [V.ref a] ∧ (SqL K H a [.str x, .str y] ∨ SqT K H a [.str x, .str y]) ∧ Q (.str (if mx = true then maxS x y else minS x y)) H
theorem cr_best (mx : Bool) (hc : X.calm = true) : CallR X (.builtin (if mx = true then "max" else "min")) (rBest mx X.K) := by
  intro pins s σ H vs us Q I r h
  obtain ⟨a, x, y, rfl, hq, q⟩ := h
  rw [Vals.ref1 r]
  have hh : X.A.in1.handled = none := by
    have := I.ok.hd hc
    simpa using this
  refine nw_best mx (x := x) (y := y) (fun Q' k => ?_) fun h' tk t hk => ⟨.str _, H, I.kept hk, ⟨_, rfl⟩, q⟩
  rcases hq with hq | hq
  · obtain ⟨its, rv, pl, hz⟩ := I.list hq
    have hl := pl.isList
    have lt : a < s.heap.objs.size := let ⟨_, e, _⟩ := hl; Heap.lt_size e
    exact wpAny_pyIter_list hl (k _ _ _ _ its.toArray _ (by simpa using rv) (Walks.list (A := X.A.in1) hh _ a (Nat.ne_of_lt lt) its.toArray) ⟨⟨_, Heap.get?_push_size _ rfl, rfl, rfl⟩, hl.push _⟩ (feet lt) ⟨_, rfl, fun h' hk => old_ofL (l := a) hk⟩)
  · obtain ⟨its, rv, pt, hz⟩ := I.tuple hq
    have hl : s.heap.IsTuple a its.toArray := pt
    have lt : a < s.heap.objs.size := let ⟨_, e, _⟩ := hl; Heap.lt_size e
    exact wpAny_pyIter_tuple hl (k _ _ _ _ its.toArray _ (by simpa using rv) (Walks.tuple (A := X.A.in1) hh _ a (Nat.ne_of_lt lt) its.toArray) ⟨⟨_, Heap.get?_push_size _ rfl, rfl, rfl⟩, hl.at fun o e => Heap.get?_push_of_some _ e⟩ (feet lt) ⟨_, rfl, fun h' hk => old_ofL (l := a) hk⟩)
/-- min, max of two texts -/
def bestD (mx : Bool) (z : Z) : List D → Option D
  | [d] => match sqOf z d with
    | some [.str x, .str y] => some (.str (if mx = true then maxS x y else minS x y))
    | _ => none
  | _ => none
theorem oc_best (mx : Bool) : OpC Γ B (rBest mx Γ.K) (bestD mx) := by
  intro Wx w ρ z σ H ds d' vs Q S rvs h q
  unfold bestD at h
  split at h
  · split at h
    · rename_i hs
      cases h
      obtain ⟨v, rfl, r⟩ := pr1 rvs
      obtain ⟨a, xs, rfl, h1, h2⟩ := r.sqOf S hs
      cases h2 with
      | cons r1 h2 => cases h2 with
        | cons r2 h2 =>
          cases h2
          cases r1; cases r2
          exact ⟨a, _, _, rfl, h1, q.ok S _ (.str _)⟩
    · cases h
  · cases h
/-- <= of two texts -/
theorem op_leS : OpR X (compareOp .LtE) (fun x y H Q => ∃ i j, x = .str i ∧ y = .str j ∧ Q (.bl (!sltS j i)) H) := by
  intro pins s σ H x y v u Q I rx ry h
  obtain ⟨i, j, rfl, rfl, q⟩ := h
  obtain ⟨t, rfl⟩ := rx
  obtain ⟨t', rfl⟩ := ry
  exact P.le_str (fin_bl I q rfl)
def leS (_ : Z) : D → D → Option Bool
  | .str x, .str y => some (!sltS y x)
  | _, _ => none
theorem ob_leS : OpB Γ B (fun x y H Q => ∃ i j, x = .str i ∧ y = .str j ∧ Q (.bl (!sltS j i)) H) leS := by
  intro w ρ z σ H d e k v u Q S rv ru h q
  unfold leS at h
  split at h
  · cases h
    cases rv.str; cases ru.str
    exact ⟨_, _, rfl, rfl, q⟩
  · cases h
end
end NW
set_option maxHeartbeats 1000000
/-! C(*xs), C(*xs, y), C(*xs, *ys): starred arguments of a constructor with *args. -/
namespace NW
open PySem PySem.Spec PyProof.Rows L2 StX
section
variable {M : Model} {A : Around} {E : Value → Shared → Prop} {s : Shared}
theorem args_many {f : Value} {b : Bool} {x : Sem Value} {y : Bool × Sem Value} {rest : List (Bool × Sem Value)} {Q : Args → Shared → Prop} (h : wpAny M A (spliced ((b, x) :: y :: rest)) (fun vs s' => Q ⟨vs, []⟩ s') E s) :
    wpAny M A (evalArgs f true ((b, x) :: y :: rest) []) Q E s := by
  unfold evalArgs
  cases b <;>
    (show wpAny M A (spliced (_ :: y :: rest) >>= _) Q E s
     refine wpAny_bind (wpAny_mono h (fun vs s' h' => ?_) fun _ _ x => x)
     refine wpAny_holding ?_
     exact wpAny_bind (wpAny_pure (wpAny_bind (wpAny_pure (wpAny_pure h')))))
end
def mStar (m : M D) (r : M (List D)) : M (List D) := mBind (mOp1 sqOf m) fun ds => mBind r fun xs => mRet (ds ++ xs)
section
variable {X : Cx} {Γ : Gam} {B : Bs} {Wx : WX} {k j : Nat} {e e1 e2 : Expr} {es : List Expr} {m : M D} {ml : M (List D)} {pos p sp_ : Pos} {fa C : Addr} {F : FM} {x : Str}
theorem a_star (hK : X.K = Γ.K) (he : PE X e (tB Γ B Wx m)) (hr : PA X es (tDA Γ B Wx ml)) (hs : starEach (.Starred e p :: es) X.env = (true, eval e X.env) :: starEach es X.env := by rfl) : PA X (.Starred e p :: es) (tDA Γ B Wx (mStar m ml)) :=
  pa_weak (pa_star he hr hs) fun σ H Q ⟨w, ρ, z, S, q⟩ => ⟨w, ρ, z, S, q.bind.bind.mono fun d w1 z1 H1 _ _ ⟨S1, s1, q1⟩ v rv => by
    obtain ⟨ds, hd, q2⟩ := q1.opt
    obtain ⟨a, xs, rfl, h1, h2⟩ := rv.sqOf S1 hd
    obtain ⟨_, _, q3⟩ := q2.ok S1
    rw [hK]
    exact ⟨a, xs, rfl, h1.symm, w1, ρ, z1, S1, q3.bind.mono fun ds2 w2 z2 H2 _ _ ⟨S2, s2, q4⟩ vs rvs => q4.ok S2 _ ((h2.step s2).append rvs)⟩⟩
theorem pe_makeV1 {sp : Sp} (V : Dv Γ X Wx j) (M : Mk X.K C fa) (G : FnV X.prog X.w X.K X.mg X.base k fa sp) (hj : k + 1 ≤ j) (hg : Gl X x) (hm : X.mg x = some (.ref C)) {te : TE} (he : PE X e te) (hdb : (x == ("__debug__" : Str)) = false)
    (hst : starEach [.Starred e sp_] X.env = [(true, eval e X.env)]) : PE X (.Call (.Name x p) [.Starred e sp_] [] pos) (tMakeS Wx C sp (tStar X.K te tNil)) := by
  refine ⟨fun pins s σ H Q I h => ?_⟩
  refine wpAny_Call_Name_kw (ld_glob I hg hm ?_ hdb)
  refine PySem.W.callWith_S (h₀ := X.base) I.ok.mod.kin M.kp (thn (he.run pins s σ H _ I h) fun v s1 ⟨y, H1, I1, ry, a, xs, ey, hxs, q⟩ => ?_) hst
  subst ey
  obtain rfl : v = Value.ref a := ry
  refine star_any I1 hxs fun us s2 I2 rv => ⟨I2.kIn, ?_⟩
  have q' : ∀ x dx, H1 x = none → H1 dx = none → dx ≠ x → sp (.ref x :: (xs ++ [])) (upd (upd H1 dx (.own x)) x (.ins C dx [])) (fun v H2 => v = .non ∧ Q (.ref x) H2) (fun cls dd H' => Wx cls dd σ H') := q
  rw [List.append_nil] at q'
  exact run_makeV V M G hj I2 rv q'
theorem pe_makeVn {sp : Sp} {t : TA} {b1 b2 : Bool} {x1 x2 : Sem Value} (V : Dv Γ X Wx j) (M : Mk X.K C fa) (G : FnV X.prog X.w X.K X.mg X.base k fa sp) (hj : k + 1 ≤ j) (hg : Gl X x) (hm : X.mg x = some (.ref C)) (ha : PA X (e1 :: e2 :: es) t) (hdb : (x == ("__debug__" : Str)) = false)
    (he : starEach (e1 :: e2 :: es) X.env = (b1, x1) :: (b2, x2) :: starEach es X.env) (hst : (backTo pos (starEach (e1 :: e2 :: es) X.env)).any (·.1) = true) : PE X (.Call (.Name x p) (e1 :: e2 :: es) [] pos) (tMakeS Wx C sp t) := by
  refine ⟨fun pins s σ H Q I h => ?_⟩
  refine wpAny_Call_Name_kw (ld_glob I hg hm ?_ hdb)
  have run := ha.run pos pins s σ H _ I h
  rw [he] at run hst ⊢
  exact PySem.W.ks_call (P := X.K.In) hst (PySem.W.keeps_K M.kp) (args_many (thn run fun us s1 ⟨vs, H1, I1, r, q⟩ => ⟨I1.kIn, run_makeV V M G hj I1 r q⟩))
theorem d_newFV1 (c : Nat) {n : Nat} (V : Dv Γ X Wx j) (M : Mk X.K (Γ.cls c) fa) (G : FnV X.prog X.w X.K X.mg X.base k fa (spV Γ n F)) (hm : X.mg x = some (.ref (Γ.cls c))) (he : PE X e (tB Γ B Wx m)) (hj : k + 1 ≤ j := by decide) (hg : Gl X x := by rfl) (hdb : (x == ("__debug__" : Str)) = false := by decide)
    (hst : starEach [.Starred e sp_] X.env = [(true, eval e X.env)] := by rfl) : PE X (.Call (.Name x p) [.Starred e sp_] [] pos) (tD Γ B Wx (mNewFV c n F (mStar m mNil))) :=
  pe_weak (pe_makeV1 V M G hj hg hm he hdb hst) (newFV_to fun σ H Q ⟨w, ρ, z, S, q⟩ => ⟨w, ρ, z, S, q.bind.bind.mono fun d w1 z1 H1 _ _ ⟨S1, s1, q1⟩ v rv => by
    obtain ⟨ds, hd, q2⟩ := q1.opt
    obtain ⟨a, xs, rfl, h1, h2⟩ := rv.sqOf S1 hd
    obtain ⟨_, _, q3⟩ := q2.ok S1
    rw [V.hK]
    refine ⟨a, xs, rfl, h1.symm, ?_⟩
    show Q (xs ++ []) H1
    have q4 := q3.bind.ok S1
    rw [List.append_nil]
    have q5 := q4.2.2.ok S1
    rw [List.append_nil] at q5
    exact q5 xs h2⟩)
theorem d_newFVn (c : Nat) {n : Nat} {b1 b2 : Bool} {x1 x2 : Sem Value} (V : Dv Γ X Wx j) (M : Mk X.K (Γ.cls c) fa) (G : FnV X.prog X.w X.K X.mg X.base k fa (spV Γ n F)) (hm : X.mg x = some (.ref (Γ.cls c))) (ha : PA X (e1 :: e2 :: es) (tDA Γ B Wx ml))
    (he : starEach (e1 :: e2 :: es) X.env = (b1, x1) :: (b2, x2) :: starEach es X.env) (hj : k + 1 ≤ j := by decide) (hg : Gl X x := by rfl) (hdb : (x == ("__debug__" : Str)) = false := by decide)
    (hst : (backTo pos (starEach (e1 :: e2 :: es) X.env)).any (·.1) = true := by rfl) : PE X (.Call (.Name x p) (e1 :: e2 :: es) [] pos) (tD Γ B Wx (mNewFV c n F ml)) :=
  pe_weak (pe_makeVn V M G hj hg hm ha hdb he hst) (newFV_to fun _ _ _ q => q)
end
@[simp] theorem ap_star {ρ : En} {z : Z} (m : M D) (r : M (List D)) : mStar m r ρ z = (m ρ z).bind fun d z1 => (ofO (sqOf z1 d) z1).bind fun ds z2 => (r ρ z2).bind fun xs z3 => .ok (ds ++ xs) z3 := by
  simp only [mStar, ap_bind, ap_op1, ap_ret]
  cases m ρ z <;> rfl
end NW
set_option maxHeartbeats 1000000
/-! Own ==, != and in; the truth, bool and repr of an instance by own methods; own + with a tuple or a list. -/
namespace NW
open PySem PySem.Spec PyProof.Rows L2 StX
section
variable {prog : Program} {w : World} {A : Around} {E : Value → Shared → Prop} {s : Shared} {K : PySem.W.Frag} {x C f : Addr} {ox : Obj} {od : Option Obj} {b tb : Value}
theorem one_bind (self : Value) : bindSpecial (.builtin "object.__ne__") self = pure (.builtin "object.__ne__", [self]) :=
  (Slot.of (T := "object") (name := "__ne__") (owner := "object") (n := "__ne__") (by rw [typeLookup_type, builtinLookup_eq_fast]; kernel_rfl) (by decide +kernel) (by decide +kernel) (by decide +kernel)
    (.inl (by decide +kernel)) (by rw [isSubtype_type]; kernel_rfl)).bind self
theorem ne_call {Q : Value → Shared → Prop} (hu : A.in1.units < cLine) (X : K.In s.heap) (I : PySem.W.InstAt s.heap x ox C od) (hmk : PySem.W.makesIn K C = true)
    (hs : PySem.W.findIn K (.ref C) "__eq__" = some (some (.ref f))) (hf : PySem.W.isFn K (.ref f) = true)
    (h : wpAny (model prog w) A.in1 (call (.ref f) [.ref x, b]) (fun v s' => ∃ k, v = .bool k ∧ Q (.bool (!k)) s') E s) : wpAny (model prog w) A (call (.builtin "object.__ne__") [.ref x, b]) Q E s := by
  have L : PySem.W.Looks (model prog w) s.heap (isInstance (.ref x) (.type "object")) true := I.type.andThen (PySem.W.makes_of X hmk).top
  refine wpAny_call (codeAny_call_builtin (by decide +kernel) F.cmpEntry_ne ?_)
  have body : wpAny (model prog w) A.in1 (Builtin.«object.__ne__» ⟨[.ref x, b], []⟩) (fun fin s' => ∃ v, fin = .done (.ret v) ∧ Q v s') E s := by
    unfold Builtin.«object.__ne__»
    refine wpAny_bind (wpAny_pure ?_)
    dsimp only
    refine wpAny_bind (wpAny_cRoomFor hu ?_)
    refine wpAny_bind (PySem.W.ifBound_K X I hs hf (wpAny_mono h (fun v s' hv => ?_) fun _ _ e => e))
    obtain ⟨k, rfl, q⟩ := hv
    dsimp only
    exact wpAny_bind (wpAny_truthy_bool (wpAny_pure ⟨_, rfl, q⟩))
  simp only [checkBuiltinCall, F.cmpKind_ne, F.cmpSplit_ne]
  refine wpAny_bind (L.here ?_)
  have ok := F.cmpArgs_ne (.ref x) b
  cases hsig : Manifest.signature? "object.__ne__" with
  | none =>
    exact wpAny_pure (wpAny_mono body (fun fin s' hv => by obtain ⟨v, rfl, q⟩ := hv; exact q) fun _ _ e => e)
  | some sig =>
    simp only [argsOk, hsig] at ok
    have h2 : Bind.checkArgs "object.__ne__" sig ⟨[.ref x, b], []⟩ = pure () := ok
    show wpAny _ _ (Bind.checkArgs "object.__ne__" sig ⟨[.ref x, b], []⟩) _ _ _
    rw [h2]
    exact wpAny_pure (wpAny_mono body (fun fin s' hv => by obtain ⟨v, rfl, q⟩ := hv; exact q) fun _ _ e => e)
theorem ne_own {Q : Value → Shared → Prop} (hu : A.units + 1 < cLine) (X : K.In s.heap) (I : PySem.W.InstAt s.heap x ox C od) (hb : PySem.W.Looks (model prog w) s.heap (typeOf b) tb) (hn : PySem.W.notFirst K C tb = true) (hmk : PySem.W.makesIn K C = true)
    (hne : PySem.W.findIn K (.ref C) "__ne__" = some (some (.builtin "object.__ne__"))) (hs : PySem.W.findIn K (.ref C) "__eq__" = some (some (.ref f))) (hf : PySem.W.isFn K (.ref f) = true)
    (h : wpAny (model prog w) A.in1 (call (.ref f) [.ref x, b]) (fun v s' => ∃ k, v = .bool k ∧ Q (.bool (!k)) s') E s) : wpAny (model prog w) A (richCompare .NotEq (.ref x) b) Q E s := by
  have one : wpAny (model prog w) A (tryCompare (.ref x) "__ne__" b) (fun r s' => ∃ v, r = some v ∧ Q v s') E s := by
    have z : wpAny (model prog w) A (call (.builtin "object.__ne__") [.ref x, b]) (fun v s' => ∃ k, v = Value.bool k ∧ Q v s') E s :=
      ne_call (by exact Nat.lt_of_lt_of_le hu (Nat.le_refl _)) X I hmk hs hf (wpAny_mono h (fun v s' ⟨k, e, q⟩ => ⟨k, e, !k, rfl, q⟩) fun _ _ e => e)
    unfold tryCompare
    simp only [callSpecialIfBound?, bindSpecialIfBound?]
    refine wpAny_bind (wpAny_holding (wpAny_bind (wpAny_bind (wpAny_bind (I.type.here ((PySem.W.looks_findIn X hne).here ?_))))))
    refine wpAny_bind (wpAny_askSetting (wpAny_ite ?_))
    have fin : wpAny (model prog w) A (call (.builtin "object.__ne__") ([.ref x] ++ [b]) >>= fun v => pure (some v)) (fun r s' => wpAny (model prog w) A (match r with
      | some .notImplemented | none => pure none
      | some v => pure (some v)) (fun r s' => ∃ v, r = some v ∧ Q v s') E s') E s := by
      refine wpAny_bind (wpAny_mono z (fun v s' hv => ?_) fun _ _ e => e)
      obtain ⟨k, rfl, q⟩ := hv
      exact wpAny_pure (wpAny_pure ⟨_, rfl, q⟩)
    simp only [one_bind]
    split
    · exact wpAny_bind (wpAny_pure (wpAny_pure fin))
    · exact wpAny_tryCatch (wpAny_bind (wpAny_pure (wpAny_pure fin)))
  unfold richCompare
  simp only [oneThing_ref]
  refine wpAny_holding (wpAny_bind (wpAny_cRoomFor (by omega) ?_))
  refine wpAny_bind (I.type.here (wpAny_bind (hb.here ?_)))
  split
  · rename_i q
    have e : PySem.W.subIn K tb (.ref C) = some false := by
      rcases Bool.or_eq_true_iff.mp hn with e | e
      · rw [beq_iff_eq.mp e] at q; simp at q
      · exact beq_iff_eq.mp e
    refine wpAny_bind ((PySem.W.looks_subIn X e).here ?_)
    simp only [Bool.false_eq_true, if_false]
    refine wpAny_bind (wpAny_mono one (fun r s' z => ?_) fun _ _ e => e)
    obtain ⟨v, rfl, hq⟩ := z
    exact wpAny_pure hq
  · refine wpAny_bind (wpAny_pure ?_)
    simp only [Bool.false_eq_true, if_false]
    refine wpAny_bind (wpAny_mono one (fun r s' z => ?_) fun _ _ e => e)
    obtain ⟨v, rfl, hq⟩ := z
    exact wpAny_pure hq
end
/-! ### over data -/
def blR (neg : Bool) (r : Res D) : Res D := match r with
  | .ok (.bl k) z => .ok (.bl (if neg = true then !k else k)) z
  | _ => .bad
section
variable {X : Cx} {Γ : Gam} {B : Bs} {Wx : WX} {k j : Nat} {a b e : Expr} {es : List Expr} {m ma mb : M D} {ml : M (List D)} {pos p : Pos} {f : Addr} {fd : FuncData} {ps : List Str} {F : FM} {x : Str}
theorem run_at {sp : Sp} {pins : List (Addr × Obj)} {σ : Sl} {H : Hp} {s : Shared} {Q : VK} {us : List Value} {vs : List V} (G : FnG X.prog X.w X.K X.mg X.base k f fd ps sp) (hr : Room k X.A) (hg : X.A.guards = some []) (hb : Binds X.K fd ps []) (I : Inv X pins σ H s) (r : Vals vs us) (h : sp vs H Q (fun _ _ _ => False)) :
    wpAny (model X.prog X.w) X.A (call (.ref f) us) (EP X pins σ Q) X.xe s :=
  run_fnG (dvs := []) (ds := []) G hr hg hb .nil (E := fun _ _ _ => False) (fun _ _ _ _ _ _ h => by obtain ⟨_, _, _, _, _, _, _, _, _, _, _, _, z⟩ := h; exact z.elim) I r (by simpa using h)
theorem ownBl_to {w : W} {ρ : En} {z : Z} {σ : Sl} {H : Hp} {ds : List D} {vs : List V} {neg : Bool} {Q : VK} (S : SI Γ B w ρ z σ H) (r : RepL Γ w ds vs) (q : resTo Γ B Wx w ρ σ H (blR neg (F ds z)) (fun d w' _ H' => ∀ v, Rep Γ w' d v → Q v H')) :
    spD Γ ds.length F vs H (fun v H' => ∃ k, v = .bl k ∧ Q (.bl (if neg = true then !k else k)) H') (fun _ _ _ => False) := by
  refine ⟨r.length, w, z, ds, S.wi, r, ?_⟩
  cases ef : F ds z with
  | ok d z2 =>
    rw [ef] at q
    cases d with
    | bl k =>
      intro v w' H' I' s' rv
      cases rv
      exact ⟨k, rfl, q w' H' (S.carry I' s') s' _ (.bl _)⟩
    | _ => exact q.elim
  | exc y z2 => rw [ef] at q; exact q.elim
  | bad => rw [ef] at q; exact q.elim
/-- what stands at the other side of an own == : an instance of the class, an int -/
def OthV (X : Cx) (C : Addr) (y : V) (H : Hp) : Prop := (∃ a dx fs, y = .ref a ∧ H a = some (.ins C dx fs)) ∨ ∃ i, y = .int i ∧ PySem.W.notFirst X.K C (.type "int") = true
theorem OthV.look {pins : List (Addr × Obj)} {σ : Sl} {H : Hp} {s : Shared} {C : Addr} {y : V} {u : Value} (I : Inv X pins σ H s) (r : RelV y u) (h : OthV X C y H) : ∃ tb, PySem.W.Looks (model X.prog X.w) s.heap (typeOf u) tb ∧ PySem.W.notFirst X.K C tb = true := by
  rcases h with ⟨a, dx, fs, rfl, e⟩ | ⟨i, rfl, e⟩
  · cases r
    obtain ⟨ox, od, J, _⟩ := insC_at (X := X) I (.inr ⟨dx, fs, e⟩)
    exact ⟨.ref C, J.type, by simp [PySem.W.notFirst]⟩
  · obtain ⟨t, rfl⟩ := r
    exact ⟨.type "int", PySem.W.Looks.of_pure rfl, e⟩
abbrev rOwnE (X : Cx) (Γ : Gam) (c : Nat) (F : FM) (neg : Bool) : R2 := fun x y H Q => (∃ a dx fs, x = .ref a ∧ H a = some (.ins (Γ.cls c) dx fs)) ∧ OthV X (Γ.cls c) y H ∧ spD Γ 2 F [x, y] H (fun v H' => ∃ k, v = .bl k ∧ Q (.bl (if neg = true then !k else k)) H') (fun _ _ _ => False)
theorem op_eqO (c : Nat) (V : Dv Γ X Wx j) (hs : PySem.W.findIn X.K (.ref (Γ.cls c)) "__eq__" = some (some (.ref f))) (hf : PySem.W.isFn X.K (.ref f) = true) (G : FnG X.prog X.w X.K X.mg X.base k f fd ps (spD Γ 2 F)) (hb : Binds X.K fd ps []) (hj : k + 1 ≤ j) : OpR X (compareOp .Eq) (rOwnE X Γ c F false) := by
  intro pins s σ H x y v u Q I rx ry h
  obtain ⟨⟨a, dx, fs, rfl, ea⟩, oth, q⟩ := h
  obtain ⟨tb, Lb, hn⟩ := oth.look I ry
  cases rx
  obtain ⟨mA, J, _⟩ := ins_get I.hok ea
  obtain ⟨od, J, _⟩ := J.look
  obtain ⟨m0, hF⟩ := I.fr
  show wpAny (model X.prog X.w) X.A (richCompare .Eq (.ref a) u) (EP X pins σ Q) X.xe s
  have hu := V.room.units
  refine PySem.W.cmp_K (op := .Eq) (by omega) hF I.ok.mod.kin J Lb hn hs hf (wpAny_mono (run_at (us := [.ref a, u]) (vs := [.ref a, y]) G (V.room.mono (Nat.le_of_succ_le hj)) V.grd hb I (.cons rfl (.cons ry .nil)) q) (fun v s' z => ?_) fun _ _ z => z)
  obtain ⟨v', H', I', rv, k, rfl, q⟩ := z
  cases (show v = Value.bool k from rv)
  exact ⟨.bl k, H', I', rfl, q⟩
theorem op_neO (c : Nat) (V : Dv Γ X Wx j) (hmk : PySem.W.makesIn X.K (Γ.cls c) = true) (hne : PySem.W.findIn X.K (.ref (Γ.cls c)) "__ne__" = some (some (.builtin "object.__ne__"))) (hs : PySem.W.findIn X.K (.ref (Γ.cls c)) "__eq__" = some (some (.ref f))) (hf : PySem.W.isFn X.K (.ref f) = true)
    (G : FnG X.prog X.w X.K X.mg X.base k f fd ps (spD Γ 2 F)) (hb : Binds X.K fd ps []) (hj : k + 1 ≤ j) : OpR X (compareOp .NotEq) (rOwnE X Γ c F true) := by
  intro pins s σ H x y v u Q I rx ry h
  obtain ⟨⟨a, dx, fs, rfl, ea⟩, oth, q⟩ := h
  obtain ⟨tb, Lb, hn⟩ := oth.look I ry
  cases rx
  obtain ⟨mA, J, _⟩ := ins_get I.hok ea
  obtain ⟨od, J, _⟩ := J.look
  show wpAny (model X.prog X.w) X.A (richCompare .NotEq (.ref a) u) (EP X pins σ Q) X.xe s
  have hu := V.room.units
  refine ne_own (by omega) I.kIn J Lb hn hmk hne hs hf (wpAny_mono (run_in1 (us := [.ref a, u]) (vs := [.ref a, y]) G (V.room.mono hj) V.grd hb I (.cons rfl (.cons ry .nil)) q) (fun v s' z => ?_) fun _ _ z => z)
  obtain ⟨v', H', I', rv, k, rfl, q⟩ := z
  cases (show v = Value.bool k from rv)
  exact ⟨k, rfl, .bl (!k), H', I', rfl, q⟩
/-- x in y, y of the class -/
abbrev rOwnI (Γ : Gam) (c : Nat) (F : FM) : R2 := fun x y H Q => (∃ a dx fs, y = .ref a ∧ H a = some (.ins (Γ.cls c) dx fs)) ∧ spD Γ 2 F [y, x] H (fun v H' => ∃ k, v = .bl k ∧ Q (.bl (if false = true then !k else k)) H') (fun _ _ _ => False)
theorem op_inO (c : Nat) (V : Dv Γ X Wx j) (hs : PySem.W.findIn X.K (.ref (Γ.cls c)) "__contains__" = some (some (.ref f))) (hf : PySem.W.isFn X.K (.ref f) = true) (G : FnG X.prog X.w X.K X.mg X.base k f fd ps (spD Γ 2 F)) (hb : Binds X.K fd ps []) (hj : k + 1 ≤ j) : OpR X (compareOp .In) (rOwnI Γ c F) := by
  intro pins s σ H x y v u Q I rx ry h
  obtain ⟨⟨a, dx, fs, rfl, ea⟩, q⟩ := h
  cases ry
  obtain ⟨mA, J, _⟩ := ins_get I.hok ea
  obtain ⟨od, J, _⟩ := J.look
  obtain ⟨m0, hF⟩ := I.fr
  refine PySem.W.in_K hF I.ok.mod.kin J hs hf (wpAny_mono (run_at (us := [.ref a, v]) (vs := [.ref a, x]) G (V.room.mono (Nat.le_of_succ_le hj)) V.grd hb I (.cons rfl (.cons rx .nil)) q) (fun v s' z => ?_) fun _ _ z => z)
  obtain ⟨v', H', I', rv, k, rfl, q⟩ := z
  cases (show v = Value.bool k from rv)
  exact wpAny_truthy_bool ⟨.bl k, H', I', rfl, q⟩
def othOk (c : Nat) (z : Z) (y : D) : Bool := match y with
  | .int _ => true
  | y => match insOf z y with
    | some p => p.1 == c
    | none => false
def eq2 (c : Nat) (z : Z) (x y : D) : Option (List D) := (insOf z x).bind fun p => if p.1 = c ∧ othOk c z y = true then some [x, y] else none
def in2 (c : Nat) (z : Z) (x y : D) : Option (List D) := (insOf z y).bind fun p => if p.1 = c then some [y, x] else none
def mOwnB (g : Z → D → D → Option (List D)) (neg : Bool) (F : FM) (ma mb : M D) : M D := mBind (mOp2 g ma mb) fun ds _ z => blR neg (F ds z)
theorem Rep.oth {w : W} {z : Z} {H : Hp} {y : D} {u : V} {c : Nat} (r : Rep Γ w y u) (I : WI Γ w z H) (h : othOk c z y = true) (hn : PySem.W.notFirst X.K (Γ.cls c) (.type "int") = true) : OthV X (Γ.cls c) u H := by
  unfold othOk at h
  split at h
  · cases r
    exact .inr ⟨_, rfl, hn⟩
  · split at h
    · rename_i p hp
      obtain ⟨c', fs⟩ := p
      obtain ⟨a, dx, fvs, rfl, g1, _⟩ := r.insAt I hp
      have e : c' = c := by simpa using h
      subst e
      exact .inl ⟨a, dx, fvs, rfl, g1⟩
    · cases h
theorem d_ownC {op : CmpOp} (c : Nat) {neg : Bool} (hn : PySem.W.notFirst X.K (Γ.cls c) (.type "int") = true) (ho : OpR X (compareOp op) (rOwnE X Γ c F neg)) (ha : PE X a (tD Γ B Wx ma)) (hb : PE X b (tD Γ B Wx mb)) (hm : behindInMarks op b = false) : PE X (.Compare a [op] [b] pos) (tD Γ B Wx (mOwnB (eq2 c) neg F ma mb)) :=
  pe_weak (pe_cmpR ho ha hb hm) fun σ H Q ⟨w, ρ, z, S, q⟩ => by
    refine ⟨w, ρ, z, S, q.bind.bind.mono fun d w1 z1 H1 _ _ ⟨S1, s1, q1⟩ x rx => ⟨w1, ρ, z1, S1, q1.bind.mono fun d2 w2 z2 H2 _ _ ⟨S2, s2, q2⟩ y ry => ?_⟩⟩
    obtain ⟨ds, hp, q3⟩ := q2.opt
    unfold eq2 at hp
    obtain ⟨⟨c1, f1⟩, g1, hp⟩ := Option.bind_eq_some_iff.mp hp
    obtain ⟨rfl, rfl, g2⟩ := ite_some hp
    obtain ⟨xa, dx, fx, rfl, e1, _⟩ := (rx.step s2).insAt S2.wi g1
    have q4 := (q3 w2 H2 S2 (.refl _ _)).2.2
    exact ⟨⟨xa, dx, fx, rfl, e1⟩, ry.oth S2.wi g2 hn, ownBl_to S2 (.cons (rx.step s2) (.cons ry .nil)) q4⟩
theorem d_inO (c : Nat) (ho : OpR X (compareOp .In) (rOwnI Γ c F)) (ha : PE X a (tD Γ B Wx ma)) (hb : PE X b (tD Γ B Wx mb)) (hm : behindInMarks .In b = false) : PE X (.Compare a [.In] [b] pos) (tD Γ B Wx (mOwnB (in2 c) false F ma mb)) :=
  pe_weak (pe_cmpR ho ha hb hm) fun σ H Q ⟨w, ρ, z, S, q⟩ => by
    refine ⟨w, ρ, z, S, q.bind.bind.mono fun d w1 z1 H1 _ _ ⟨S1, s1, q1⟩ x rx => ⟨w1, ρ, z1, S1, q1.bind.mono fun d2 w2 z2 H2 _ _ ⟨S2, s2, q2⟩ y ry => ?_⟩⟩
    obtain ⟨ds, hp, q3⟩ := q2.opt
    unfold in2 at hp
    obtain ⟨⟨c1, f1⟩, g1, hp⟩ := Option.bind_eq_some_iff.mp hp
    obtain ⟨rfl, rfl⟩ := ite_some hp
    obtain ⟨xa, dx, fx, rfl, e1, _⟩ := ry.insAt S2.wi g1
    have q4 := (q3 w2 H2 S2 (.refl _ _)).2.2
    exact ⟨⟨xa, dx, fx, rfl, e1⟩, ownBl_to S2 (.cons ry (.cons (rx.step s2) .nil)) q4⟩
/-- the truth of an instance by its own __bool__ -/
def mOwnT (c : Nat) (F : FM) (m : M D) : M Bool := mBind (mBind (mOp1 (fun z d => (insOf z d).bind fun p => if p.1 = c then some d else none) m) fun d _ z => blR false (F [d] z)) fun d => mOpt fun _ => match d with
  | .bl k => some k
  | _ => none
theorem t_own (c : Nat) (V : Dv Γ X Wx j) (hs : PySem.W.findIn X.K (.ref (Γ.cls c)) "__bool__" = some (some (.ref f))) (hf : PySem.W.isFn X.K (.ref f) = true) (G : FnG X.prog X.w X.K X.mg X.base k f fd ps (spD Γ 1 F)) (hb : Binds X.K fd ps []) (he : PE X e (tD Γ B Wx m)) (hj : k + 1 ≤ j := by decide)
    (hi : ∀ whole, isTrue e X.env whole = (do let v ← whole; standAt e.pos; holding [v] (truthy v)) := by intro _; rfl) : PT X e (tDT Γ B Wx (mOwnT c F m)) := by
  have hr : TruR X (fun x H Q => (∃ a dx fs, x = .ref a ∧ H a = some (.ins (Γ.cls c) dx fs)) ∧ spD Γ 1 F [x] H (fun v H' => ∃ k, v = .bl k ∧ Q k H') (fun _ _ _ => False)) := by
    intro pins s σ H x v Q I rx h
    obtain ⟨⟨a, dx, fs, rfl, ea⟩, q⟩ := h
    cases rx
    obtain ⟨mA, J, _⟩ := ins_get I.hok ea
    obtain ⟨od, J, _⟩ := J.look
    obtain ⟨m0, hF⟩ := I.fr
    refine PySem.W.truthy_K hF I.ok.mod.kin J hs hf (wpAny_mono (run_at (us := [.ref a]) (vs := [.ref a]) (Q := fun v H' => ∃ k, v = .bl k ∧ Q k H') G (V.room.mono (Nat.le_of_succ_le hj)) V.grd hb I (.cons rfl .nil) q) (fun v s' z => ?_) fun _ _ z => z)
    obtain ⟨v', H', I', rv, k, rfl, q⟩ := z
    cases (show v = Value.bool k from rv)
    exact ⟨H', I', q⟩
  refine pt_weak (pt_truthR he hr hi) fun σ H Q ⟨w, ρ, z, S, q⟩ => ⟨w, ρ, z, S, q.bind.bind.bind.mono fun d w1 z1 H1 _ _ ⟨S1, s1, q1⟩ v rv => ?_⟩
  obtain ⟨o, ho, q2⟩ := q1.opt
  obtain ⟨⟨c1, f1⟩, g1, hp⟩ := Option.bind_eq_some_iff.mp ho
  obtain ⟨rfl, rfl⟩ := ite_some hp
  obtain ⟨xa, dx, fx, rfl, e1, _⟩ := rv.insAt S1.wi g1
  have q4 : resTo Γ B Wx w1 ρ σ H1 (blR false (F [o] z1)) _ := (q2 w1 H1 S1 (.refl _ _)).2.2
  refine ⟨⟨xa, dx, fx, rfl, e1⟩, rfl, w1, z1, [o], S1.wi, .cons rv .nil, ?_⟩
  cases ef : F [o] z1 with
  | ok d z2 =>
    rw [ef] at q4
    cases d with
    | bl k =>
      intro v w' H' I' s' rv
      cases rv
      obtain ⟨S5, s5, q5⟩ := q4 w' H' (S1.carry I' s') s'
      obtain ⟨k', hk, q6⟩ := q5.opt
      cases hk
      exact ⟨k, rfl, q6.ok S5⟩
    | _ => exact q4.elim
  | exc y z2 => rw [ef] at q4; exact q4.elim
  | bad => rw [ef] at q4; exact q4.elim
end
@[simp] theorem ap_ownB {ρ : En} {z : Z} (g : Z → D → D → Option (List D)) (neg : Bool) (F : FM) (ma mb : M D) : mOwnB g neg F ma mb ρ z = (ma ρ z).bind fun x z1 => (mb ρ z1).bind fun y z2 => (ofO (g z2 x y) z2).bind fun ds z3 => blR neg (F ds z3) := by
  simp [mOwnB]
@[simp] theorem ap_ownT {ρ : En} {z : Z} (c : Nat) (F : FM) (m : M D) : mOwnT c F m ρ z = (m ρ z).bind fun d z1 => (ofO ((insOf z1 d).bind fun p => if p.1 = c then some d else none) z1).bind fun d z2 => (blR false (F [d] z2)).bind fun d z3 => ofO (match d with | .bl k => some k | _ => none) z3 := by
  simp only [mOwnT, ap_bind, ap_op1, ap_opt]
  cases m ρ z with
  | ok d z1 =>
    simp only [Res.bind]
    cases (ofO ((insOf z1 d).bind fun p => if p.1 = c then some d else none) z1) <;> rfl
  | _ => rfl
end NW
set_option maxHeartbeats 1000000
/-! min, max as rules of calls by name; simp rules for mirrors. -/
namespace NW
open PySem PySem.Spec PyProof.Rows L2
/-- a comprehension within a comprehension -/
theorem blkOk_in {N : List Str} {sc scope : Scope} {own : List (Str × Nat)} {cl : List (Str × Addr)} {C : Addr} {env : Env} (h : (blkC N sc scope own && scope.names.all fun y => y.2 != .free) = true) : BlkOk N (compEnvC sc cl C env).scope scope own := by
  obtain ⟨h1, h2⟩ := Bool.and_eq_true_iff.mp h
  have b := blkOk_by (sc := sc) h1
  refine ⟨b.kind, b.uniq, b.ix, fun y hy e => ?_, b.own⟩
  have := List.all_eq_true.mp h2 y hy
  rw [e] at this
  exact absurd this (by decide)
section
variable {X : Cx} {Γ : Gam}
theorem cr_maxS (hK : X.K = Γ.K) (hc : X.calm = true) : CallR X (.builtin "max") (rBest true Γ.K) := by rw [← hK]; exact cr_best true hc
theorem cr_minS (hK : X.K = Γ.K) (hc : X.calm = true) : CallR X (.builtin "min") (rBest false Γ.K) := by rw [← hK]; exact cr_best false hc
end
end NW
set_option maxHeartbeats 1000000
/-! Unpacking of a tuple or a list. -/
namespace NW
open PySem PySem.Spec PyProof.Rows L2
def seqT (n : Nat) (g : TgsF) : TgF := fun d ρ => match d with
  | .tup ds => if ds.length = n then g ds ρ else none
  | .lst ds => if ds.length = n then g ds ρ else none
  | _ => none
section
variable {X : Cx} {Γ : Gam} {B : Bs} {pos : Pos}
theorem g_seq {es : List Expr} {kk n : Nat} {sl : List Nat} {g : TgsF} (hK : X.K = Γ.K) (hc : X.calm = true) (h : PGs X es (gDs Γ B sl g)) (hn : (assignEach es X.env).length = n := by rfl) (hst : (assignEach es X.env).findIdx? (·.1) = none := by rfl) : PG X (.Tuple es kk pos) (gD Γ B sl (seqT n g)) := by
  refine ⟨fun pins s σ H v u Q I r hq => ?_⟩
  obtain ⟨w, ρ, z, d, S, rd, ρ', e, q⟩ := hq
  unfold seqT at e
  split at e
  · split at e
    · cases rd with
      | tup h1 h2 =>
        refine (pg_tup hc h hn hst).run pins s σ H _ u Q I r ?_
        exact ⟨_, _, rfl, by rw [hK]; exact S.KT h1, by rw [h2.length]; assumption, w, ρ, z, _, S, h2, ρ', e, q⟩
    · cases e
  · split at e
    · cases rd with
      | lst h1 h2 =>
        refine (pg_unl hc h hn hst).run pins s σ H _ u Q I r ?_
        exact ⟨_, _, rfl, by rw [hK]; exact SqL.le S.wi.le h1.sq, by rw [h2.length]; assumption, w, ρ, z, _, S, h2, ρ', e, q⟩
    · cases e
  · cases e
end
@[simp] theorem seqT_tup (n : Nat) (g : TgsF) (ds : List D) (ρ : En) : seqT n g (.tup ds) ρ = if ds.length = n then g ds ρ else none := rfl
@[simp] theorem seqT_lst (n : Nat) (g : TgsF) (ds : List D) (ρ : En) : seqT n g (.lst ds) ρ = if ds.length = n then g ds ρ else none := rfl
end NW
set_option maxHeartbeats 1000000
/-! Own + with a tuple or a list; bool and repr by own methods; clear of a new list. -/
namespace NW
open PySem PySem.Spec PyProof.Rows L2 StX
section
variable {prog : Program} {w : World} {A : Around} {E : Value → Shared → Prop} {s : Shared} {K : PySem.W.Frag} {x C f : Addr} {ox : Obj} {od : Option Obj} {b : Value}
open PySem.W in
theorem bin_ownT {op : Operator} {T : String} {fo ro : Option Value} {Q : Value → Shared → Prop} (KX : K.In s.heap) (I : InstAt s.heap x ox C od) (hb : Looks (model prog w) s.heap (typeOf b) (.type T)) (hc : selfFirst K C = true)
    (hs : findIn K (.ref C) (PySem.dunder op.info.2) = some (some (.ref f))) (hf : isFn K (.ref f) = true) (hr : findIn K (.ref C) (dunderR op.info.2) = some none)
    (h1 : findIn K (.type T) (PySem.dunder op.info.2) = some fo) (h2 : findIn K (.type T) (dunderR op.info.2) = some ro) (hsub : subIn K (.type T) (.ref C) = some false)
    (hq : wpAny (model prog w) A (call (.ref f) [.ref x, b]) (fun v s' => v ≠ .notImplemented ∧ Q v s') E s) : wpAny (model prog w) A (binaryOp op (.ref x) b) Q E s := by
  obtain ⟨cd, rest, hcd, hm⟩ := ksp_first hc
  have one : wpAny (model prog w) A (tryMethod (.ref x) (PySem.dunder op.info.2) b) (fun r s' => ∃ v, r = some v ∧ Q v s') E s := ksp_try KX I hs hf (wpAny_mono hq (fun v s' ⟨n, q⟩ => by cases v <;> first | exact absurd rfl n | exact q) fun _ _ e => e)
  generalize hi : op.info = inf at *
  obtain ⟨sy, nm⟩ := inf
  dsimp only at *
  obtain ⟨hp, g, d, tk, os⟩ := s
  have La : Looks (model prog w) hp (typeOf (.ref x)) (.ref C) := I.type
  have Lb : Looks (model prog w) hp (fillsNumberSlot (.ref C) nm) true := fills_K KX hcd hm hs
  have Lc : Looks (model prog w) hp (fillsNumberSlot (.type T) nm) ((fo.isSome && !isSeqSlot fo) || (ro.isSome && !isSeqSlot ro)) := ksp_fillsT KX h1 h2
  have Ld : Looks (model prog w) hp (isSubtype (.type T) (.ref C)) false := looks_subIn KX hsub
  have Le : Looks (model prog w) hp (numberSlotInPython (.ref C) nm) true := ksp_inPy KX hs hr (.inl rfl)
  have Lf : Looks (model prog w) hp (numberSlotInPython (.type T) nm) false := Looks.of_pure rfl
  have Lg : Looks (model prog w) hp (typeLookup (.type T) (dunderR nm)) ro := looks_findIn KX h2
  generalize ((fo.isSome && !isSeqSlot fo) || (ro.isSome && !isSeqSlot ro)) = rg at Lc
  have ne : (Value.ref C == Value.type T) = false := by
    cases e : (Value.ref C == Value.type T) with
    | false => rfl
    | true => cases beq_iff_eq.mp e
  simp only [binaryOp, hi]
  refine wpAny_holding (wpAny_bind ?_)
  unfold binaryOp1
  refine wpAny_bind (La.at (wpAny_bind (hb.at (wpAny_bind (Lb.at ?_)))))
  simp only [ne, Bool.false_eq_true, if_false]
  cases rg <;>
    (ksp_lk
     refine wpAny_mono one (fun r s' z => ?_) fun _ _ e => e
     obtain ⟨v, rfl, q⟩ := z
     ksp_lk
     exact q)
theorem bool_call {v : Value} {Q : Value → Shared → Prop} (h : wpAny (model prog w) A.in1.in1 (truthy v) (fun k s' => Q (.bool k) s') E s) : wpAny (model prog w) A (call (.type "bool") [v]) Q E s := by
  obtain ⟨_, _, hmro⟩ := F.called_bool.mro
  have g1 := F.called_bool.made
  have g2 := F.called_bool.sub
  have g3 := F.called_bool.notType
  have g4 := F.called_bool.canCreate
  have hct := F.typeCall_bool_1 v
  refine wpAny_call (codeAny_of_tree ?_)
  show wpAny _ _ (callAny (.type "bool") _) _ _ _
  refine wpAny_pure ⟨Code.quiet_builtin _ (by decide +kernel), codeAny_builtin F.entry_type_call ?_⟩
  rw [Around.under_plain (weight_type_call_type "bool" [v] []) rfl]
  repeat (any_goals (first | assumption | wp_step))
  refine codeAny_mono (codeAny_call_builtin (R := wants (fun r s₁ => ∃ k, r = .bool k ∧ Q (.bool k) s₁) E) F.called_bool.plain F.entry_bool_new (wpAny_of_eq (F.newCall_bool_1 v) ?_)) fun r s₁ hr => ?_
  · unfold Builtin.«bool.__new__»
    obtain ⟨hp, g, d, tk, os⟩ := s
    have f1 := F.conv_sub_bool
    repeat (any_goals (first | assumption | wp_step))
    show wpAny (model prog w) A.in1.in1 (truthy v) _ _ _
    exact wpAny_mono h (fun k s' q => wpAny_pure ⟨k, rfl, q⟩) fun _ _ e => e
  · cases r with
    | error e => exact hr
    | ok fl =>
      cases fl with
      | ret r =>
        obtain ⟨k, rfl, q⟩ := hr
        have i1 := F.called_bool.init.lookup
        have i2 := F.called_bool.init.bind (.bool k)
        repeat (any_goals (first | assumption | wp_step))
        refine codeAny_mono (codeAny_call_builtin (R := wants (fun r s₂ => r = .none ∧ Q (.bool k) s₂) E) F.called_bool.init.plain F.entry_object_init (F.called_bool.init.check _ _ _ _ _ _ _ _ (show s₁.TypeIs (.bool k) "bool" from rfl) (F.args_object_init_2 (.bool k) v)
          (object_init_meets F.called_bool.init.lookup F.called_bool.made F.newNe_bool prog w _ _ s₁ ⟨rfl, rfl, q⟩))) fun r₂ s₂ hr₂ => ?_
        cases r₂ with
        | error e => exact hr₂
        | ok fl₂ =>
          cases fl₂ with
          | ret r =>
            obtain ⟨rfl, hq⟩ := hr₂
            repeat (any_goals (first | assumption | wp_step))
          | next => exact hr₂.elim
          | brk => exact hr₂.elim
          | cont => exact hr₂.elim
      | next => exact hr.elim
      | brk => exact hr.elim
      | cont => exact hr.elim
end
section
variable {X : Cx} {Γ : Gam} {B : Bs} {Wx : WX} {k j : Nat} {a b e o : Expr} {es : List Expr} {m ma mb : M D} {mo : M (List D)} {ml : M (List D)} {pos p : Pos} {f : Addr} {fd : FuncData} {ps : List Str} {F : FM} {x : Str}
/-- what an own + of a class asks of the other side's types -/
structure SeqAdd (K : PySem.W.Frag) (C : Addr) : Prop where
  sf : PySem.W.selfFirst K C = true
  r : PySem.W.findIn K (.ref C) (PySem.dunderR "add") = some none
  t1 : PySem.W.findIn K (.type "tuple") (PySem.dunder "add") = some (some (.builtin "tuple.__add__"))
  t2 : PySem.W.findIn K (.type "tuple") (PySem.dunderR "add") = some none
  t3 : PySem.W.subIn K (.type "tuple") (.ref C) = some false
  l1 : PySem.W.findIn K (.type "list") (PySem.dunder "add") = some (some (.builtin "list.__add__"))
  l2 : PySem.W.findIn K (.type "list") (PySem.dunderR "add") = some none
  l3 : PySem.W.subIn K (.type "list") (.ref C) = some false
def isSeq : D → Bool
  | .tup _ => true
  | .lst _ => true
  | _ => false
def addTo (c : Nat) (z : Z) (x y : D) : Option (List D) := (insOf z x).bind fun p => if p.1 = c ∧ isSeq y = true then some [x, y] else none
def mAddT (c : Nat) (F : FM) (ma mb : M D) : M D := mBind (mOp2 (addTo c) ma mb) fun ds _ z => F ds z
theorem seq_look {w : W} {ρ : En} {z : Z} {σ : Sl} {H : Hp} {pins : List (Addr × Obj)} {s : Shared} {d : D} {v : V} {u : Value} (hK : X.K = Γ.K) (I : Inv X pins σ H s) (S : SI Γ B w ρ z σ H) (r : Rep Γ w d v) (h : isSeq d = true) (ru : RelV v u) :
    PySem.W.Looks (model X.prog X.w) s.heap (typeOf u) (.type "tuple") ∨ PySem.W.Looks (model X.prog X.w) s.heap (typeOf u) (.type "list") := by
  cases d with
  | tup ds =>
    obtain ⟨a, xs, rfl, h1, _⟩ := RepB.tuple (.of r) S
    cases ru
    rw [← hK] at h1
    obtain ⟨its, _, ⟨o, e1, e2, _⟩, _⟩ := I.tuple h1
    exact .inl fun A Q E s' k q => wpAny_typeOf_ref (k _ _ e1) (by rw [e2]; exact q)
  | lst ds =>
    obtain ⟨a, xs, rfl, h1, _⟩ := RepB.list (.of r) S
    cases ru
    have h2 := h1.sq
    rw [← hK] at h2
    obtain ⟨its, _, pl, _⟩ := I.list h2
    obtain ⟨o, e1, e2, _⟩ := pl.isList
    exact .inr fun A Q E s' k q => wpAny_typeOf_ref (k _ _ e1) (by rw [e2]; exact q)
  | _ => cases h
theorem d_addT (c : Nat) (V : Dv Γ X Wx j) (ad : SeqAdd X.K (Γ.cls c)) (hs : PySem.W.findIn X.K (.ref (Γ.cls c)) "__add__" = some (some (.ref f))) (hf : PySem.W.isFn X.K (.ref f) = true) (G : FnG X.prog X.w X.K X.mg X.base k f fd ps (spD Γ 2 F)) (hb : Binds X.K fd ps [])
    (ha : PE X a (tD Γ B Wx ma)) (hbb : PE X b (tD Γ B Wx mb)) (hj : k ≤ j := by decide) : PE X (.BinOp a .Add b pos) (tD Γ B Wx (mAddT c F ma mb)) := by
  refine ⟨fun pins s σ H Q I ⟨w, ρ, z, S, q⟩ => ?_⟩
  refine wpAny_BinOp (binT (R := fun x y H => (∃ w ρ z d, SI Γ B w ρ z σ H ∧ Rep Γ w d y ∧ isSeq d = true) ∧ (∃ xa dx fx, x = .ref xa ∧ H xa = some (.ins (Γ.cls c) dx fx)) ∧ spD Γ 2 F [x, y] H Q (fun cls dd H' => Wx cls dd σ H')) ha hbb I ⟨w, ρ, z, S, ?_⟩ fun v u s2 x y H2 I2 rx ry q => ?_)
  · exact q.bind.bind.mono fun d w1 z1 H1 _ _ ⟨S1, s1, q1⟩ x rx => ⟨w1, ρ, z1, S1, q1.bind.mono fun d2 w2 z2 H2 _ _ ⟨S2, s2, q2⟩ y ry => by
      obtain ⟨pr, hp, q3⟩ := q2.opt
      unfold addTo at hp
      obtain ⟨⟨c1, f1⟩, g1, hp⟩ := Option.bind_eq_some_iff.mp hp
      obtain ⟨rfl, rfl, hq⟩ := ite_some hp
      obtain ⟨xa, dx, fx, rfl, e1, _⟩ := (rx.step s2).insAt S2.wi g1
      have q4 := (q3 w2 H2 S2 (.refl _ _)).2.2
      exact ⟨⟨w2, ρ, z2, d2, S2, ry, hq⟩, ⟨xa, dx, fx, rfl, e1⟩, app_to (n := 2) S2 (.cons (rx.step s2) (.cons ry .nil)) q4⟩⟩
  · obtain ⟨⟨w2, ρ2, z2, d2, S2, rd, hd⟩, ⟨xa, dx, fx, rfl, e1⟩, q⟩ := q
    cases rx
    obtain ⟨ox, od, J1, _⟩ := insC_at (X := X) I2 (.inr ⟨dx, fx, e1⟩)
    have run := wpAny_mono (run_fnG (us := [.ref xa, u]) (vs := [.ref xa, y]) (dvs := []) G (V.room.mono hj) V.grd hb .nil (passAt V.tk σ) I2 (.cons rfl (.cons ry .nil)) (by simpa using q)) (fun v s' (hv : EP X pins σ Q v s') => (⟨fun e => by
      obtain ⟨v', H', _, rv, _⟩ := hv
      subst e
      cases v' <;> first | (obtain ⟨_, h⟩ := rv; cases h; done) | (cases rv; done), hv⟩ : v ≠ .notImplemented ∧ EP X pins σ Q v s')) fun _ _ e => e
    rcases seq_look V.hK I2 S2 rd hd ry with L | L
    · exact bin_ownT (op := .Add) I2.kIn J1 L ad.sf hs hf ad.r ad.t1 ad.t2 ad.t3 run
    · exact bin_ownT (op := .Add) I2.kIn J1 L ad.sf hs hf ad.r ad.l1 ad.l2 ad.l3 run
/-- a def called from within a built-in's call of a built-in -/
theorem run_in2 {sp : Sp} {pins : List (Addr × Obj)} {σ : Sl} {H : Hp} {s : Shared} {Q : VK} {us : List Value} {vs : List V} (G : FnG X.prog X.w X.K X.mg X.base k f fd ps sp) (hr : Room (k + 2) X.A) (hg : X.A.guards = some []) (hb : Binds X.K fd ps []) (I : Inv X pins σ H s) (r : Vals vs us) (h : sp vs H Q (fun _ _ _ => False)) :
    wpAny (model X.prog X.w) X.A.in1.in1 (call (.ref f) us) (EP X pins σ Q) X.xe s := by
  have e0 : Env0 X.prog X.w X.K X.mg X.base X.A.in1.in1 X.stack s H := by
    have e := I.env0
    exact ⟨e.frames, e.mod, e.bs, e.bsz, e.funs, e.frf, e.hok, e.bare⟩
  have hl : us.length = ps.length := by rw [← r.length]; exact G.len _ _ _ _ h
  have bb := hb s us I.kIn (by rw [List.append_nil]; exact hl)
  rw [List.append_nil] at bb
  refine wpAny_call (codeAny_mono (G.run X.A.in1.in1 X.stack s H ⟨us, []⟩ us vs Q _ hr.in1.in1 hg e0 bb r h) fun r s' hq => ?_)
  cases r with
  | error e => obtain ⟨_, _, _, _, _, _, _, _, _, _, _, _, z⟩ := hq; exact z.elim
  | ok fl =>
    cases fl with
    | ret u => exact I.after hq
    | next => exact False.elim hq
    | brk => exact False.elim hq
    | cont => exact False.elim hq
def ofC (c : Nat) (z : Z) (d : D) : Option D := (insOf z d).bind fun p => if p.1 = c then some d else none
/-- bool(o) by an own __bool__ -/
def mBoolO (c : Nat) (F : FM) (m : M D) : M D := mBind (mOp1 (ofC c) m) fun d _ z => blR false (F [d] z)
theorem d_boolO (c : Nat) (V : Dv Γ X Wx j) (hs : PySem.W.findIn X.K (.ref (Γ.cls c)) "__bool__" = some (some (.ref f))) (hf : PySem.W.isFn X.K (.ref f) = true) (G : FnG X.prog X.w X.K X.mg X.base k f fd ps (spD Γ 1 F)) (hb : Binds X.K fd ps []) (hm : X.mg "bool" = none) (he : PE X e (tD Γ B Wx m)) (hj : k + 2 ≤ j := by decide) (hg : Gl X "bool" := by rfl)
    (hst : starEach [e] X.env = (false, eval e X.env) :: starEach [] X.env := by rfl) (hpl : (backTo pos (starEach [] X.env)).any (·.1) = false := by rfl) : PE X (.Call (.Name "bool" p) [e] [] pos) (tD Γ B Wx (mBoolO c F m)) := by
  have hc : CallR X (.type "bool") (fun vs H Q => ∃ a dx fs, vs = [.ref a] ∧ H a = some (.ins (Γ.cls c) dx fs) ∧ spD Γ 1 F [.ref a] H (fun v H' => ∃ k, v = .bl k ∧ Q (.bl (if false = true then !k else k)) H') (fun _ _ _ => False)) := by
    rintro pins s σ H vs us Q I r ⟨a, dx, fs, rfl, ha, hq⟩
    obtain ⟨u, rfl, ru⟩ := r.one
    cases ru
    obtain ⟨mA, J, _⟩ := ins_get I.hok ha
    obtain ⟨od, J, _⟩ := J.look
    obtain ⟨m0, hF⟩ := I.fr
    refine bool_call (PySem.W.truthy_K hF I.ok.mod.kin J hs hf (wpAny_mono (run_in2 (us := [.ref a]) (vs := [.ref a]) G (V.room.mono hj) V.grd hb I (.cons rfl .nil) hq) (fun v s' z => ?_) fun _ _ z => z))
    obtain ⟨v', H', I', rv, k, rfl, q⟩ := z
    cases (show v = Value.bool k from rv)
    exact ⟨.bl k, H', I', rfl, q⟩
  refine pe_weak (pe_callTy hc hg hm (by decide +kernel) (pa_cons he pa_nil hst) (by decide) (by decide) hst hpl) fun σ H Q ⟨w, ρ, z, S, q⟩ => ⟨w, ρ, z, S, q.bind.bind.mono fun d w1 z1 H1 _ _ ⟨S1, s1, q1⟩ v rv => ?_⟩
  obtain ⟨o, ho, q2⟩ := q1.opt
  obtain ⟨⟨c1, f1⟩, g1, hp⟩ := Option.bind_eq_some_iff.mp ho
  obtain ⟨rfl, rfl⟩ := ite_some hp
  obtain ⟨a, dx, fvs, rfl, g2, _⟩ := rv.insAt S1.wi g1
  have q4 : resTo Γ B Wx w1 ρ σ H1 (blR false (F [o] z1)) _ := (q2 w1 H1 S1 (.refl _ _)).2.2
  exact ⟨a, dx, fvs, rfl, g2, ownBl_to S1 (.cons rv .nil) q4⟩
/-- repr(o) by an own __repr__ -/
def stR (r : Res D) : Res D := match r with
  | .ok (.str x) z => .ok (.str x) z
  | _ => .bad
def mReprO (c : Nat) (F : FM) (m : M D) : M D := mBind (mOp1 (ofC c) m) fun d _ z => stR (F [d] z)
theorem d_reprO (c : Nat) (V : Dv Γ X Wx j) (hs : PySem.W.findIn X.K (.ref (Γ.cls c)) "__repr__" = some (some (.ref f))) (hf : PySem.W.isFn X.K (.ref f) = true) (G : FnG X.prog X.w X.K X.mg X.base k f fd ps (spD Γ 1 F)) (hb : Binds X.K fd ps []) (hm : X.mg "repr" = none) (he : PE X e (tD Γ B Wx m)) (hj : k + 1 ≤ j := by decide) (hg : Gl X "repr" := by rfl)
    (hst : starEach [e] X.env = (false, eval e X.env) :: starEach [] X.env := by rfl) (hpl : (backTo pos (starEach [] X.env)).any (·.1) = false := by rfl) : PE X (.Call (.Name "repr" p) [e] [] pos) (tD Γ B Wx (mReprO c F m)) := by
  have hc : CallR X (.builtin "repr") (fun vs H Q => ∃ a dx fs, vs = [.ref a] ∧ H a = some (.ins (Γ.cls c) dx fs) ∧ spD Γ 1 F [.ref a] H (fun v H' => ∃ x, v = .str x ∧ Q (.str x) H') (fun _ _ _ => False)) := by
    rintro pins s σ H vs us Q I r ⟨a, dx, fs, rfl, ha, hq⟩
    obtain ⟨u, rfl, ru⟩ := r.one
    cases ru
    obtain ⟨mA, J, _⟩ := ins_get I.hok ha
    obtain ⟨od, J, _⟩ := J.look
    obtain ⟨m0, hF⟩ := I.fr
    have hu := V.room.units
    refine PySem.W.repr_K (by exact Nat.lt_of_lt_of_le (by show X.A.units + 1 < _; omega) (Nat.le_refl _)) hF I.ok.mod.kin J hs hf (wpAny_mono (run_in1 (us := [.ref a]) (vs := [.ref a]) G (V.room.mono hj) V.grd hb I (.cons rfl .nil) hq) (fun v s' z => ?_) fun _ _ z => z)
    obtain ⟨v', H', I', rv, x, rfl, q⟩ := z
    obtain ⟨t, rfl⟩ := rv
    exact ⟨.str x, H', I', ⟨_, rfl⟩, q⟩
  refine pe_weak (pe_callB hc hg hm (by decide +kernel) (pa_cons he pa_nil hst) (by decide) (by decide) hst hpl) fun σ H Q ⟨w, ρ, z, S, q⟩ => ⟨w, ρ, z, S, q.bind.bind.mono fun d w1 z1 H1 _ _ ⟨S1, s1, q1⟩ v rv => ?_⟩
  obtain ⟨o, ho, q2⟩ := q1.opt
  obtain ⟨⟨c1, f1⟩, g1, hp⟩ := Option.bind_eq_some_iff.mp ho
  obtain ⟨rfl, rfl⟩ := ite_some hp
  obtain ⟨a, dx, fvs, rfl, g2, _⟩ := rv.insAt S1.wi g1
  have q4 : resTo Γ B Wx w1 ρ σ H1 (stR (F [o] z1)) _ := (q2 w1 H1 S1 (.refl _ _)).2.2
  refine ⟨a, dx, fvs, rfl, g2, rfl, w1, z1, [o], S1.wi, .cons rv .nil, ?_⟩
  cases ef : F [o] z1 with
  | ok d z2 =>
    rw [ef] at q4
    cases d with
    | str x =>
      intro v w' H' I' s' rv'
      cases rv'
      exact ⟨x, rfl, q4 w' H' (S1.carry I' s') s' _ (.str _)⟩
    | _ => exact q4.elim
  | exc y z2 => rw [ef] at q4; exact q4.elim
  | bad => rw [ef] at q4; exact q4.elim
/-- a new list, cleared and left -/
def mClear (mo : M (List D)) : M D := mBind mo fun _ => mRet .non
theorem d_clear {apos cpos : Pos} (hK : X.K = Γ.K) (ho : PE X o (tF Γ B Wx mo)) (hbase : attributeBase o "clear" X.env (eval o X.env) = eval o X.env := by rfl) (hline : (apos.endLine == cpos.line) = true := by rfl) : PE X (.Call (.Attribute o "clear" apos) [] [] cpos) (tD Γ B Wx (mClear mo)) :=
  pe_weak (pe_bm0 PySem.F.plainAttrs_list PySem.F.slot_list_clear rfl mt_clear ho hbase hline) fun σ H Q ⟨w, ρ, z, S, q⟩ => by
  refine ⟨w, ρ, z, S, ?_⟩
  have q' : resTo Γ B Wx w ρ σ H ((mo ρ z).bind fun _ z1 => (.ok .non z1 : Res D)) _ := q
  cases hm : mo ρ z with
  | exc x z1 => rw [hm] at q'; exact q'
  | bad => rw [hm] at q'; exact q'
  | ok ds z1 =>
    rw [hm] at q'
    intro w1 H1 S1 s1 p own hR hpl hp
    obtain ⟨xs, e1, _⟩ := own
    obtain ⟨n1, n2⟩ := S.notOwn (w' := w) hp
    refine ⟨?_, p, xs, rfl, rfl, e1, ?_⟩
    · exact .inl ⟨rfl, xs, SqL.of e1⟩
    · exact q' w1 _ (S1.mut hR hpl (fun i u h e => n1 i u h e) n2 (.inl ⟨_, e1⟩)) (s1.mut hp) _ .non
end
@[simp] theorem ap_addT {ρ : En} {z : Z} (c : Nat) (F : FM) (ma mb : M D) : mAddT c F ma mb ρ z = (ma ρ z).bind fun x z1 => (mb ρ z1).bind fun y z2 => (ofO (addTo c z2 x y) z2).bind fun ds z3 => F ds z3 := by
  simp [mAddT]
@[simp] theorem ap_boolO {ρ : En} {z : Z} (c : Nat) (F : FM) (m : M D) : mBoolO c F m ρ z = (m ρ z).bind fun d z1 => (ofO (ofC c z1 d) z1).bind fun d z2 => blR false (F [d] z2) := by
  simp only [mBoolO, ap_bind, ap_op1]
  cases m ρ z <;> rfl
@[simp] theorem ap_reprO {ρ : En} {z : Z} (c : Nat) (F : FM) (m : M D) : mReprO c F m ρ z = (m ρ z).bind fun d z1 => (ofO (ofC c z1 d) z1).bind fun d z2 => stR (F [d] z2) := by
  simp only [mReprO, ap_bind, ap_op1]
  cases m ρ z <;> rfl
@[simp] theorem ap_clear {ρ : En} {z : Z} (mo : M (List D)) : mClear mo ρ z = (mo ρ z).bind fun _ z1 => .ok .non z1 := rfl
end NW
set_option maxHeartbeats 400000
/-! Calls of a def with its one argument by keyword; own == and != as tests. -/
namespace NW
open PySem PySem.Spec PyProof.Rows L2
section
variable {X : Cx} {Γ : Gam} {B : Bs} {Wx : WX} {k j : Nat} {e : Expr} {m : M D} {pos p kp : Pos} {f : Addr} {fd : FuncData} {F : FM} {x y : Str}
theorem fun_kb {K : PySem.W.Frag} {x qual y : Str} {st : Stmt} {f : Addr} {fd : FuncData} (F : Fun K x qual st f fd)
    (h : ∀ (kV doc pm : Value) (an : Option Addr) (cdv ct w : Value), bindArgs (PySem.W.fnOf x qual (defArgs st) (defBody st) (defScope st) .none kV doc pm an cdv ct) ⟨[], [(y, w)]⟩ = pure [(y, w)]) : ∀ (s : Shared) (w : Value), BindsTo s fd ⟨[], [(y, w)]⟩ [(y, w)] := fun s w => by
  obtain ⟨oc, od, kV, doc, pm, an, cdv, ct, osl, rfl, lk, hcd⟩ := F.ex
  exact .of_eq (h kV doc pm an cdv ct w)
theorem k_one (he : PE X e (tD Γ B Wx m)) : PK X [⟨some y, e, kp⟩] (tDA Γ B Wx (mCons m mNil)) := by
  refine ⟨fun pos pins s σ H Q I q => ?_⟩
  obtain ⟨w, ρ, z, S, q⟩ := q
  refine (pk_cons he pk_nil).run pos pins s σ H Q I ?_
  exact ⟨w, ρ, z, S, q.bind.mono fun d w1 z1 H1 _ _ ⟨S1, s1, q1⟩ v rv => q1.ok S1 _ (.cons rv .nil)⟩
theorem d_callKw (V : Dv Γ X Wx j) (G : FnG X.prog X.w X.K X.mg X.base k f fd [y] (spD Γ 1 F)) (hm : X.mg x = some (.ref f)) (hkp : PySem.W.keepIn X.K (.ref f) = true) (hb : ∀ (s : Shared) (w : Value), BindsTo s fd ⟨[], [(y, w)]⟩ [(y, w)]) (he : PE X e (tD Γ B Wx m)) (hj : k ≤ j := by decide) (hg : Gl X x := by rfl) (hdb : (x == ("__debug__" : Str)) = false := by decide) :
    PE X (.Call (.Name x p) [] [⟨some y, e, kp⟩] pos) (tD Γ B Wx (mApp 1 F (mCons m mNil))) := by
  refine ⟨fun pins s σ H Q I q => ?_⟩
  refine wpAny_Call_Name_kw (ld_glob I hg hm ?_ hdb)
  refine PySem.W.callWith_KW0 (h₀ := X.base) I.ok.mod.kin hkp rfl ?_ rfl
  obtain ⟨w, ρ, z, S, q⟩ := q
  refine thn ((k_one (y := y) (kp := kp) he).run pos pins s σ H (fun vs H1 => spD Γ 1 F vs H1 Q (fun cls dd H' => Wx cls dd σ H')) I ⟨w, ρ, z, S, q.bind.mono fun ds w1 z1 H1 _ _ ⟨S1, s1, q1⟩ vs rvs => app_to S1 rvs q1⟩) fun us s1 ⟨vs, H1, I1, r, q1⟩ => ⟨I1.kIn, ?_⟩
  have hl : vs.length = 1 := G.len _ _ _ _ q1
  obtain ⟨v, rfl⟩ : ∃ v, vs = [v] := by
    match vs, hl with
    | [v], _ => exact ⟨v, rfl⟩
  obtain ⟨u, rfl, rv⟩ : ∃ u, us = [u] ∧ RelV v u := by
    cases r with
    | cons rv rn =>
      cases rn
      exact ⟨_, rfl, rv⟩
  · refine wpAny_call (codeAny_mono (G.run X.A X.stack s1 H1 ⟨[], [(y, u)]⟩ [u] [v] Q _ (V.room.mono hj) V.grd I1.env0 (hb s1 u) (.cons rv .nil) q1) fun r s' hq => ?_)
    cases r with
    | error e => exact passAt V.tk σ pins H1 s1 e s' I1 hq
    | ok fl =>
      cases fl with
      | ret u => exact I1.after hq
      | next => exact False.elim hq
      | brk => exact False.elim hq
      | cont => exact False.elim hq
end
section
variable {X : Cx} {Γ : Gam} {B : Bs} {Wx : WX} {a b : Expr} {ma mb : M D} {pos : Pos} {F : FM}
def mOwnBT (g : Z → D → D → Option (List D)) (neg : Bool) (F : FM) (ma mb : M D) : M Bool := mBind (mOwnB g neg F ma mb) fun d => mOpt fun _ => match d with
  | .bl k => some k
  | _ => none
theorem t_ownC {op : CmpOp} (c : Nat) {neg : Bool} (hn : PySem.W.notFirst X.K (Γ.cls c) (.type "int") = true) (ho : OpR X (compareOp op) (rOwnE X Γ c F neg)) (ha : PE X a (tD Γ B Wx ma)) (hb : PE X b (tD Γ B Wx mb)) (hm : behindInMarks op b = false) : PT X (.Compare a [op] [b] pos) (tDT Γ B Wx (mOwnBT (eq2 c) neg F ma mb)) :=
  pt_weak (pt_cmpR ho ha hb hm) fun σ H Q ⟨w, ρ, z, S, q⟩ => by
    refine ⟨w, ρ, z, S, q.bind.bind.bind.mono fun d w1 z1 H1 _ _ ⟨S1, s1, q1⟩ x rx => ⟨w1, ρ, z1, S1, q1.bind.mono fun d2 w2 z2 H2 _ _ ⟨S2, s2, q2⟩ y ry => ?_⟩⟩
    obtain ⟨ds, hp, q3⟩ := q2.opt
    unfold eq2 at hp
    obtain ⟨⟨c1, f1⟩, g1, hp⟩ := Option.bind_eq_some_iff.mp hp
    obtain ⟨rfl, rfl, g2⟩ := ite_some hp
    obtain ⟨xa, dx, fx, rfl, e1, _⟩ := (rx.step s2).insAt S2.wi g1
    have q4 := (q3 w2 H2 S2 (.refl _ _)).2.2
    refine ⟨⟨xa, dx, fx, rfl, e1⟩, ry.oth S2.wi g2 hn, ?_⟩
    refine ownBl_to (Q := fun v H' => ∃ k, v = .bl k ∧ Q k H') S2 (.cons (rx.step s2) (.cons ry .nil)) (q4.mono fun d w5 z5 H5 _ _ ⟨S5, s5, q5⟩ v rv => ?_)
    obtain ⟨k, hk, q6⟩ := q5.opt
    cases d with
    | bl k' =>
      cases hk
      cases rv
      exact ⟨_, rfl, q6.ok S5⟩
    | _ => cases hk
end
@[simp] theorem ap_ownBT {ρ : En} {z : Z} (g : Z → D → D → Option (List D)) (neg : Bool) (F : FM) (ma mb : M D) : mOwnBT g neg F ma mb ρ z = (mOwnB g neg F ma mb ρ z).bind fun d z3 => ofO (match d with | .bl k => some k | _ => none) z3 := by
  simp only [mOwnBT, ap_bind, ap_opt]
end NW
set_option maxHeartbeats 4000000
namespace K47
open PySem PySem.Spec PyProof.Rows L2 NW
def top (i : Nat) : Stmt := PySem.Challenge.pw_noughtwire_k47_texts_of_customs.main.body.getD i (.Pass ⟨0, 0, 0, 0⟩)
abbrev st__law_source : Stmt := top 34
abbrev st__law_draw : Stmt := top 35
abbrev st__law_mixed : Stmt := top 37
abbrev st__law_of : Stmt := top 36
abbrev st__law_names : Stmt := top 39
abbrev st__law_goals : Stmt := top 40
abbrev st__law_custom : Stmt := top 41
abbrev st__law_commas : Stmt := top 46
abbrev st__law_custom_lines : Stmt := top 47
abbrev st__law_custom_text : Stmt := top 48
abbrev st_is_name : Stmt := top 14
abbrev st_is_row : Stmt := top 15
abbrev st_Custom___init__ : Stmt := inClass (top 16) 2
abbrev st__law_made : Stmt := top 42
abbrev st__law_same : Stmt := top 38
abbrev st_Custom_starts : Stmt := inClass (top 16) 4
abbrev st_Custom_states : Stmt := inClass (top 16) 3
abbrev st_row_text : Stmt := top 26
abbrev st_custom_text : Stmt := top 27
abbrev st_number_in : Stmt := top 24
abbrev st_numbers_in : Stmt := top 25
abbrev st_starts_in : Stmt := top 28
abbrev st_state_in : Stmt := top 29
abbrev st_read_custom : Stmt := top 30
abbrev st_Custom___eq__ : Stmt := inClass (top 16) 12
abbrev st__law_custom_so : Stmt := top 43
abbrev st__law_rule : Stmt := top 44
abbrev st_is_pair : Stmt := top 19
abbrev st_ordered : Stmt := top 18
abbrev st_Rule___init__ : Stmt := inClass (top 20) 0
abbrev st_Rule___add__ : Stmt := inClass (top 20) 4
abbrev st__law_rule_made : Stmt := top 45
abbrev st__law_rule_text : Stmt := top 49
abbrev st_Rule_pairs : Stmt := inClass (top 20) 1
abbrev st_read_rule : Stmt := top 32
abbrev st_Rule___bool__ : Stmt := inClass (top 20) 7
abbrev st_rule_text : Stmt := top 31
abbrev st_Rule___eq__ : Stmt := inClass (top 20) 6
abbrev st_law : Stmt := top 50
abbrev st_WrongCount : Stmt := inClass (top 4) 0
abbrev st_InvalidState : Stmt := inClass (top 5) 0
abbrev st_InvalidStart : Stmt := inClass (top 6) 0
abbrev st_InvalidPair : Stmt := inClass (top 7) 0
abbrev st_InvalidText : Stmt := inClass (top 9) 0
/-! the mirrors -/
def m__law_source : MS := (sSeq (sAsg (setE 1) (mRet (.int 5786)))
    (sSeq (sFor (mItems (mFz (mSl slL (mVar 0) (mRet none) (mOp1 (fun _ d => (toI d).map some) (mRet (.int 63)))))) (setE 2) (sAsg (setE 1) (mOp2 (int2 modI) (mCall intD (mCons (mOp2 addD (mOp2 addD (mOp2 (int2 mulI) (mVar 1) (mRet (.int 48491))) (mOp2 (int2 modI) (mCall intD (mCons (mVar 2) mNil)) (mRet (.int 2147483477)))) (mRet (.int 37))) mNil)) (mRet (.int 2147483579)))))
    (sRetF (mLst (mCons (mFz (mCall listD (mCons (mFz (mSl slL (mVar 0) (mRet none) (mOp1 (fun _ d => (toI d).map some) (mRet (.int 63))))) mNil))) (mCons (mRet (.int 0)) (mCons (mRet (.int 0)) (mCons (mVar 1) (mCons (mRet (.int 0)) mNil)))))))))
def F__law_source : FM := runBF 3 m__law_source
def m__law_draw : MS := (sSeq (sIf (mAnd (mOp2 ltI (mOp2 ixD (mVar 0) (mRet (.int 2))) (mVar 1)) (mOp2 ltI (mOp2 ixD (mVar 0) (mRet (.int 1))) (mCall lenD (mCons (mOp2 ixD (mVar 0) (mRet (.int 0))) mNil)))) (sSeq (sAsg (setE 2) (mOp2 ixD (mOp2 ixD (mVar 0) (mRet (.int 0))) (mOp2 ixD (mVar 0) (mRet (.int 1)))))
    (sSeq (sSetM (mOp2 addD (mOp2 ixD (mVar 0) (mRet (.int 1))) (mRet (.int 1))) (mVar 0) (mRet (.int 1)))
    (sSeq (sSetM (mOp2 (int2 modI) (mCall intD (mCons (mOp2 addD (mOp2 addD (mOp2 (int2 mulI) (mOp2 ixD (mVar 0) (mRet (.int 3))) (mRet (.int 49031))) (mOp2 (int2 modI) (mCall intD (mCons (mVar 2) mNil)) (mRet (.int 2147483543)))) (mRet (.int 23))) mNil)) (mRet (.int 2147483549))) (mVar 0) (mRet (.int 3)))
    (sSetM (mIf (mOp2 geI (mVar 2) (mOp2 (int2 powI) (mRet (.int 10)) (mRet (.int 18)))) (mVar 2) (mRet (.int 0))) (mVar 0) (mRet (.int 2)))))) sNx)
    (sSeq (sIf (mOp2 geI (mOp2 ixD (mVar 0) (mRet (.int 2))) (mVar 1)) (sSeq (sAsg (setE 3) (mOp2 (int2 modI) (mCall intD (mCons (mOp2 ixD (mVar 0) (mRet (.int 2))) mNil)) (mVar 1)))
    (sSeq (sSetM (mOp2 (int2 divI) (mOp2 ixD (mVar 0) (mRet (.int 2))) (mVar 1)) (mVar 0) (mRet (.int 2)))
    (sRet (mVar 3)))) sNx)
    (sSeq (sSetM (mOp2 addD (mOp2 ixD (mVar 0) (mRet (.int 4))) (mRet (.int 1))) (mVar 0) (mRet (.int 4)))
    (sSeq (sAsg (setE 4) (mOp2 (int2 modI) (mCall intD (mCons (mOp2 addD (mOp2 ixD (mVar 0) (mRet (.int 3))) (mOp2 (int2 mulI) (mOp2 ixD (mVar 0) (mRet (.int 4))) (mRet (.int 8663)))) mNil)) (mRet (.int 2147483579))))
    (sSeq (sAsg (setE 5) (mOp2 (int2 mulI) (mOp2 (int2 modI) (mCall intD (mCons (mOp2 (int2 mulI) (mVar 4) (mVar 4)) mNil)) (mRet (.int 2147483543))) (mOp2 addD (mOp2 (int2 modI) (mCall intD (mCons (mVar 4) mNil)) (mRet (.int 39989))) (mRet (.int 5)))))
    (sSeq (sSetM (mOp2 (int2 modI) (mCall intD (mCons (mOp2 addD (mOp2 addD (mVar 5) (mOp2 (int2 mulI) (mRet (.int 30697)) (mVar 4))) (mRet (.int 1013))) mNil)) (mRet (.int 2147483549))) (mVar 0) (mRet (.int 3)))
    (sRet (mOp2 (int2 modI) (mCall intD (mCons (mOp2 addD (mOp2 (int2 divI) (mOp2 ixD (mVar 0) (mRet (.int 3))) (mRet (.int 67))) (mOp2 (int2 mulI) (mOp2 (int2 modI) (mCall intD (mCons (mOp2 ixD (mVar 0) (mRet (.int 3))) mNil)) (mRet (.int 8999))) (mRet (.int 43)))) mNil)) (mVar 1)))))))))
def F__law_draw : FM := runB 6 m__law_draw
def m__law_mixed : MS := (sSeq (sOwn 2 (mLst mNil))
    (sSeq (sFor (mItems (mVar 1)) (setE 3) (sOwnM 2 insertF (mCons (mApp 2 F__law_draw (mCons (mVar 0) (mCons (mOp2 addD (mCall lenD (mCons (mVarB 2) mNil)) (mRet (.int 1))) mNil))) (mCons (mVar 3) mNil))))
    (sFzA 2 (sRet (mVar 2)))))
def F__law_mixed : FM := runB 4 m__law_mixed
def m__law_of : MS := (sRet (mOp2 ixD (mVar 1) (mApp 2 F__law_draw (mCons (mVar 0) (mCons (mCall lenD (mCons (mVar 1) mNil)) mNil)))))
def F__law_of : FM := runB 2 m__law_of
def m__law_names : MS := (sSeq (sAsg (setE 2) (mFz (mSl slL (mApp 2 F__law_mixed (mCons (mVar 0) (mCons (mFz (mLc (mItems (mRet (.str "abcdefghijklmnopqrstuvwxyz"))) (setE 5) (mRet true) (mVar 5) [5])) mNil))) (mRet none) (mOp1 (fun _ d => (toI d).map some) (mVar 1)))))
    (sSeq (sAsg (setE 3) (mJoin (mRet (.str "")) (mFz (mLc (mCall rng1 (mCons (mApp 2 F__law_draw (mCons (mVar 0) (mCons (mRet (.int 8)) mNil))) mNil)) (setE 6) (mRet true) (mApp 2 F__law_of (mCons (mVar 0) (mCons (mRet (.str "abcdefghijklmnopqrstuvwxyz")) mNil))) [6]))))
    (sSeq (sAsg (setE 4) (mApp 2 F__law_draw (mCons (mVar 0) (mCons (mOp2 addD (mCall lenD (mCons (mVar 3) mNil)) (mRet (.int 1))) mNil))))
    (sRet (mFz (mLc (mItems (mVar 2)) (setE 5) (mRet true) (mOp2 addD (mOp2 addD (mSl slD (mVar 3) (mRet none) (mOp1 (fun _ d => (toI d).map some) (mVar 4))) (mVar 5)) (mSl slD (mVar 3) (mOp1 (fun _ d => (toI d).map some) (mVar 4)) (mRet none))) [5]))))))
def F__law_names : FM := runB 7 m__law_names
def m__law_goals : MS := (sSeq (sOwn 2 (mLst (mCons (mApp 2 F__law_draw (mCons (mVar 0) (mCons (mVar 1) mNil))) mNil)))
    (sSeq (sIf (mOp2 eqD (mApp 2 F__law_draw (mCons (mVar 0) (mCons (mRet (.int 4)) mNil))) (mRet (.int 0))) (sOwnM 2 appendF (mCons (mApp 2 F__law_draw (mCons (mVar 0) (mCons (mVar 1) mNil))) mNil)) sNx)
    (sRet (mCall tupleD (mCons (mFz (mOp1 sortSet (mVarB 2))) mNil)))))
def F__law_goals : FM := runB 3 m__law_goals
def m__law_custom : MS := (sSeq (sAsg (setE 3) (mOp2 addD (mRet (.int 1)) (mApp 2 F__law_draw (mCons (mVar 0) (mCons (mVar 2) mNil)))))
    (sSeq (sOwn 4 (mLst mNil))
    (sSeq (sFor (mCall rng1 (mCons (mVar 3) mNil)) (setE 5) (sSeq (sAsg (setE 6) (mApp 2 F__law_of (mCons (mVar 0) (mCons (mFz (mLst (mCons (mRet .non) (mCons (mOp2 ixD (mVar 1) (mRet (.int 0))) (mCons (mOp2 ixD (mVar 1) (mRet (.int 1))) (mCons (mOp2 ixD (mVar 1) (mRet (.int 2))) mNil)))))) mNil))))
    (sOwnM 4 appendF (mCons (mTup (mCons (mApp 2 F__law_of (mCons (mVar 0) (mCons (mFz (mLst (mCons (mRet (.int 0)) (mCons (mRet (.int 1)) (mCons (mRet (.int 1)) mNil))))) mNil))) (mCons (mVar 6) (mCons (mApp 2 F__law_goals (mCons (mVar 0) (mCons (mVar 3) mNil))) (mCons (mApp 2 F__law_goals (mCons (mVar 0) (mCons (mVar 3) mNil))) mNil))))) mNil))))
    (sSeq (sAsg (setE 7) (mFz (mLc (mCall rng1 (mCons (mVar 3) mNil)) (setE 8) (mOp2 eqD (mApp 2 F__law_draw (mCons (mVar 0) (mCons (mRet (.int 2)) mNil))) (mRet (.int 0))) (mVar 8) [8])))
    (sFzA 4 (sRet (mTup (mCons (mVar 4) (mCons (mIf (mOp2 neD (mVar 7) (mFz (mLst mNil))) (mVar 7) (mFz (mLst (mCons (mApp 2 F__law_draw (mCons (mVar 0) (mCons (mVar 3) mNil))) mNil)))) mNil)))))))))
def F__law_custom : FM := runB 9 m__law_custom
def m__law_commas : MS := (sRet (mJoin (mRet (.str ",")) (mFz (mLc (mItems (mVar 0)) (setE 1) (mRet true) (mCall strD (mCons (mVar 1) mNil)) [1]))))
def F__law_commas : FM := runB 2 m__law_commas
def m__law_custom_lines : MS := (sSeq (sOwn 1 (mLst (mCons (mJoin (mRet (.str " ")) (mOp2 addD (mFz (mLst (mCons (mRet (.str "start")) mNil))) (mFz (mLc (mItems (mOp2 ixD (mVar 0) (mRet (.int 1)))) (setE 7) (mRet true) (mCall strD (mCons (mVar 7) mNil)) [7])))) mNil)))
    (sSeq (sFor (mItems (mOp2 ixD (mVar 0) (mRet (.int 0)))) (tupT 4 (consT (setE 2) (consT (setE 3) (consT (setE 4) (consT (setE 5) nilT))))) (sSeq (sAsg (setE 6) (mIf (mOp2 isN (mVar 3) (mRet .non)) (mRet (.str "-")) (mVar 3)))
    (sOwnM 1 appendF (mCons (mJoin (mRet (.str " ")) (mFz (mLst (mCons (mRet (.str "state")) (mCons (mCall strD (mCons (mVar 2) mNil)) (mCons (mVar 6) (mCons (mApp 1 F__law_commas (mCons (mVar 4) mNil)) (mCons (mApp 1 F__law_commas (mCons (mVar 5) mNil)) mNil)))))))) mNil))))
    (sFzA 1 (sRet (mVar 1)))))
def F__law_custom_lines : FM := runB 8 m__law_custom_lines
def m__law_custom_text : MS := (sRet (mJoin (mRet (.str "\n")) (mApp 1 F__law_custom_lines (mCons (mVar 0) mNil))))
def F__law_custom_text : FM := runB 1 m__law_custom_text
def m_is_name : MS := (sRet (mAndV (mMap .bl (mChain leI leI (mRet (.int 1)) (mCall lenD (mCons (mVar 0) mNil)) (mRet (.int 8)))) (mCall (allD (·.all id)) (mCons (mFz (mLc (mItems (mVar 0)) (setE 1) (mRet true) (mBl (mOp2 inS (mVar 1) (mRet (.str "abcdefghijklmnopqrstuvwxyz")))) [1])) mNil))))
def F_is_name : FM := runB 2 m_is_name
def m_is_row : MS := (sSeq (sIf (mOr (mNot (mMap id (mChain leI leI (mVar 1) (mCall lenD (mCons (mVar 0) mNil)) (mVar 2)))) (mNot (mOp1 truD (mCall (allD (·.all id)) (mCons (mFz (mLc (mItems (mVar 0)) (setE 6) (mRet true) (mMap .bl (mChain leI ltI (mRet (.int 0)) (mVar 6) (mVar 3))) [6])) mNil))))) (sRet (mRet (.bl false))) sNx)
    (sRet (mCall (allD (·.all id)) (mCons (mFz (mLc (mCall zipOf (mCons (mVar 0) (mCons (mSl slD (mVar 0) (mOp1 (fun _ d => (toI d).map some) (mRet (.int 1))) (mRet none)) mNil))) (tupT 2 (consT (setE 4) (consT (setE 5) nilT))) (mRet true) (mBl (mOp2 ltI (mVar 4) (mVar 5))) [4, 5])) mNil))))
def F_is_row : FM := runB 7 m_is_row
def m_Custom___init__ : MS := (sSeq (sIf (mNot (mMap id (mChain leI leI (mRet (.int 1)) (mCall lenD (mCons (mVar 1) mNil)) (mRet (.int 240))))) (sRaise 5 1 [("word", .inl "WrongCount"), ("what", .inr 0)] (mCons (mRet (.str "states")) mNil)) sNx)
    (sSeq (sFor (mMap enumD (mBind (mVar 1) (fun d => mOpt fun z => match d with | .lst ds => some ds | _ => none))) (tupT 2 (consT (setE 3) (consT (tupT 4 (consT (setE 4) (consT (setE 5) (consT (setE 6) (consT (setE 7) nilT))))) nilT))) (sSeq (sIf (mOr (mOp2 (inF true) (mVar 4) (mTup (mCons (mRet (.int 0)) (mCons (mRet (.int 1)) mNil)))) (mAnd (mOp2 isNN (mVar 5) (mRet .non)) (mNot (mOp1 truD (mApp 1 F_is_name (mCons (mVar 5) mNil)))))) (sRaise 6 1 [("word", .inl "InvalidState"), ("at", .inr 0)] (mCons (mVar 3) mNil)) sNx)
    (sIf (mNot (mOp1 truD (mCall (allD (·.all id)) (mCons (mFz (mLc (mItems (mTup (mCons (mVar 6) (mCons (mVar 7) mNil)))) (setE 9) (mRet true) (mApp 4 F_is_row (mCons (mVar 9) (mCons (mRet (.int 1)) (mCons (mRet (.int 6)) (mCons (mCall lenD (mCons (mVar 1) mNil)) mNil))))) [9])) mNil)))) (sRaise 6 1 [("word", .inl "InvalidState"), ("at", .inr 0)] (mCons (mVar 3) mNil)) sNx)))
    (sSeq (sIf (mOp2 eqD (mCall lenD (mCons (mVar 2) mNil)) (mRet (.int 0))) (sRaise 5 1 [("word", .inl "WrongCount"), ("what", .inr 0)] (mCons (mRet (.str "starts")) mNil)) sNx)
    (sSeq (sFor (mMap enumD (mOp1 sqD (mVar 2))) (tupT 2 (consT (setE 3) (consT (setE 8) nilT))) (sIf (mOr (mNot (mMap id (mChain leI ltI (mRet (.int 0)) (mVar 8) (mCall lenD (mCons (mVar 1) mNil))))) (mAnd (mOp2 gtI (mVar 3) (mRet (.int 0))) (mOp2 leI (mVar 8) (mOp2 ixD (mVar 2) (mOp2 (int2 subI) (mVar 3) (mRet (.int 1))))))) (sRaise 7 1 [("word", .inl "InvalidStart"), ("given", .inr 0)] (mCons (mVar 8) mNil)) sNx))
    (sSeq (sSetF 26 "rows" (mFz (mLc (mItems (mVar 1)) (tupT 4 (consT (setE 4) (consT (setE 5) (consT (setE 6) (consT (setE 7) nilT))))) (mRet true) (mTup (mCons (mVar 4) (mCons (mVar 5) (mCons (mCall tupleD (mCons (mVar 6) mNil)) (mCons (mCall tupleD (mCons (mVar 7) mNil)) mNil))))) [4, 5, 6, 7])) (mVar 0))
    (sSetF 26 "begins" (mFz (mCall listD (mCons (mVar 2) mNil))) (mVar 0)))))))
def F_Custom___init__ : FM := runB 10 m_Custom___init__
def m__law_made : MS := (sRet (mNewF 26 3 F_Custom___init__ (mCons (mFz (mCall listD (mCons (mOp2 ixD (mVar 0) (mRet (.int 0))) mNil))) (mCons (mFz (mCall listD (mCons (mOp2 ixD (mVar 0) (mRet (.int 1))) mNil))) mNil))))
def F__law_made : FM := runB 1 m__law_made
def m__law_same : MS := (sRet (mBl (mOp2 eqD (mCall reprD (mCons (mVar 0) mNil)) (mCall reprD (mCons (mVar 1) mNil)))))
def F__law_same : FM := runB 2 m__law_same
def m_Custom_starts : MS := (sRet (mFz (mCall listD (mCons (mOp1 (fldD 26 "begins") (mVar 0)) mNil))))
def F_Custom_starts : FM := runB 1 m_Custom_starts
def m_Custom_states : MS := (sRet (mFz (mCall listD (mCons (mOp1 (fldD 26 "rows") (mVar 0)) mNil))))
def F_Custom_states : FM := runB 1 m_Custom_states
def m_row_text : MS := (sRet (mJoin (mRet (.str ",")) (mFz (mLc (mItems (mVar 0)) (setE 1) (mRet true) (mCall strD (mCons (mVar 1) mNil)) [1]))))
def F_row_text : FM := runB 2 m_row_text
def m_custom_text : MS := (sSeq (sOwn 1 (mLst (mCons (mJoin (mRet (.str " ")) (mFz (mLst (mCons (mRet (.str "start")) (mStar (mFz (mLc (mItems (mMeth 26 "starts" 1 F_Custom_starts (mVar 0) mNil)) (setE 6) (mRet true) (mCall strD (mCons (mVar 6) mNil)) [6])) mNil))))) mNil)))
    (sSeq (sFor (mItems (mMeth 26 "states" 1 F_Custom_states (mVar 0) mNil)) (tupT 4 (consT (setE 2) (consT (setE 3) (consT (setE 4) (consT (setE 5) nilT))))) (sOwnM 1 appendF (mCons (mJs Str.empty ((mRet (.str "state ")) :: ((mOp1 fmtD (mVar 2)) :: ((mRet (.str " ")) :: ((mOp1 fmtD (mIf (mOp2 isN (mVar 3) (mRet .non)) (mRet (.str "-")) (mVar 3))) :: ((mRet (.str " ")) :: ((mOp1 fmtD (mApp 1 F_row_text (mCons (mVar 4) mNil))) :: ((mRet (.str " ")) :: ((mOp1 fmtD (mApp 1 F_row_text (mCons (mVar 5) mNil))) :: []))))))))) mNil)))
    (sRet (mJoin (mRet (.str "\n")) (mVarB 1)))))
def F_custom_text : FM := runB 7 m_custom_text
def m_number_in : MS := (sSeq (sIf (mOr (mNot (mMap id (mChain leI leI (mRet (.int 1)) (mCall lenD (mCons (mVar 0) mNil)) (mRet (.int 6))))) (mNot (mOp1 truD (mCall (allD (·.all id)) (mCons (mFz (mLc (mItems (mVar 0)) (setE 1) (mRet true) (mBl (mOp2 inS (mVar 1) (mRet (.str "0123456789")))) [1])) mNil))))) (sRet (mRet .non)) sNx)
    (sRet (mIf (mAnd (mOp2 eqD (mOp2 ixD (mVar 0) (mRet (.int 0))) (mRet (.str "0"))) (mOp2 neD (mVar 0) (mRet (.str "0")))) (mRet .non) (mCall intSD (mCons (mVar 0) mNil)))))
def F_number_in : FM := runB 2 m_number_in
def m_numbers_in : MS := (sSeq (sAsg (setE 1) (mFz (mLc (mItems (mVar 0)) (setE 2) (mRet true) (mApp 1 F_number_in (mCons (mVar 2) mNil)) [2])))
    (sRet (mIf (mOp2 (inF false) (mRet .non) (mVar 1)) (mRet .non) (mCall tupleD (mCons (mVar 1) mNil)))))
def F_numbers_in : FM := runB 3 m_numbers_in
def m_starts_in : MS := (sRet (mIf (mAnd (mOp2 eqD (mOp2 ixD (mVar 0) (mRet (.int 0))) (mRet (.str "start"))) (mOp2 gtI (mCall lenD (mCons (mVar 0) mNil)) (mRet (.int 1)))) (mApp 1 F_numbers_in (mCons (mFz (mSl slL (mVar 0) (mOp1 (fun _ d => (toI d).map some) (mRet (.int 1))) (mRet none))) mNil)) (mRet .non)))
def F_starts_in : FM := runB 1 m_starts_in
def m_state_in : MS := (sSeq (sIf (mOr (mOp2 neD (mCall lenD (mCons (mVar 0) mNil)) (mRet (.int 5))) (mOr (mOp2 neD (mOp2 ixD (mVar 0) (mRet (.int 0))) (mRet (.str "state"))) (mOp2 (inF true) (mOp2 ixD (mVar 0) (mRet (.int 1))) (mTup (mCons (mRet (.str "0")) (mCons (mRet (.str "1")) mNil)))))) (sRet (mRet .non)) sNx)
    (sSeq (sParV [1, 2] (mVSh (mApp 1 F_numbers_in (mCons (mFz (mSplit (mOp2 ixD (mVar 0) (mRet (.int 3))) (mRet (.str ",")))) mNil)) (mVSh (mApp 1 F_numbers_in (mCons (mFz (mSplit (mOp2 ixD (mVar 0) (mRet (.int 4))) (mRet (.str ",")))) mNil)) mVNil)))
    (sSeq (sIf (mOr (mOp2 isN (mVar 1) (mRet .non)) (mOr (mOp2 isN (mVar 2) (mRet .non)) (mAnd (mOp2 neD (mOp2 ixD (mVar 0) (mRet (.int 2))) (mRet (.str "-"))) (mNot (mOp1 truD (mApp 1 F_is_name (mCons (mOp2 ixD (mVar 0) (mRet (.int 2))) mNil))))))) (sRet (mRet .non)) sNx)
    (sRet (mTup (mCons (mCall intSD (mCons (mOp2 ixD (mVar 0) (mRet (.int 1))) mNil)) (mCons (mIf (mOp2 eqD (mOp2 ixD (mVar 0) (mRet (.int 2))) (mRet (.str "-"))) (mRet .non) (mOp2 ixD (mVar 0) (mRet (.int 2)))) (mCons (mVar 1) (mCons (mVar 2) mNil)))))))))
def F_state_in : FM := runB 3 m_state_in
def m_read_custom : MS := (sSeq (sAsg (setE 1) (mFz (mSplit (mVar 0) (mRet (.str "\n")))))
    (sSeq (sParV [2, 3] (mVSh (mApp 1 F_starts_in (mCons (mFz (mSplit (mOp2 ixD (mVar 1) (mRet (.int 0))) (mRet (.str " ")))) mNil)) (mVOwn (mLst mNil) mVNil)))
    (sSeq (sIf (mOp2 isN (mVar 2) (mRet .non)) (sRaise 16 1 [("word", .inl "InvalidText"), ("line", .inr 0)] (mCons (mRet (.int 0)) mNil)) sNx)
    (sSeq (sFor (mMap enumD (mBind (mFz (mSl slL (mVar 1) (mOp1 (fun _ d => (toI d).map some) (mRet (.int 1))) (mRet none))) (fun d => mOpt fun z => match d with | .lst ds => some ds | _ => none))) (tupT 2 (consT (setE 4) (consT (setE 5) nilT))) (sSeq (sOwnM 3 appendF (mCons (mApp 1 F_state_in (mCons (mFz (mSplit (mVar 5) (mRet (.str " ")))) mNil)) mNil))
    (sIf (mOp2 isN (mOp2 ixD (mVarB 3) (mVar 4)) (mRet .non)) (sRaise 16 1 [("word", .inl "InvalidText"), ("line", .inr 0)] (mCons (mOp2 addD (mVar 4) (mRet (.int 1))) mNil)) sNx)))
    (sSeq (sIf (mOp2 eqD (mVarB 3) (mFz (mLst mNil))) (sRaise 16 1 [("word", .inl "InvalidText"), ("line", .inr 0)] (mCons (mRet (.int 1)) mNil)) sNx)
    (sFzA 3 (sRet (mNewF 26 3 F_Custom___init__ (mCons (mVar 3) (mCons (mVar 2) mNil))))))))))
def F_read_custom : FM := runB 6 m_read_custom
def m_Custom___eq__ : MS := (sRet (mAndV (mOp1 (isiC 26) (mVar 1)) (mAndV (mBl (mOp2 eqD (mOp1 (fldD 26 "rows") (mVar 0)) (mOp1 (fldD 26 "rows") (mVar 1)))) (mBl (mOp2 eqD (mOp1 (fldD 26 "begins") (mVar 0)) (mOp1 (fldD 26 "begins") (mVar 1)))))))
def F_Custom___eq__ : FM := runB 2 m_Custom___eq__
def m__law_custom_so : MS := (sRet (mApp 2 F__law_same (mCons (mFz (mLst (mCons (mMeth 26 "states" 1 F_Custom_states (mVar 0) mNil) (mCons (mMeth 26 "starts" 1 F_Custom_starts (mVar 0) mNil) mNil)))) (mCons (mFz (mLst (mCons (mOp2 ixD (mVar 1) (mRet (.int 0))) (mCons (mOp2 ixD (mVar 1) (mRet (.int 1))) mNil)))) mNil))))
def F__law_custom_so : FM := runB 2 m__law_custom_so
def m__law_rule : MS := (sSeq (sAsg (setE 2) (mFz (mLc (mCall rng1 (mCons (mApp 2 F__law_draw (mCons (mVar 0) (mCons (mRet (.int 4)) mNil))) mNil)) (setE 3) (mRet true) (mTup (mCons (mApp 2 F__law_of (mCons (mVar 0) (mCons (mFz (mSl slL (mVar 1) (mRet none) (mOp1 (fun _ d => (toI d).map some) (mRet (.int 3))))) mNil))) (mCons (mApp 2 F__law_of (mCons (mVar 0) (mCons (mFz (mSl slL (mVar 1) (mRet none) (mOp1 (fun _ d => (toI d).map some) (mRet (.int 3))))) mNil))) mNil))) [3])))
    (sRet (mFz (mOp1 sortSetT (mFz (mLc (mItems (mVar 2)) (setE 4) (mRet true) (mTup (mCons (mCall (bestD false) (mCons (mVar 4) mNil)) (mCons (mCall (bestD true) (mCons (mVar 4) mNil)) mNil))) [4]))))))
def F__law_rule : FM := runB 5 m__law_rule
def m_is_pair : MS := (sSeq (sIf (mNot (mOp1 truD (mOp1 (isiD ["tuple", "list"]) (mVar 0)))) (sRet (mRet (.bl false))) sNx)
    (sRet (mAndV (mBl (mOp2 eqD (mCall lenD (mCons (mVar 0) mNil)) (mRet (.int 2)))) (mAndV (mApp 1 F_is_name (mCons (mOp2 ixD (mVar 0) (mRet (.int 0))) mNil)) (mApp 1 F_is_name (mCons (mOp2 ixD (mVar 0) (mRet (.int 1))) mNil))))))
def F_is_pair : FM := runB 1 m_is_pair
def m_ordered : MS := (sSeq (sAsg (seqT 2 (consT (setE 1) (consT (setE 2) nilT))) (mVar 0))
    (sRet (mIf (mOp2 leS (mVar 1) (mVar 2)) (mTup (mCons (mVar 1) (mCons (mVar 2) mNil))) (mTup (mCons (mVar 2) (mCons (mVar 1) mNil))))))
def F_ordered : FM := runB 3 m_ordered
def m_Rule___init__ : MS := (sSeq (sFor (mMap enumD (mOp1 sqD (mVar 1))) (tupT 2 (consT (setE 2) (consT (setE 3) nilT))) (sIf (mNot (mOp1 truD (mApp 1 F_is_pair (mCons (mVar 3) mNil)))) (sRaise 9 1 [("word", .inl "InvalidPair"), ("at", .inr 0)] (mCons (mVar 2) mNil)) sNx))
    (sSetF 27 "rows" (mFz (mSortC (mItems (mVar 1)) (setE 3) (mRet true) (mApp 1 F_ordered (mCons (mVar 3) mNil)) [3])) (mVar 0)))
def F_Rule___init__ : FM := runB 4 m_Rule___init__
def m_Rule___add__ : MS := (sSeq (sIf (mNot (mOp1 truD (mApp 1 F_is_pair (mCons (mVar 1) mNil)))) (sRaise 9 1 [("word", .inl "InvalidPair"), ("at", .inr 0)] (mCons (mRet (.int 0)) mNil)) sNx)
    (sRet (mNewFV 27 1 F_Rule___init__ (mStar (mOp1 (fldD 27 "rows") (mVar 0)) (mCons (mVar 1) mNil)))))
def F_Rule___add__ : FM := runB 2 m_Rule___add__
def m__law_rule_made : MS := (sSeq (sAsg (setE 1) (mNewFV 27 1 F_Rule___init__ mNil))
    (sSeq (sFor (mItems (mVar 0)) (tupT 2 (consT (setE 2) (consT (setE 3) nilT))) (sAsg (setE 1) (mAddT 27 F_Rule___add__ (mVar 1) (mTup (mCons (mVar 3) (mCons (mVar 2) mNil))))))
    (sRet (mVar 1))))
def F__law_rule_made : FM := runB 4 m__law_rule_made
def m__law_rule_text : MS := (sRet (mIf (mOp2 neD (mVar 0) (mFz (mLst mNil))) (mJoin (mRet (.str "; ")) (mFz (mLc (mItems (mVar 0)) (tupT 2 (consT (setE 1) (consT (setE 2) nilT))) (mRet true) (mOp2 addD (mOp2 addD (mVar 1) (mRet (.str " "))) (mVar 2)) [1, 2]))) (mRet (.str "-"))))
def F__law_rule_text : FM := runB 3 m__law_rule_text
def m_Rule_pairs : MS := (sRetF (mCall listD (mCons (mOp1 (fldD 27 "rows") (mVar 0)) mNil)))
def F_Rule_pairs : FM := runBF 1 m_Rule_pairs
def m_read_rule : MS := (sSeq (sIf (mOp2 eqD (mVar 0) (mRet (.str "-"))) (sRet (mNewFV 27 1 F_Rule___init__ mNil)) sNx)
    (sSeq (sAsg (setE 1) (mFz (mLc (mItems (mFz (mSplit (mVar 0) (mRet (.str "; "))))) (setE 2) (mRet true) (mCall tupleD (mCons (mFz (mSplit (mVar 2) (mRet (.str " ")))) mNil)) [2])))
    (sSeq (sIf (mNot (mOp1 truD (mCall (allD (·.all id)) (mCons (mFz (mLc (mItems (mVar 1)) (setE 3) (mRet true) (mAndV (mBl (mOp2 eqD (mCall lenD (mCons (mVar 3) mNil)) (mRet (.int 2)))) (mCall (allD (·.all id)) (mCons (mFz (mLc (mItems (mVar 3)) (setE 4) (mRet true) (mApp 1 F_is_name (mCons (mVar 4) mNil)) [4])) mNil))) [3])) mNil)))) (sRaise 16 1 [("word", .inl "InvalidText"), ("line", .inr 0)] (mCons (mRet (.int 0)) mNil)) sNx)
    (sRet (mNewFV 27 1 F_Rule___init__ (mStar (mVar 1) mNil))))))
def F_read_rule : FM := runB 5 m_read_rule
def m_Rule___bool__ : MS := (sRet (mCall boolD (mCons (mOp1 (fldD 27 "rows") (mVar 0)) mNil)))
def F_Rule___bool__ : FM := runB 1 m_Rule___bool__
def m_rule_text : MS := (sRet (mIf (mOwnT 27 F_Rule___bool__ (mVar 0)) (mJoin (mRet (.str "; ")) (mFz (mLc (mItems (mFz (mMethF 27 "pairs" 1 F_Rule_pairs (mVar 0) mNil))) (tupT 2 (consT (setE 1) (consT (setE 2) nilT))) (mRet true) (mJs Str.empty ((mOp1 fmtD (mVar 1)) :: ((mRet (.str " ")) :: ((mOp1 fmtD (mVar 2)) :: [])))) [1, 2]))) (mRet (.str "-"))))
def F_rule_text : FM := runB 3 m_rule_text
def m_Rule___eq__ : MS := (sRet (mAndV (mOp1 (isiC 27) (mVar 1)) (mBl (mOp2 eqD (mOp1 (fldD 27 "rows") (mVar 0)) (mOp1 (fldD 27 "rows") (mVar 1))))))
def F_Rule___eq__ : FM := runB 2 m_Rule___eq__
def m_law : MS := (sSeq (sMob 1 (mAppF 1 F__law_source (mCons (mVar 0) mNil)))
    (sSeq (sAsg (setE 2) (mApp 2 F__law_names (mCons (mVar 1) (mCons (mRet (.int 5)) mNil))))
    (sSeq (sFor (mCall rng1 (mCons (mRet (.int 3)) mNil)) (setE 3) (sSeq (sAsg (setE 4) (mApp 3 F__law_custom (mCons (mVar 1) (mCons (mVar 2) (mCons (mRet (.int 7)) mNil)))))
    (sSeq (sParV [5, 6] (mVSh (mApp 1 F__law_made (mCons (mVar 4) mNil)) (mVSh (mApp 1 F__law_custom_text (mCons (mVar 4) mNil)) mVNil)))
    (sSeq (sIf (mNot (mOp1 truD (mApp 2 F__law_same (mCons (mFz (mLst (mCons (mApp 1 F_custom_text (mCons (mVar 5) mNil)) (mCons (mApp 1 F_custom_text (mCons (mVar 5) mNil)) mNil)))) (mCons (mFz (mLst (mCons (mVar 6) (mCons (mVar 6) mNil)))) mNil))))) (sRet (mRet (.bl false))) sNx)
    (sSeq (sAsg (setE 7) (mApp 1 F_read_custom (mCons (mVar 6) mNil)))
    (sSeq (sIf (mOr (mNot (mOp1 truD (mApp 2 F__law_custom_so (mCons (mVar 7) (mCons (mVar 4) mNil))))) (mOr (mOwnBT (eq2 26) true F_Custom___eq__ (mVar 7) (mVar 5)) (mOwnBT (eq2 26) true F_Custom___eq__ (mApp 1 F_read_custom (mCons (mApp 1 F_custom_text (mCons (mVar 7) mNil)) mNil)) (mVar 5)))) (sRet (mRet (.bl false))) sNx)
    (sSeq (sAsg (setE 8) (mApp 2 F__law_rule (mCons (mVar 1) (mCons (mVar 2) mNil))))
    (sSeq (sAsg (setE 9) (mApp 1 F__law_rule_made (mCons (mVar 8) mNil)))
    (sSeq (sIf (mNot (mOp1 truD (mApp 2 F__law_same (mCons (mFz (mLst (mCons (mApp 1 F_rule_text (mCons (mVar 9) mNil)) (mCons (mFz (mMethF 27 "pairs" 1 F_Rule_pairs (mApp 1 F_read_rule (mCons (mApp 1 F__law_rule_text (mCons (mVar 8) mNil)) mNil)) mNil)) mNil)))) (mCons (mFz (mLst (mCons (mApp 1 F__law_rule_text (mCons (mVar 8) mNil)) (mCons (mVar 8) mNil)))) mNil))))) (sRet (mRet (.bl false))) sNx)
    (sSeq (sAsg (setE 10) (mIf (mOp2 neD (mVar 8) (mFz (mLst mNil))) (mJoin (mRet (.str "; ")) (mFz (mLc (mItems (mOp2 addD (mFz (mOp1 revL (mVar 8))) (mVar 8))) (tupT 2 (consT (setE 11) (consT (setE 12) nilT))) (mRet true) (mOp2 addD (mOp2 addD (mVar 12) (mRet (.str " "))) (mVar 11)) [11, 12]))) (mRet (.str "-"))))
    (sIf (mOr (mOwnBT (eq2 27) true F_Rule___eq__ (mApp 1 F_read_rule (mCons (mVar 10) mNil)) (mVar 9)) (mOp2 neD (mApp 1 F_rule_text (mCons (mApp 1 F_read_rule (mCons (mVar 10) mNil)) mNil)) (mApp 1 F__law_rule_text (mCons (mVar 8) mNil)))) (sRet (mRet (.bl false))) sNx)))))))))))
    (sRet (mBl (mOp2 eqD (mApp 1 F_custom_text (mCons (mApp 1 F_read_custom (mCons (mRet (.str "start 0\nstate 1 - 0 0")) mNil)) mNil)) (mRet (.str "start 0\nstate 1 - 0 0"))))))))
def F_law : FM := runB 13 m_law
end K47
set_option maxHeartbeats 4000000
namespace K47
open PySem PySem.Spec PyProof.Rows L2 NW
/-- what the top has left -/
structure Tx (P : Program) (K : PySem.W.Frag) (mg : Str → Option Value) (cls : Nat → Addr) where
  d__law_source : Dn K mg "_law_source" "_law_source" st__law_source ["_law_script"]
  d__law_draw : Dn K mg "_law_draw" "_law_draw" st__law_draw ["_law_src", "_law_many"]
  d__law_mixed : Dn K mg "_law_mixed" "_law_mixed" st__law_mixed ["_law_src", "_law_things"]
  d__law_of : Dn K mg "_law_of" "_law_of" st__law_of ["_law_src", "_law_some"]
  d__law_names : Dn K mg "_law_names" "_law_names" st__law_names ["_law_src", "_law_many"]
  d__law_goals : Dn K mg "_law_goals" "_law_goals" st__law_goals ["_law_src", "_law_many"]
  d__law_custom : Dn K mg "_law_custom" "_law_custom" st__law_custom ["_law_src", "_law_names_here", "_law_most"]
  d__law_commas : Dn K mg "_law_commas" "_law_commas" st__law_commas ["_law_numbers"]
  d__law_custom_lines : Dn K mg "_law_custom_lines" "_law_custom_lines" st__law_custom_lines ["_law_c"]
  d__law_custom_text : Dn K mg "_law_custom_text" "_law_custom_text" st__law_custom_text ["_law_c"]
  d_is_name : Dn K mg "is_name" "is_name" st_is_name ["text"]
  d_is_row : Dn K mg "is_row" "is_row" st_is_row ["row", "least", "most", "bound"]
  d_Custom___init__ : Dm K (cls 26) "__init__" "Custom.__init__" st_Custom___init__ ["self", "states", "starts"]
  d__law_made : Dn K mg "_law_made" "_law_made" st__law_made ["_law_c"]
  d__law_same : Dn K mg "_law_same" "_law_same" st__law_same ["_law_found", "_law_due"]
  d_Custom_starts : Dm K (cls 26) "starts" "Custom.starts" st_Custom_starts ["self"]
  d_Custom_states : Dm K (cls 26) "states" "Custom.states" st_Custom_states ["self"]
  d_row_text : Dn K mg "row_text" "row_text" st_row_text ["numbers"]
  d_custom_text : Dn K mg "custom_text" "custom_text" st_custom_text ["custom"]
  d_number_in : Dn K mg "number_in" "number_in" st_number_in ["word"]
  d_numbers_in : Dn K mg "numbers_in" "numbers_in" st_numbers_in ["words"]
  d_starts_in : Dn K mg "starts_in" "starts_in" st_starts_in ["words"]
  d_state_in : Dn K mg "state_in" "state_in" st_state_in ["words"]
  d_read_custom : Dn K mg "read_custom" "read_custom" st_read_custom ["text"]
  d_Custom___eq__ : Dm K (cls 26) "__eq__" "Custom.__eq__" st_Custom___eq__ ["self", "other"]
  d__law_custom_so : Dn K mg "_law_custom_so" "_law_custom_so" st__law_custom_so ["_law_made_here", "_law_c"]
  d__law_rule : Dn K mg "_law_rule" "_law_rule" st__law_rule ["_law_src", "_law_names_here"]
  d_is_pair : Dn K mg "is_pair" "is_pair" st_is_pair ["value"]
  d_ordered : Dn K mg "ordered" "ordered" st_ordered ["pair"]
  d_Rule___init__ : Dms K (cls 27) "__init__" "Rule.__init__" st_Rule___init__
  d_Rule___add__ : Dm K (cls 27) "__add__" "Rule.__add__" st_Rule___add__ ["self", "pair"]
  d__law_rule_made : Dn K mg "_law_rule_made" "_law_rule_made" st__law_rule_made ["_law_r"]
  d__law_rule_text : Dn K mg "_law_rule_text" "_law_rule_text" st__law_rule_text ["_law_r"]
  d_Rule_pairs : Dm K (cls 27) "pairs" "Rule.pairs" st_Rule_pairs ["self"]
  d_read_rule : Dn K mg "read_rule" "read_rule" st_read_rule ["text"]
  d_Rule___bool__ : Dm K (cls 27) "__bool__" "Rule.__bool__" st_Rule___bool__ ["self"]
  d_rule_text : Dn K mg "rule_text" "rule_text" st_rule_text ["rule"]
  d_Rule___eq__ : Dm K (cls 27) "__eq__" "Rule.__eq__" st_Rule___eq__ ["self", "other"]
  d_law : Dn K mg "law" "law" st_law ["_law_script"]
  c_Custom : Cd K mg (cls 26) "Custom"
  c_Rule : Cd K mg (cls 27) "Rule"
  is_Custom : IsC K (cls 26)
  is_Rule : IsC K (cls 27)
  nf_Custom : PySem.W.notFirst K (cls 26) (.type "int") = true
  nf_Rule : PySem.W.notFirst K (cls 27) (.type "int") = true
  ne_Custom : PySem.W.findIn K (.ref (cls 26)) "__ne__" = some (some (.builtin "object.__ne__"))
  ne_Rule : PySem.W.findIn K (.ref (cls 27)) "__ne__" = some (some (.builtin "object.__ne__"))
  ad_Rule : SeqAdd K (cls 27)
  na_Custom_begins : NoAttr K (cls 26) "begins"
  na_Custom_rows : NoAttr K (cls 26) "rows"
  na_Rule_rows : NoAttr K (cls 27) "rows"
  cc_Custom_MOST_NEXTS : Cc K (cls 26) "MOST_NEXTS" 6
  cc_Custom_MOST_STATES : Cc K (cls 26) "MOST_STATES" 240
  m_WrongCount : mg "WrongCount" = some (.ref (cls 5))
  k_WrongCount : PySem.W.keepIn K (.ref (cls 5)) = true
  x_WrongCount : XCl K P (cls 5) 1 [("word", .inl "WrongCount"), ("what", .inr 0)]
  m_InvalidState : mg "InvalidState" = some (.ref (cls 6))
  k_InvalidState : PySem.W.keepIn K (.ref (cls 6)) = true
  x_InvalidState : XCl K P (cls 6) 1 [("word", .inl "InvalidState"), ("at", .inr 0)]
  m_InvalidStart : mg "InvalidStart" = some (.ref (cls 7))
  k_InvalidStart : PySem.W.keepIn K (.ref (cls 7)) = true
  x_InvalidStart : XCl K P (cls 7) 1 [("word", .inl "InvalidStart"), ("given", .inr 0)]
  m_InvalidPair : mg "InvalidPair" = some (.ref (cls 9))
  k_InvalidPair : PySem.W.keepIn K (.ref (cls 9)) = true
  x_InvalidPair : XCl K P (cls 9) 1 [("word", .inl "InvalidPair"), ("at", .inr 0)]
  m_InvalidText : mg "InvalidText" = some (.ref (cls 16))
  k_InvalidText : PySem.W.keepIn K (.ref (cls 16)) = true
  x_InvalidText : XCl K P (cls 16) 1 [("word", .inl "InvalidText"), ("line", .inr 0)]
  b_all : mg "all" = none
  b_bool : mg "bool" = none
  b_enumerate : mg "enumerate" = none
  b_int : mg "int" = none
  b_isinstance : mg "isinstance" = none
  b_len : mg "len" = none
  b_list : mg "list" = none
  b_max : mg "max" = none
  b_min : mg "min" = none
  b_range : mg "range" = none
  b_repr : mg "repr" = none
  b_set : mg "set" = none
  b_sorted : mg "sorted" = none
  b_str : mg "str" = none
  b_super : mg "super" = none
  b_tuple : mg "tuple" = none
  b_zip : mg "zip" = none
  c_DIGITS : ∃ t, mg "DIGITS" = some (.str "0123456789" t)
  c_LETTERS : ∃ t, mg "LETTERS" = some (.str "abcdefghijklmnopqrstuvwxyz" t)
  c_MOST_DIGITS : ∃ t, mg "MOST_DIGITS" = some (.int 6 t)
  c_MOST_SIGNS : ∃ t, mg "MOST_SIGNS" = some (.int 8 t)
section
variable {P : Program} {w : World} {K : PySem.W.Frag} {mg : Str → Option Value} {base : Heap} {cls : Nat → Addr} {tb : List (Addr × Str)}
theorem sc__law_source : FnScope ["_law_script", "_law_seed", "_law_cell"] ["_law_script"] (defScope st__law_source) := ⟨rfl, rfl, rfl, by decide +kernel, rfl, by decide +kernel, by decide +kernel⟩
theorem ok__law_source (T : Tx P K mg cls) : FnG P w K mg base 1 T.d__law_source.f T.d__law_source.fd ["_law_script"] (spF ⟨K, cls, tb⟩ 1 F__law_source) :=
  fn_fn (k := 0) ["_law_script", "_law_seed", "_law_cell"] ["_law_script"] m__law_source T.d__law_source.F sc__law_source rfl rfl fun cdv A outer s H E B V po =>
    (s_cons (s_asg d_int (g_name 1 V.nd))
    (s_cons (s_for po V.calm (i_any V.hK (d_f (f_slL V.hK (de_b (d_var 0)) o_none (o_some (de_b d_int))))) (g_name 2 V.nd) (s_one (s_asg (d_bin op_mod od_mod (de_b (d_callTy call_int1 oc_int T.b_int (by decide +kernel) (ba_cons (de_b (d_bin (op_addD V.hK) od_add (de_b (d_bin (op_addD V.hK) od_add (de_b (d_bin op_mul od_mul (de_b (d_var 1)) (de_b d_int))) (de_b (d_bin op_mod od_mod (de_b (d_callTy call_int1 oc_int T.b_int (by decide +kernel) (ba_cons (de_b (d_var 2)) ba_nil))) (de_b d_int))))) (de_b d_int))) ba_nil))) (de_b d_int)) (g_name 1 V.nd))))
    (s_one (s_retF (f_lst (a_cons (d_f (f_callTy (cr_list V.hK) oc_list T.b_list (by decide +kernel) (ba_cons (de_b (d_f (f_slL V.hK (de_b (d_var 0)) o_none (o_some (de_b d_int))))) ba_nil))) (a_cons d_int (a_cons d_int (a_cons (d_var 1) (a_cons d_int a_nil))))))))))
theorem sc__law_draw : FnScope ["_law_src", "_law_many", "_law_cell", "_law_digit", "_law_root", "_law_grown"] ["_law_src", "_law_many"] (defScope st__law_draw) := ⟨rfl, rfl, rfl, by decide +kernel, rfl, by decide +kernel, by decide +kernel⟩
theorem ok__law_draw (T : Tx P K mg cls) : FnG P w K mg base 1 T.d__law_draw.f T.d__law_draw.fd ["_law_src", "_law_many"] (spD ⟨K, cls, tb⟩ 2 F__law_draw) :=
  fn_dn (k := 0) ["_law_src", "_law_many", "_law_cell", "_law_digit", "_law_root", "_law_grown"] ["_law_src", "_law_many"] m__law_draw T.d__law_draw.F sc__law_draw rfl rfl fun cdv A outer s H E B V po =>
    (s_cons (s_if (PW.pt (w_and (t_cmp op_lt ob_I (de_b (d_ix V.hK (de_b (d_var 0)) (de_b d_int))) (de_b (d_var 1)) (nomark _)) (w_and1 (t_cmp op_lt ob_I (de_b (d_ix V.hK (de_b (d_var 0)) (de_b d_int))) (de_b (d_callB (cr_len V.hK) oc_len T.b_len (by decide +kernel) (ba_cons (de_b (d_ix V.hK (de_b (d_var 0)) (de_b d_int))) ba_nil))) (nomark _))))) (s_cons (s_asg (d_ix V.hK (de_b (d_ix V.hK (de_b (d_var 0)) (de_b d_int))) (de_b (d_ix V.hK (de_b (d_var 0)) (de_b d_int)))) (g_name 2 V.nd))
    (s_cons (s_setM (d_bin (op_addD V.hK) od_add (de_b (d_ix V.hK (de_b (d_var 0)) (de_b d_int))) (de_b d_int)) (d_var 0) d_int)
    (s_cons (s_setM (d_bin op_mod od_mod (de_b (d_callTy call_int1 oc_int T.b_int (by decide +kernel) (ba_cons (de_b (d_bin (op_addD V.hK) od_add (de_b (d_bin (op_addD V.hK) od_add (de_b (d_bin op_mul od_mul (de_b (d_ix V.hK (de_b (d_var 0)) (de_b d_int))) (de_b d_int))) (de_b (d_bin op_mod od_mod (de_b (d_callTy call_int1 oc_int T.b_int (by decide +kernel) (ba_cons (de_b (d_var 2)) ba_nil))) (de_b d_int))))) (de_b d_int))) ba_nil))) (de_b d_int)) (d_var 0) d_int)
    (s_one (s_setM (d_ifx (t_cmp op_ge ob_I (de_b (d_var 2)) (de_b (d_bin op_pow od_pow (de_b d_int) (de_b d_int))) (nomark _)) (d_var 2) d_int) (d_var 0) d_int))))) s_nil)
    (s_cons (s_if (t_cmp op_ge ob_I (de_b (d_ix V.hK (de_b (d_var 0)) (de_b d_int))) (de_b (d_var 1)) (nomark _)) (s_cons (s_asg (d_bin op_mod od_mod (de_b (d_callTy call_int1 oc_int T.b_int (by decide +kernel) (ba_cons (de_b (d_ix V.hK (de_b (d_var 0)) (de_b d_int))) ba_nil))) (de_b (d_var 1))) (g_name 3 V.nd))
    (s_cons (s_setM (d_bin op_fdiv od_div (de_b (d_ix V.hK (de_b (d_var 0)) (de_b d_int))) (de_b (d_var 1))) (d_var 0) d_int)
    (s_one (s_ret (d_var 3))))) s_nil)
    (s_cons (s_setM (d_bin (op_addD V.hK) od_add (de_b (d_ix V.hK (de_b (d_var 0)) (de_b d_int))) (de_b d_int)) (d_var 0) d_int)
    (s_cons (s_asg (d_bin op_mod od_mod (de_b (d_callTy call_int1 oc_int T.b_int (by decide +kernel) (ba_cons (de_b (d_bin (op_addD V.hK) od_add (de_b (d_ix V.hK (de_b (d_var 0)) (de_b d_int))) (de_b (d_bin op_mul od_mul (de_b (d_ix V.hK (de_b (d_var 0)) (de_b d_int))) (de_b d_int))))) ba_nil))) (de_b d_int)) (g_name 4 V.nd))
    (s_cons (s_asg (d_bin op_mul od_mul (de_b (d_bin op_mod od_mod (de_b (d_callTy call_int1 oc_int T.b_int (by decide +kernel) (ba_cons (de_b (d_bin op_mul od_mul (de_b (d_var 4)) (de_b (d_var 4)))) ba_nil))) (de_b d_int))) (de_b (d_bin (op_addD V.hK) od_add (de_b (d_bin op_mod od_mod (de_b (d_callTy call_int1 oc_int T.b_int (by decide +kernel) (ba_cons (de_b (d_var 4)) ba_nil))) (de_b d_int))) (de_b d_int)))) (g_name 5 V.nd))
    (s_cons (s_setM (d_bin op_mod od_mod (de_b (d_callTy call_int1 oc_int T.b_int (by decide +kernel) (ba_cons (de_b (d_bin (op_addD V.hK) od_add (de_b (d_bin (op_addD V.hK) od_add (de_b (d_var 5)) (de_b (d_bin op_mul od_mul (de_b d_int) (de_b (d_var 4)))))) (de_b d_int))) ba_nil))) (de_b d_int)) (d_var 0) d_int)
    (s_one (s_ret (d_bin op_mod od_mod (de_b (d_callTy call_int1 oc_int T.b_int (by decide +kernel) (ba_cons (de_b (d_bin (op_addD V.hK) od_add (de_b (d_bin op_fdiv od_div (de_b (d_ix V.hK (de_b (d_var 0)) (de_b d_int))) (de_b d_int))) (de_b (d_bin op_mul od_mul (de_b (d_bin op_mod od_mod (de_b (d_callTy call_int1 oc_int T.b_int (by decide +kernel) (ba_cons (de_b (d_ix V.hK (de_b (d_var 0)) (de_b d_int))) ba_nil))) (de_b d_int))) (de_b d_int))))) ba_nil))) (de_b (d_var 1)))))))))))
theorem sc__law_mixed : FnScope ["_law_src", "_law_things", "_law_found", "_law_thing"] ["_law_src", "_law_things"] (defScope st__law_mixed) := ⟨rfl, rfl, rfl, by decide +kernel, rfl, by decide +kernel, by decide +kernel⟩
theorem ok__law_mixed (T : Tx P K mg cls) : FnG P w K mg base 2 T.d__law_mixed.f T.d__law_mixed.fd ["_law_src", "_law_things"] (spD ⟨K, cls, tb⟩ 2 F__law_mixed) :=
  fn_dn (k := 1) ["_law_src", "_law_things", "_law_found", "_law_thing"] ["_law_src", "_law_things"] m__law_mixed T.d__law_mixed.F sc__law_mixed rfl rfl fun cdv A outer s H E B V po =>
    (s_cons (s_own 2 V.nd (f_lst a_nil))
    (s_cons (s_for po V.calm (i_any V.hK (d_var 1)) (g_name 3 V.nd) (s_one (s_ownM 2 V.hK PySem.F.slot_list_insert rfl mt_insert mf_insert (a_cons (d_call V (ok__law_draw T) T.d__law_draw.m T.d__law_draw.F.kp T.d__law_draw.b (a_cons (d_var 0) (a_cons (d_bin (op_addD V.hK) od_add (de_b (d_callB (cr_len V.hK) oc_len T.b_len (by decide +kernel) (ba_cons (b_any 2) ba_nil))) (de_b d_int)) a_nil))) (a_cons (d_var 3) a_nil)))))
    (s_one (s_fzA 2 (s_ret (d_var 2))))))
theorem sc__law_of : FnScope ["_law_src", "_law_some"] ["_law_src", "_law_some"] (defScope st__law_of) := ⟨rfl, rfl, rfl, by decide +kernel, rfl, by decide +kernel, by decide +kernel⟩
theorem ok__law_of (T : Tx P K mg cls) : FnG P w K mg base 2 T.d__law_of.f T.d__law_of.fd ["_law_src", "_law_some"] (spD ⟨K, cls, tb⟩ 2 F__law_of) :=
  fn_dn (k := 1) ["_law_src", "_law_some"] ["_law_src", "_law_some"] m__law_of T.d__law_of.F sc__law_of rfl rfl fun cdv A outer s H E B V po =>
    (s_one (s_ret (d_ix V.hK (de_b (d_var 1)) (de_b (d_call V (ok__law_draw T) T.d__law_draw.m T.d__law_draw.F.kp T.d__law_draw.b (a_cons (d_var 0) (a_cons (d_callB (cr_len V.hK) oc_len T.b_len (by decide +kernel) (ba_cons (de_b (d_var 1)) ba_nil)) a_nil)))))))
theorem sc__law_names : FnScope ["_law_src", "_law_many", "_law_letters", "_law_stem", "_law_at", "_law_sign", "_law_k"] ["_law_src", "_law_many"] (defScope st__law_names) := ⟨rfl, rfl, rfl, by decide +kernel, rfl, by decide +kernel, by decide +kernel⟩
theorem ok__law_names (T : Tx P K mg cls) : FnG P w K mg base 3 T.d__law_names.f T.d__law_names.fd ["_law_src", "_law_many"] (spD ⟨K, cls, tb⟩ 2 F__law_names) :=
  fn_dn (k := 2) ["_law_src", "_law_many", "_law_letters", "_law_stem", "_law_at", "_law_sign", "_law_k"] ["_law_src", "_law_many"] m__law_names T.d__law_names.F sc__law_names rfl rfl fun cdv A outer s H E B V po =>
    (s_cons (s_asg (d_f (f_slL V.hK (de_b (d_call V (ok__law_mixed T) T.d__law_mixed.m T.d__law_mixed.F.kp T.d__law_mixed.b (a_cons (d_var 0) (a_cons (d_f (f_lc (own := [("_law_sign", 5)]) V.calm V.nd (i_anyB V.hK (de_b d_str)) (blkOk_by (N := ["_law_src", "_law_many", "_law_letters", "_law_stem", "_law_at", "_law_sign", "_law_k"]) (sc := defScope st__law_names) (by decide +kernel)) (fun _ _ _ _ _ => (g_name 5 V.blk.nd)) (fun _ _ _ _ _ => pts_yes) (fun _ _ _ _ _ => (d_var 5)))) a_nil)))) o_none (o_some (de_b (d_var 1))))) (g_name 2 V.nd))
    (s_cons (s_asg (d_join V.hK (de_b d_str) (de_b (d_f (f_lc (own := [("_law_k", 6)]) V.calm V.nd (i_b (i_range1 T.b_range (ba_cons (de_b (d_call V (ok__law_draw T) T.d__law_draw.m T.d__law_draw.F.kp T.d__law_draw.b (a_cons (d_var 0) (a_cons d_int a_nil)))) ba_nil))) (blkOk_by (N := ["_law_src", "_law_many", "_law_letters", "_law_stem", "_law_at", "_law_sign", "_law_k"]) (sc := defScope st__law_names) (by decide +kernel)) (fun _ _ _ _ _ => (g_name 6 V.blk.nd)) (fun _ _ _ _ _ => pts_yes) (fun _ _ _ _ _ => (d_call V.blk (ok__law_of T) T.d__law_of.m T.d__law_of.F.kp T.d__law_of.b (a_cons (d_var 0) (a_cons d_str a_nil)))))))) (g_name 3 V.nd))
    (s_cons (s_asg (d_call V (ok__law_draw T) T.d__law_draw.m T.d__law_draw.F.kp T.d__law_draw.b (a_cons (d_var 0) (a_cons (d_bin (op_addD V.hK) od_add (de_b (d_callB (cr_len V.hK) oc_len T.b_len (by decide +kernel) (ba_cons (de_b (d_var 3)) ba_nil))) (de_b d_int)) a_nil))) (g_name 4 V.nd))
    (s_one (s_ret (d_f (f_lc (own := [("_law_sign", 5)]) V.calm V.nd (i_anyB V.hK (de_b (d_var 2))) (blkOk_by (N := ["_law_src", "_law_many", "_law_letters", "_law_stem", "_law_at", "_law_sign", "_law_k"]) (sc := defScope st__law_names) (by decide +kernel)) (fun _ _ _ _ _ => (g_name 5 V.blk.nd)) (fun _ _ _ _ _ => pts_yes) (fun _ _ _ _ _ => (d_bin (op_addD V.blk.hK) od_add (de_b (d_bin (op_addD V.blk.hK) od_add (de_b (d_slT V.blk.hK (de_b (d_var 3)) o_none (o_some (de_b (d_var 4))))) (de_b (d_var 5)))) (de_b (d_slT V.blk.hK (de_b (d_var 3)) (o_some (de_b (d_var 4))) o_none)))))))))))
theorem sc__law_goals : FnScope ["_law_src", "_law_many", "_law_found"] ["_law_src", "_law_many"] (defScope st__law_goals) := ⟨rfl, rfl, rfl, by decide +kernel, rfl, by decide +kernel, by decide +kernel⟩
theorem ok__law_goals (T : Tx P K mg cls) : FnG P w K mg base 2 T.d__law_goals.f T.d__law_goals.fd ["_law_src", "_law_many"] (spD ⟨K, cls, tb⟩ 2 F__law_goals) :=
  fn_dn (k := 1) ["_law_src", "_law_many", "_law_found"] ["_law_src", "_law_many"] m__law_goals T.d__law_goals.F sc__law_goals rfl rfl fun cdv A outer s H E B V po =>
    (s_cons (s_own 2 V.nd (f_lst (a_cons (d_call V (ok__law_draw T) T.d__law_draw.m T.d__law_draw.F.kp T.d__law_draw.b (a_cons (d_var 0) (a_cons (d_var 1) a_nil))) a_nil)))
    (s_cons (s_if (t_cmp (op_eqS (hu64 V)) (ob_eq V.hK) (de_b (d_call V (ok__law_draw T) T.d__law_draw.m T.d__law_draw.F.kp T.d__law_draw.b (a_cons (d_var 0) (a_cons d_int a_nil)))) (de_b d_int) (nomark _)) (s_one (s_ownM 2 V.hK PySem.F.slot_list_append rfl mt_append mf_append (a_cons (d_call V (ok__law_draw T) T.d__law_draw.m T.d__law_draw.F.kp T.d__law_draw.b (a_cons (d_var 0) (a_cons (d_var 1) a_nil))) a_nil))) s_nil)
    (s_one (s_ret (d_callTy (cr_tuple V.hK) oc_tuple T.b_tuple (by decide +kernel) (ba_cons (de_b (d_f (f_sortSet V.hK T.b_sorted T.b_set (b_any 2) V.calm))) ba_nil))))))
theorem sc__law_custom : FnScope ["_law_src", "_law_names_here", "_law_most", "_law_many", "_law_states", "_law_k", "_law_belief", "_law_starts", "_law_state"] ["_law_src", "_law_names_here", "_law_most"] (defScope st__law_custom) := ⟨rfl, rfl, rfl, by decide +kernel, rfl, by decide +kernel, by decide +kernel⟩
theorem ok__law_custom (T : Tx P K mg cls) : FnG P w K mg base 3 T.d__law_custom.f T.d__law_custom.fd ["_law_src", "_law_names_here", "_law_most"] (spD ⟨K, cls, tb⟩ 3 F__law_custom) :=
  fn_dn (k := 2) ["_law_src", "_law_names_here", "_law_most", "_law_many", "_law_states", "_law_k", "_law_belief", "_law_starts", "_law_state"] ["_law_src", "_law_names_here", "_law_most"] m__law_custom T.d__law_custom.F sc__law_custom rfl rfl fun cdv A outer s H E B V po =>
    (s_cons (s_asg (d_bin (op_addD V.hK) od_add (de_b d_int) (de_b (d_call V (ok__law_draw T) T.d__law_draw.m T.d__law_draw.F.kp T.d__law_draw.b (a_cons (d_var 0) (a_cons (d_var 2) a_nil))))) (g_name 3 V.nd))
    (s_cons (s_own 4 V.nd (f_lst a_nil))
    (s_cons (s_for po V.calm (i_range1 T.b_range (ba_cons (de_b (d_var 3)) ba_nil)) (g_name 5 V.nd) (s_cons (s_asg (d_call V (ok__law_of T) T.d__law_of.m T.d__law_of.F.kp T.d__law_of.b (a_cons (d_var 0) (a_cons (d_f (f_lst (a_cons d_non (a_cons (d_ix V.hK (de_b (d_var 1)) (de_b d_int)) (a_cons (d_ix V.hK (de_b (d_var 1)) (de_b d_int)) (a_cons (d_ix V.hK (de_b (d_var 1)) (de_b d_int)) a_nil)))))) a_nil))) (g_name 6 V.nd))
    (s_one (s_ownM 4 V.hK PySem.F.slot_list_append rfl mt_append mf_append (a_cons (d_tup (a_cons (d_call V (ok__law_of T) T.d__law_of.m T.d__law_of.F.kp T.d__law_of.b (a_cons (d_var 0) (a_cons (d_f (f_lst (a_cons d_int (a_cons d_int (a_cons d_int a_nil))))) a_nil))) (a_cons (d_var 6) (a_cons (d_call V (ok__law_goals T) T.d__law_goals.m T.d__law_goals.F.kp T.d__law_goals.b (a_cons (d_var 0) (a_cons (d_var 3) a_nil))) (a_cons (d_call V (ok__law_goals T) T.d__law_goals.m T.d__law_goals.F.kp T.d__law_goals.b (a_cons (d_var 0) (a_cons (d_var 3) a_nil))) a_nil))))) a_nil)))))
    (s_cons (s_asgLc 7 (own := [("_law_state", 8)]) V.calm V.nd (i_b (i_range1 T.b_range (ba_cons (de_b (d_var 3)) ba_nil))) (blkOk_by (N := ["_law_src", "_law_names_here", "_law_most", "_law_many", "_law_states", "_law_k", "_law_belief", "_law_starts", "_law_state"]) (sc := defScope st__law_custom) (by decide +kernel)) (fun _ _ _ _ _ => (g_name 8 V.blk.nd)) (fun _ _ _ _ _ => (pts_if (t_cmp (op_eqS (hu64 V.blk)) (ob_eq V.blk.hK) (de_b (d_call V.blk (ok__law_draw T) T.d__law_draw.m T.d__law_draw.F.kp T.d__law_draw.b (a_cons (d_var 0) (a_cons d_int a_nil)))) (de_b d_int) (nomark _)))) (fun _ _ _ _ _ => (d_var 8)) (sw_true rfl rfl rfl (by decide +kernel)))
    (s_one (s_fzA 4 (s_ret (d_tup (a_cons (d_var 4) (a_cons (d_ifx (t_cmp (op_neS (hu64 V)) (ob_ne V.hK) (de_b (d_var 7)) (de_b (d_f (f_lst a_nil))) (nomark _)) (d_var 7) (d_f (f_lst (a_cons (d_call V (ok__law_draw T) T.d__law_draw.m T.d__law_draw.F.kp T.d__law_draw.b (a_cons (d_var 0) (a_cons (d_var 3) a_nil))) a_nil)))) a_nil))))))))))
theorem sc__law_commas : FnScope ["_law_numbers", "_law_number"] ["_law_numbers"] (defScope st__law_commas) := ⟨rfl, rfl, rfl, by decide +kernel, rfl, by decide +kernel, by decide +kernel⟩
theorem ok__law_commas (T : Tx P K mg cls) : FnG P w K mg base 1 T.d__law_commas.f T.d__law_commas.fd ["_law_numbers"] (spD ⟨K, cls, tb⟩ 1 F__law_commas) :=
  fn_dn (k := 0) ["_law_numbers", "_law_number"] ["_law_numbers"] m__law_commas T.d__law_commas.F sc__law_commas rfl rfl fun cdv A outer s H E B V po =>
    (s_one (s_ret (d_join V.hK (de_b d_str) (de_b (d_f (f_lc (own := [("_law_number", 1)]) V.calm V.nd (i_anyB V.hK (de_b (d_var 0))) (blkOk_by (N := ["_law_numbers", "_law_number"]) (sc := defScope st__law_commas) (by decide +kernel)) (fun _ _ _ _ _ => (g_name 1 V.blk.nd)) (fun _ _ _ _ _ => pts_yes) (fun _ _ _ _ _ => (d_callTy call_str_int oc_str T.b_str (by decide +kernel) (ba_cons (de_b (d_var 1)) ba_nil)))))))))
theorem sc__law_custom_lines : FnScope ["_law_c", "_law_lines", "_law_says", "_law_belief", "_law_zeros", "_law_ones", "_law_word", "_law_start"] ["_law_c"] (defScope st__law_custom_lines) := ⟨rfl, rfl, rfl, by decide +kernel, rfl, by decide +kernel, by decide +kernel⟩
theorem ok__law_custom_lines (T : Tx P K mg cls) : FnG P w K mg base 2 T.d__law_custom_lines.f T.d__law_custom_lines.fd ["_law_c"] (spD ⟨K, cls, tb⟩ 1 F__law_custom_lines) :=
  fn_dn (k := 1) ["_law_c", "_law_lines", "_law_says", "_law_belief", "_law_zeros", "_law_ones", "_law_word", "_law_start"] ["_law_c"] m__law_custom_lines T.d__law_custom_lines.F sc__law_custom_lines rfl rfl fun cdv A outer s H E B V po =>
    (s_cons (s_own 1 V.nd (f_lst (a_cons (d_join V.hK (de_b d_str) (de_b (d_bin (op_addD V.hK) od_add (de_b (d_f (f_lst (a_cons d_str a_nil)))) (de_b (d_f (f_lc (own := [("_law_start", 7)]) V.calm V.nd (i_anyB V.hK (de_b (d_ix V.hK (de_b (d_var 0)) (de_b d_int)))) (blkOk_by (N := ["_law_c", "_law_lines", "_law_says", "_law_belief", "_law_zeros", "_law_ones", "_law_word", "_law_start"]) (sc := defScope st__law_custom_lines) (by decide +kernel)) (fun _ _ _ _ _ => (g_name 7 V.blk.nd)) (fun _ _ _ _ _ => pts_yes) (fun _ _ _ _ _ => (d_callTy call_str_int oc_str T.b_str (by decide +kernel) (ba_cons (de_b (d_var 7)) ba_nil))))))))) a_nil)))
    (s_cons (s_for po V.calm (i_any V.hK (d_ix V.hK (de_b (d_var 0)) (de_b d_int))) (g_tup V.hK V.calm (gs_cons (g_name 2 V.nd) (gs_cons (g_name 3 V.nd) (gs_cons (g_name 4 V.nd) (gs_cons (g_name 5 V.nd) gs_nil))))) (s_cons (s_asg (d_ifx (t_cmp op_isN ob_isN (de_b (d_var 3)) (de_b d_non) (nomark _)) d_str (d_var 3)) (g_name 6 V.nd))
    (s_one (s_ownM 1 V.hK PySem.F.slot_list_append rfl mt_append mf_append (a_cons (d_join V.hK (de_b d_str) (de_b (d_f (f_lst (a_cons d_str (a_cons (d_callTy call_str_int oc_str T.b_str (by decide +kernel) (ba_cons (de_b (d_var 2)) ba_nil)) (a_cons (d_var 6) (a_cons (d_call V (ok__law_commas T) T.d__law_commas.m T.d__law_commas.F.kp T.d__law_commas.b (a_cons (d_var 4) a_nil)) (a_cons (d_call V (ok__law_commas T) T.d__law_commas.m T.d__law_commas.F.kp T.d__law_commas.b (a_cons (d_var 5) a_nil)) a_nil))))))))) a_nil)))))
    (s_one (s_fzA 1 (s_ret (d_var 1))))))
theorem sc__law_custom_text : FnScope ["_law_c"] ["_law_c"] (defScope st__law_custom_text) := ⟨rfl, rfl, rfl, by decide +kernel, rfl, by decide +kernel, by decide +kernel⟩
theorem ok__law_custom_text (T : Tx P K mg cls) : FnG P w K mg base 3 T.d__law_custom_text.f T.d__law_custom_text.fd ["_law_c"] (spD ⟨K, cls, tb⟩ 1 F__law_custom_text) :=
  fn_dn (k := 2) ["_law_c"] ["_law_c"] m__law_custom_text T.d__law_custom_text.F sc__law_custom_text rfl rfl fun cdv A outer s H E B V po =>
    (s_one (s_ret (d_join V.hK (de_b d_str) (de_b (d_call V (ok__law_custom_lines T) T.d__law_custom_lines.m T.d__law_custom_lines.F.kp T.d__law_custom_lines.b (a_cons (d_var 0) a_nil))))))
theorem sc_is_name : FnScope ["text", "sign"] ["text"] (defScope st_is_name) := ⟨rfl, rfl, rfl, by decide +kernel, rfl, by decide +kernel, by decide +kernel⟩
theorem ok_is_name (T : Tx P K mg cls) : FnG P w K mg base 1 T.d_is_name.f T.d_is_name.fd ["text"] (spD ⟨K, cls, tb⟩ 1 F_is_name) :=
  fn_dn (k := 0) ["text", "sign"] ["text"] m_is_name T.d_is_name.F sc_is_name rfl rfl fun cdv A outer s H E B V po =>
    (s_one (s_ret (d_and (d_chain op_le ob_I op_le ob_I (de_b d_int) (de_b (d_callB (cr_len V.hK) oc_len T.b_len (by decide +kernel) (ba_cons (de_b (d_var 0)) ba_nil))) (de_b (d_globI T.c_MOST_SIGNS))) (d_one (d_callB (cr_allK V.hK V.calm) oc_bls T.b_all (by decide +kernel) (ba_cons (de_b (d_f (f_lc (own := [("sign", 1)]) V.calm V.nd (i_anyB V.hK (de_b (d_var 0))) (blkOk_by (N := ["text", "sign"]) (sc := defScope st_is_name) (by decide +kernel)) (fun _ _ _ _ _ => (g_name 1 V.blk.nd)) (fun _ _ _ _ _ => pts_yes) (fun _ _ _ _ _ => (d_cmpB op_in_str ob_inS (de_b (d_var 1)) (de_b (d_globS T.c_LETTERS)) (by rfl)))))) ba_nil))))))
theorem sc_is_row : FnScope ["row", "least", "most", "bound", "one", "other", "state"] ["row", "least", "most", "bound"] (defScope st_is_row) := ⟨rfl, rfl, rfl, by decide +kernel, rfl, by decide +kernel, by decide +kernel⟩
theorem ok_is_row (T : Tx P K mg cls) : FnG P w K mg base 1 T.d_is_row.f T.d_is_row.fd ["row", "least", "most", "bound"] (spD ⟨K, cls, tb⟩ 4 F_is_row) :=
  fn_dn (k := 0) ["row", "least", "most", "bound", "one", "other", "state"] ["row", "least", "most", "bound"] m_is_row T.d_is_row.F sc_is_row rfl rfl fun cdv A outer s H E B V po =>
    (s_cons (s_if (PW.pt (w_or (t_not (t_chain op_le ob_I op_le ob_I (de_b (d_var 1)) (de_b (d_callB (cr_len V.hK) oc_len T.b_len (by decide +kernel) (ba_cons (de_b (d_var 0)) ba_nil))) (de_b (d_var 2)))) (w_or1 (t_not (t_truth V.hK (de_b (d_callB (cr_allK V.hK V.calm) oc_bls T.b_all (by decide +kernel) (ba_cons (de_b (d_f (f_lc (own := [("state", 6)]) V.calm V.nd (i_anyB V.hK (de_b (d_var 0))) (blkOk_by (N := ["row", "least", "most", "bound", "one", "other", "state"]) (sc := defScope st_is_row) (by decide +kernel)) (fun _ _ _ _ _ => (g_name 6 V.blk.nd)) (fun _ _ _ _ _ => pts_yes) (fun _ _ _ _ _ => (d_chain op_le ob_I op_lt ob_I (de_b d_int) (de_b (d_var 6)) (de_b (d_var 3))))))) ba_nil)))))))) (s_one (s_ret d_bl)) s_nil)
    (s_one (s_ret (d_callB (cr_allK V.hK V.calm) oc_bls T.b_all (by decide +kernel) (ba_cons (de_b (d_f (f_lc (own := [("one", 4), ("other", 5)]) V.calm V.nd (i_b (i_zip V.hK T.b_zip (a_cons (d_var 0) (a_cons (d_slT V.hK (de_b (d_var 0)) (o_some (de_b d_int)) o_none) a_nil)))) (blkOk_by (N := ["row", "least", "most", "bound", "one", "other", "state"]) (sc := defScope st_is_row) (by decide +kernel)) (fun _ _ _ _ _ => (g_tup V.blk.hK V.blk.calm (gs_cons (g_name 4 V.blk.nd) (gs_cons (g_name 5 V.blk.nd) gs_nil)))) (fun _ _ _ _ _ => pts_yes) (fun _ _ _ _ _ => (d_cmpB op_lt ob_I (de_b (d_var 4)) (de_b (d_var 5)) (nomark _)))))) ba_nil)))))
theorem sc_Custom___init__ : FnScope ["self", "states", "starts", "at", "says", "belief", "zeros", "ones", "start", "row"] ["self", "states", "starts"] (defScope st_Custom___init__) := ⟨rfl, rfl, rfl, by decide +kernel, rfl, by decide +kernel, by decide +kernel⟩
theorem ok_Custom___init__ (T : Tx P K mg cls) : FnG P w K mg base 2 T.d_Custom___init__.f T.d_Custom___init__.fd ["self", "states", "starts"] (spD ⟨K, cls, tb⟩ 3 F_Custom___init__) :=
  fn_dn (k := 1) ["self", "states", "starts", "at", "says", "belief", "zeros", "ones", "start", "row"] ["self", "states", "starts"] m_Custom___init__ T.d_Custom___init__.F sc_Custom___init__ rfl rfl fun cdv A outer s H E B V po =>
    (s_cons (s_if (t_not (t_chain op_le ob_I op_le ob_I (de_b d_int) (de_b (d_callB (cr_len V.hK) oc_len T.b_len (by decide +kernel) (ba_cons (de_b (d_var 1)) ba_nil))) (de_b (d_cintE T.c_Custom.m T.cc_Custom_MOST_STATES)))) (s_one (s_raise 5 V T.x_WrongCount T.m_WrongCount T.b_super T.k_WrongCount (a_cons d_str a_nil))) s_nil)
    (s_cons (s_for po V.calm (i_enumD V.hK T.b_enumerate (d_var 1)) (g_tup V.hK V.calm (gs_cons (g_name 3 V.nd) (gs_cons (g_tup V.hK V.calm (gs_cons (g_name 4 V.nd) (gs_cons (g_name 5 V.nd) (gs_cons (g_name 6 V.nd) (gs_cons (g_name 7 V.nd) gs_nil))))) gs_nil))) (s_cons (s_if (PW.pt (w_or (t_cmp (op_notInK V.hK) ob_inF (de_b (d_var 4)) (de_b (d_tup (a_cons d_int (a_cons d_int a_nil)))) (by rfl)) (w_or1 (PW.pt (w_and (t_cmp op_notN ob_isNN (de_b (d_var 5)) (de_b d_non) (nomark _)) (w_and1 (t_not (t_truth V.hK (de_b (d_call V (ok_is_name T) T.d_is_name.m T.d_is_name.F.kp T.d_is_name.b (a_cons (d_var 5) a_nil))))))))))) (s_one (s_raise 6 V T.x_InvalidState T.m_InvalidState T.b_super T.k_InvalidState (a_cons (d_var 3) a_nil))) s_nil)
    (s_one (s_if (t_not (t_truth V.hK (de_b (d_callB (cr_allK V.hK V.calm) oc_bls T.b_all (by decide +kernel) (ba_cons (de_b (d_f (f_lc (own := [("row", 9)]) V.calm V.nd (i_anyB V.hK (de_b (d_tup (a_cons (d_var 6) (a_cons (d_var 7) a_nil))))) (blkOk_by (N := ["self", "states", "starts", "at", "says", "belief", "zeros", "ones", "start", "row"]) (sc := defScope st_Custom___init__) (by decide +kernel)) (fun _ _ _ _ _ => (g_name 9 V.blk.nd)) (fun _ _ _ _ _ => pts_yes) (fun _ _ _ _ _ => (d_call V.blk (ok_is_row T) T.d_is_row.m T.d_is_row.F.kp T.d_is_row.b (a_cons (d_var 9) (a_cons d_int (a_cons (d_cintE T.c_Custom.m T.cc_Custom_MOST_NEXTS) (a_cons (d_callB (cr_len V.blk.hK) oc_len T.b_len (by decide +kernel) (ba_cons (de_b (d_var 1)) ba_nil)) a_nil))))))))) ba_nil))))) (s_one (s_raise 6 V T.x_InvalidState T.m_InvalidState T.b_super T.k_InvalidState (a_cons (d_var 3) a_nil))) s_nil))))
    (s_cons (s_if (t_cmp (op_eqS (hu64 V)) (ob_eq V.hK) (de_b (d_callB (cr_len V.hK) oc_len T.b_len (by decide +kernel) (ba_cons (de_b (d_var 2)) ba_nil))) (de_b d_int) (nomark _)) (s_one (s_raise 5 V T.x_WrongCount T.m_WrongCount T.b_super T.k_WrongCount (a_cons d_str a_nil))) s_nil)
    (s_cons (s_for po V.calm (i_enumS V.hK T.b_enumerate (d_var 2)) (g_tup V.hK V.calm (gs_cons (g_name 3 V.nd) (gs_cons (g_name 8 V.nd) gs_nil))) (s_one (s_if (PW.pt (w_or (t_not (t_chain op_le ob_I op_lt ob_I (de_b d_int) (de_b (d_var 8)) (de_b (d_callB (cr_len V.hK) oc_len T.b_len (by decide +kernel) (ba_cons (de_b (d_var 1)) ba_nil))))) (w_or1 (PW.pt (w_and (t_cmp op_gt ob_I (de_b (d_var 3)) (de_b d_int) (nomark _)) (w_and1 (t_cmp op_le ob_I (de_b (d_var 8)) (de_b (d_ix V.hK (de_b (d_var 2)) (de_b (d_bin op_sub od_sub (de_b (d_var 3)) (de_b d_int))))) (nomark _)))))))) (s_one (s_raise 7 V T.x_InvalidStart T.m_InvalidStart T.b_super T.k_InvalidStart (a_cons (d_var 8) a_nil))) s_nil)))
    (s_cons (s_setF 26 V.hK T.c_Custom.cl T.na_Custom_rows (d_f (f_lc (own := [("says", 4), ("belief", 5), ("zeros", 6), ("ones", 7)]) V.calm V.nd (i_anyB V.hK (de_b (d_var 1))) (blkOk_by (N := ["self", "states", "starts", "at", "says", "belief", "zeros", "ones", "start", "row"]) (sc := defScope st_Custom___init__) (by decide +kernel)) (fun _ _ _ _ _ => (g_tup V.blk.hK V.blk.calm (gs_cons (g_name 4 V.blk.nd) (gs_cons (g_name 5 V.blk.nd) (gs_cons (g_name 6 V.blk.nd) (gs_cons (g_name 7 V.blk.nd) gs_nil)))))) (fun _ _ _ _ _ => pts_yes) (fun _ _ _ _ _ => (d_tup (a_cons (d_var 4) (a_cons (d_var 5) (a_cons (d_callTy (cr_tuple V.blk.hK) oc_tuple T.b_tuple (by decide +kernel) (ba_cons (de_b (d_var 6)) ba_nil)) (a_cons (d_callTy (cr_tuple V.blk.hK) oc_tuple T.b_tuple (by decide +kernel) (ba_cons (de_b (d_var 7)) ba_nil)) a_nil)))))))) (d_var 0))
    (s_one (s_setF 26 V.hK T.c_Custom.cl T.na_Custom_begins (d_f (f_callTy (cr_list V.hK) oc_list T.b_list (by decide +kernel) (ba_cons (de_b (d_var 2)) ba_nil))) (d_var 0))))))))
theorem sc__law_made : FnScope ["_law_c"] ["_law_c"] (defScope st__law_made) := ⟨rfl, rfl, rfl, by decide +kernel, rfl, by decide +kernel, by decide +kernel⟩
theorem ok__law_made (T : Tx P K mg cls) : FnG P w K mg base 4 T.d__law_made.f T.d__law_made.fd ["_law_c"] (spD ⟨K, cls, tb⟩ 1 F__law_made) :=
  fn_dn (k := 3) ["_law_c"] ["_law_c"] m__law_made T.d__law_made.F sc__law_made rfl rfl fun cdv A outer s H E B V po =>
    (s_one (s_ret (d_newF 26 V (T.d_Custom___init__.init T.c_Custom) (ok_Custom___init__ T) T.d_Custom___init__.b T.c_Custom.m (a_cons (d_f (f_callTy (cr_list V.hK) oc_list T.b_list (by decide +kernel) (ba_cons (de_b (d_ix V.hK (de_b (d_var 0)) (de_b d_int))) ba_nil))) (a_cons (d_f (f_callTy (cr_list V.hK) oc_list T.b_list (by decide +kernel) (ba_cons (de_b (d_ix V.hK (de_b (d_var 0)) (de_b d_int))) ba_nil))) a_nil)))))
theorem sc__law_same : FnScope ["_law_found", "_law_due"] ["_law_found", "_law_due"] (defScope st__law_same) := ⟨rfl, rfl, rfl, by decide +kernel, rfl, by decide +kernel, by decide +kernel⟩
theorem ok__law_same (T : Tx P K mg cls) : FnG P w K mg base 1 T.d__law_same.f T.d__law_same.fd ["_law_found", "_law_due"] (spD ⟨K, cls, tb⟩ 2 F__law_same) :=
  fn_dn (k := 0) ["_law_found", "_law_due"] ["_law_found", "_law_due"] m__law_same T.d__law_same.F sc__law_same rfl rfl fun cdv A outer s H E B V po =>
    (s_one (s_ret (d_cmpB (op_eqS (hu64 V)) (ob_eq V.hK) (de_b (d_callB (cr_repr V) oc_repr T.b_repr (by decide +kernel) (ba_cons (de_b (d_var 0)) ba_nil))) (de_b (d_callB (cr_repr V) oc_repr T.b_repr (by decide +kernel) (ba_cons (de_b (d_var 1)) ba_nil))) (nomark _))))
theorem sc_Custom_starts : FnScope ["self"] ["self"] (defScope st_Custom_starts) := ⟨rfl, rfl, rfl, by decide +kernel, rfl, by decide +kernel, by decide +kernel⟩
theorem ok_Custom_starts (T : Tx P K mg cls) : FnG P w K mg base 1 T.d_Custom_starts.f T.d_Custom_starts.fd ["self"] (spD ⟨K, cls, tb⟩ 1 F_Custom_starts) :=
  fn_dn (k := 0) ["self"] ["self"] m_Custom_starts T.d_Custom_starts.F sc_Custom_starts rfl rfl fun cdv A outer s H E B V po =>
    (s_one (s_ret (d_f (f_callTy (cr_list V.hK) oc_list T.b_list (by decide +kernel) (ba_cons (de_b (d_fld 26 V.hK T.c_Custom.cl T.na_Custom_begins (d_var 0))) ba_nil)))))
theorem sc_Custom_states : FnScope ["self"] ["self"] (defScope st_Custom_states) := ⟨rfl, rfl, rfl, by decide +kernel, rfl, by decide +kernel, by decide +kernel⟩
theorem ok_Custom_states (T : Tx P K mg cls) : FnG P w K mg base 1 T.d_Custom_states.f T.d_Custom_states.fd ["self"] (spD ⟨K, cls, tb⟩ 1 F_Custom_states) :=
  fn_dn (k := 0) ["self"] ["self"] m_Custom_states T.d_Custom_states.F sc_Custom_states rfl rfl fun cdv A outer s H E B V po =>
    (s_one (s_ret (d_f (f_callTy (cr_list V.hK) oc_list T.b_list (by decide +kernel) (ba_cons (de_b (d_fld 26 V.hK T.c_Custom.cl T.na_Custom_rows (d_var 0))) ba_nil)))))
theorem sc_row_text : FnScope ["numbers", "number"] ["numbers"] (defScope st_row_text) := ⟨rfl, rfl, rfl, by decide +kernel, rfl, by decide +kernel, by decide +kernel⟩
theorem ok_row_text (T : Tx P K mg cls) : FnG P w K mg base 1 T.d_row_text.f T.d_row_text.fd ["numbers"] (spD ⟨K, cls, tb⟩ 1 F_row_text) :=
  fn_dn (k := 0) ["numbers", "number"] ["numbers"] m_row_text T.d_row_text.F sc_row_text rfl rfl fun cdv A outer s H E B V po =>
    (s_one (s_ret (d_join V.hK (de_b d_str) (de_b (d_f (f_lc (own := [("number", 1)]) V.calm V.nd (i_anyB V.hK (de_b (d_var 0))) (blkOk_by (N := ["numbers", "number"]) (sc := defScope st_row_text) (by decide +kernel)) (fun _ _ _ _ _ => (g_name 1 V.blk.nd)) (fun _ _ _ _ _ => pts_yes) (fun _ _ _ _ _ => (d_callTy call_str_int oc_str T.b_str (by decide +kernel) (ba_cons (de_b (d_var 1)) ba_nil)))))))))
theorem sc_custom_text : FnScope ["custom", "lines", "says", "belief", "zeros", "ones", "start"] ["custom"] (defScope st_custom_text) := ⟨rfl, rfl, rfl, by decide +kernel, rfl, by decide +kernel, by decide +kernel⟩
theorem ok_custom_text (T : Tx P K mg cls) : FnG P w K mg base 2 T.d_custom_text.f T.d_custom_text.fd ["custom"] (spD ⟨K, cls, tb⟩ 1 F_custom_text) :=
  fn_dn (k := 1) ["custom", "lines", "says", "belief", "zeros", "ones", "start"] ["custom"] m_custom_text T.d_custom_text.F sc_custom_text rfl rfl fun cdv A outer s H E B V po =>
    (s_cons (s_own 1 V.nd (f_lst (a_cons (d_join V.hK (de_b d_str) (de_b (d_f (f_lst (a_cons d_str (a_star V.hK (de_b (d_f (f_lc (own := [("start", 6)]) V.calm V.nd (i_anyB V.hK (de_b (d_meth0 26 V T.c_Custom.cl T.d_Custom_starts.meth (ok_Custom_starts T) T.d_Custom_starts.b (d_var 0)))) (blkOk_by (N := ["custom", "lines", "says", "belief", "zeros", "ones", "start"]) (sc := defScope st_custom_text) (by decide +kernel)) (fun _ _ _ _ _ => (g_name 6 V.blk.nd)) (fun _ _ _ _ _ => pts_yes) (fun _ _ _ _ _ => (d_callTy call_str_int oc_str T.b_str (by decide +kernel) (ba_cons (de_b (d_var 6)) ba_nil)))))) a_nil)))))) a_nil)))
    (s_cons (s_for po V.calm (i_any V.hK (d_meth0 26 V T.c_Custom.cl T.d_Custom_states.meth (ok_Custom_states T) T.d_Custom_states.b (d_var 0))) (g_tup V.hK V.calm (gs_cons (g_name 2 V.nd) (gs_cons (g_name 3 V.nd) (gs_cons (g_name 4 V.nd) (gs_cons (g_name 5 V.nd) gs_nil))))) (s_one (s_ownM 1 V.hK PySem.F.slot_list_append rfl mt_append mf_append (a_cons (d_fstr (.cons d_str (.cons (d_fmt (d_var 2)) (.cons d_str (.cons (d_fmt (d_ifx (t_cmp op_isN ob_isN (de_b (d_var 3)) (de_b d_non) (nomark _)) d_str (d_var 3))) (.cons d_str (.cons (d_fmt (d_call V (ok_row_text T) T.d_row_text.m T.d_row_text.F.kp T.d_row_text.b (a_cons (d_var 4) a_nil))) (.cons d_str (.cons (d_fmt (d_call V (ok_row_text T) T.d_row_text.m T.d_row_text.F.kp T.d_row_text.b (a_cons (d_var 5) a_nil))) .nil))))))))) a_nil))))
    (s_one (s_ret (d_join V.hK (de_b d_str) (b_any 1))))))
theorem sc_number_in : FnScope ["word", "sign"] ["word"] (defScope st_number_in) := ⟨rfl, rfl, rfl, by decide +kernel, rfl, by decide +kernel, by decide +kernel⟩
theorem ok_number_in (T : Tx P K mg cls) : FnG P w K mg base 1 T.d_number_in.f T.d_number_in.fd ["word"] (spD ⟨K, cls, tb⟩ 1 F_number_in) :=
  fn_dn (k := 0) ["word", "sign"] ["word"] m_number_in T.d_number_in.F sc_number_in rfl rfl fun cdv A outer s H E B V po =>
    (s_cons (s_if (PW.pt (w_or (t_not (t_chain op_le ob_I op_le ob_I (de_b d_int) (de_b (d_callB (cr_len V.hK) oc_len T.b_len (by decide +kernel) (ba_cons (de_b (d_var 0)) ba_nil))) (de_b (d_globI T.c_MOST_DIGITS)))) (w_or1 (t_not (t_truth V.hK (de_b (d_callB (cr_allK V.hK V.calm) oc_bls T.b_all (by decide +kernel) (ba_cons (de_b (d_f (f_lc (own := [("sign", 1)]) V.calm V.nd (i_anyB V.hK (de_b (d_var 0))) (blkOk_by (N := ["word", "sign"]) (sc := defScope st_number_in) (by decide +kernel)) (fun _ _ _ _ _ => (g_name 1 V.blk.nd)) (fun _ _ _ _ _ => pts_yes) (fun _ _ _ _ _ => (d_cmpB op_in_str ob_inS (de_b (d_var 1)) (de_b (d_globS T.c_DIGITS)) (by rfl)))))) ba_nil)))))))) (s_one (s_ret d_non)) s_nil)
    (s_one (s_ret (d_ifx (PW.pt (w_and (t_cmp (op_eqS (hu64 V)) (ob_eq V.hK) (de_b (d_ix V.hK (de_b (d_var 0)) (de_b d_int))) (de_b d_str) (nomark _)) (w_and1 (t_cmp (op_neS (hu64 V)) (ob_ne V.hK) (de_b (d_var 0)) (de_b d_str) (nomark _))))) d_non (d_callTy call_int_str oc_intS T.b_int (by decide +kernel) (ba_cons (de_b (d_var 0)) ba_nil))))))
theorem sc_numbers_in : FnScope ["words", "found", "word"] ["words"] (defScope st_numbers_in) := ⟨rfl, rfl, rfl, by decide +kernel, rfl, by decide +kernel, by decide +kernel⟩
theorem ok_numbers_in (T : Tx P K mg cls) : FnG P w K mg base 2 T.d_numbers_in.f T.d_numbers_in.fd ["words"] (spD ⟨K, cls, tb⟩ 1 F_numbers_in) :=
  fn_dn (k := 1) ["words", "found", "word"] ["words"] m_numbers_in T.d_numbers_in.F sc_numbers_in rfl rfl fun cdv A outer s H E B V po =>
    (s_cons (s_asgLc 1 (own := [("word", 2)]) V.calm V.nd (i_anyB V.hK (de_b (d_var 0))) (blkOk_by (N := ["words", "found", "word"]) (sc := defScope st_numbers_in) (by decide +kernel)) (fun _ _ _ _ _ => (g_name 2 V.blk.nd)) (fun _ _ _ _ _ => pts_yes) (fun _ _ _ _ _ => (d_call V.blk (ok_number_in T) T.d_number_in.m T.d_number_in.F.kp T.d_number_in.b (a_cons (d_var 2) a_nil))) (sw_true rfl rfl rfl (by decide +kernel)))
    (s_one (s_ret (d_ifx (t_cmp (op_inK V.hK) ob_inF (de_b d_non) (de_b (d_var 1)) (by rfl)) d_non (d_callTy (cr_tuple V.hK) oc_tuple T.b_tuple (by decide +kernel) (ba_cons (de_b (d_var 1)) ba_nil))))))
theorem sc_starts_in : FnScope ["words"] ["words"] (defScope st_starts_in) := ⟨rfl, rfl, rfl, by decide +kernel, rfl, by decide +kernel, by decide +kernel⟩
theorem ok_starts_in (T : Tx P K mg cls) : FnG P w K mg base 3 T.d_starts_in.f T.d_starts_in.fd ["words"] (spD ⟨K, cls, tb⟩ 1 F_starts_in) :=
  fn_dn (k := 2) ["words"] ["words"] m_starts_in T.d_starts_in.F sc_starts_in rfl rfl fun cdv A outer s H E B V po =>
    (s_one (s_ret (d_ifx (PW.pt (w_and (t_cmp (op_eqS (hu64 V)) (ob_eq V.hK) (de_b (d_ix V.hK (de_b (d_var 0)) (de_b d_int))) (de_b d_str) (nomark _)) (w_and1 (t_cmp op_gt ob_I (de_b (d_callB (cr_len V.hK) oc_len T.b_len (by decide +kernel) (ba_cons (de_b (d_var 0)) ba_nil))) (de_b d_int) (nomark _))))) (d_call V (ok_numbers_in T) T.d_numbers_in.m T.d_numbers_in.F.kp T.d_numbers_in.b (a_cons (d_f (f_slL V.hK (de_b (d_var 0)) (o_some (de_b d_int)) o_none)) a_nil)) d_non)))
theorem sc_state_in : FnScope ["words", "zeros", "ones"] ["words"] (defScope st_state_in) := ⟨rfl, rfl, rfl, by decide +kernel, rfl, by decide +kernel, by decide +kernel⟩
theorem ok_state_in (T : Tx P K mg cls) : FnG P w K mg base 3 T.d_state_in.f T.d_state_in.fd ["words"] (spD ⟨K, cls, tb⟩ 1 F_state_in) :=
  fn_dn (k := 2) ["words", "zeros", "ones"] ["words"] m_state_in T.d_state_in.F sc_state_in rfl rfl fun cdv A outer s H E B V po =>
    (s_cons (s_if (PW.pt (w_or (t_cmp (op_neS (hu64 V)) (ob_ne V.hK) (de_b (d_callB (cr_len V.hK) oc_len T.b_len (by decide +kernel) (ba_cons (de_b (d_var 0)) ba_nil))) (de_b d_int) (nomark _)) (w_or (t_cmp (op_neS (hu64 V)) (ob_ne V.hK) (de_b (d_ix V.hK (de_b (d_var 0)) (de_b d_int))) (de_b d_str) (nomark _)) (w_or1 (t_cmp (op_notInK V.hK) ob_inF (de_b (d_ix V.hK (de_b (d_var 0)) (de_b d_int))) (de_b (d_tup (a_cons d_str (a_cons d_str a_nil)))) (by rfl)))))) (s_one (s_ret d_non)) s_nil)
    (s_cons (s_parV2 1 2 V.calm V.nd (va_sh (d_call V (ok_numbers_in T) T.d_numbers_in.m T.d_numbers_in.F.kp T.d_numbers_in.b (a_cons (d_f (f_split (d_ix V.hK (de_b (d_var 0)) (de_b d_int)) d_str)) a_nil)) (va_sh (d_call V (ok_numbers_in T) T.d_numbers_in.m T.d_numbers_in.F.kp T.d_numbers_in.b (a_cons (d_f (f_split (d_ix V.hK (de_b (d_var 0)) (de_b d_int)) d_str)) a_nil)) va_nil)) rfl)
    (s_cons (s_if (PW.pt (w_or (t_cmp op_isN ob_isN (de_b (d_var 1)) (de_b d_non) (nomark _)) (w_or (t_cmp op_isN ob_isN (de_b (d_var 2)) (de_b d_non) (nomark _)) (w_or1 (PW.pt (w_and (t_cmp (op_neS (hu64 V)) (ob_ne V.hK) (de_b (d_ix V.hK (de_b (d_var 0)) (de_b d_int))) (de_b d_str) (nomark _)) (w_and1 (t_not (t_truth V.hK (de_b (d_call V (ok_is_name T) T.d_is_name.m T.d_is_name.F.kp T.d_is_name.b (a_cons (d_ix V.hK (de_b (d_var 0)) (de_b d_int)) a_nil)))))))))))) (s_one (s_ret d_non)) s_nil)
    (s_one (s_ret (d_tup (a_cons (d_callTy call_int_str oc_intS T.b_int (by decide +kernel) (ba_cons (de_b (d_ix V.hK (de_b (d_var 0)) (de_b d_int))) ba_nil)) (a_cons (d_ifx (t_cmp (op_eqS (hu64 V)) (ob_eq V.hK) (de_b (d_ix V.hK (de_b (d_var 0)) (de_b d_int))) (de_b d_str) (nomark _)) d_non (d_ix V.hK (de_b (d_var 0)) (de_b d_int))) (a_cons (d_var 1) (a_cons (d_var 2) a_nil))))))))))
theorem sc_read_custom : FnScope ["text", "lines", "starts", "states", "at", "line"] ["text"] (defScope st_read_custom) := ⟨rfl, rfl, rfl, by decide +kernel, rfl, by decide +kernel, by decide +kernel⟩
theorem ok_read_custom (T : Tx P K mg cls) : FnG P w K mg base 4 T.d_read_custom.f T.d_read_custom.fd ["text"] (spD ⟨K, cls, tb⟩ 1 F_read_custom) :=
  fn_dn (k := 3) ["text", "lines", "starts", "states", "at", "line"] ["text"] m_read_custom T.d_read_custom.F sc_read_custom rfl rfl fun cdv A outer s H E B V po =>
    (s_cons (s_asg (d_f (f_split (d_var 0) d_str)) (g_name 1 V.nd))
    (s_cons (s_parV2 2 3 V.calm V.nd (va_sh (d_call V (ok_starts_in T) T.d_starts_in.m T.d_starts_in.F.kp T.d_starts_in.b (a_cons (d_f (f_split (d_ix V.hK (de_b (d_var 1)) (de_b d_int)) d_str)) a_nil)) (va_own (f_lst a_nil) va_nil)) rfl)
    (s_cons (s_if (t_cmp op_isN ob_isN (de_b (d_var 2)) (de_b d_non) (nomark _)) (s_one (s_raise 16 V T.x_InvalidText T.m_InvalidText T.b_super T.k_InvalidText (a_cons d_int a_nil))) s_nil)
    (s_cons (s_for po V.calm (i_enumD V.hK T.b_enumerate (d_f (f_slL V.hK (de_b (d_var 1)) (o_some (de_b d_int)) o_none))) (g_tup V.hK V.calm (gs_cons (g_name 4 V.nd) (gs_cons (g_name 5 V.nd) gs_nil))) (s_cons (s_ownM 3 V.hK PySem.F.slot_list_append rfl mt_append mf_append (a_cons (d_call V (ok_state_in T) T.d_state_in.m T.d_state_in.F.kp T.d_state_in.b (a_cons (d_f (f_split (d_var 5) d_str)) a_nil)) a_nil))
    (s_one (s_if (t_cmp op_isN ob_isN (de_b (d_ix V.hK (b_any 3) (de_b (d_var 4)))) (de_b d_non) (nomark _)) (s_one (s_raise 16 V T.x_InvalidText T.m_InvalidText T.b_super T.k_InvalidText (a_cons (d_bin (op_addD V.hK) od_add (de_b (d_var 4)) (de_b d_int)) a_nil))) s_nil))))
    (s_cons (s_if (t_cmp (op_eqS (hu64 V)) (ob_eq V.hK) (b_any 3) (de_b (d_f (f_lst a_nil))) (nomark _)) (s_one (s_raise 16 V T.x_InvalidText T.m_InvalidText T.b_super T.k_InvalidText (a_cons d_int a_nil))) s_nil)
    (s_one (s_fzA 3 (s_ret (d_newF 26 V (T.d_Custom___init__.init T.c_Custom) (ok_Custom___init__ T) T.d_Custom___init__.b T.c_Custom.m (a_cons (d_var 3) (a_cons (d_var 2) a_nil)))))))))))
theorem sc_Custom___eq__ : FnScope ["self", "other"] ["self", "other"] (defScope st_Custom___eq__) := ⟨rfl, rfl, rfl, by decide +kernel, rfl, by decide +kernel, by decide +kernel⟩
theorem ok_Custom___eq__ (T : Tx P K mg cls) : FnG P w K mg base 1 T.d_Custom___eq__.f T.d_Custom___eq__.fd ["self", "other"] (spD ⟨K, cls, tb⟩ 2 F_Custom___eq__) :=
  fn_dn (k := 0) ["self", "other"] ["self", "other"] m_Custom___eq__ T.d_Custom___eq__.F sc_Custom___eq__ rfl rfl fun cdv A outer s H E B V po =>
    (s_one (s_ret (d_and (d_isiC 26 V.hK T.is_Custom T.b_isinstance T.c_Custom.m (d_var 1)) (d_and (d_cmpB (op_eqS (hu64 V)) (ob_eq V.hK) (de_b (d_fld 26 V.hK T.c_Custom.cl T.na_Custom_rows (d_var 0))) (de_b (d_fld 26 V.hK T.c_Custom.cl T.na_Custom_rows (d_var 1))) (nomark _)) (d_one (d_cmpB (op_eqS (hu64 V)) (ob_eq V.hK) (de_b (d_fld 26 V.hK T.c_Custom.cl T.na_Custom_begins (d_var 0))) (de_b (d_fld 26 V.hK T.c_Custom.cl T.na_Custom_begins (d_var 1))) (nomark _)))))))
theorem sc__law_custom_so : FnScope ["_law_made_here", "_law_c"] ["_law_made_here", "_law_c"] (defScope st__law_custom_so) := ⟨rfl, rfl, rfl, by decide +kernel, rfl, by decide +kernel, by decide +kernel⟩
theorem ok__law_custom_so (T : Tx P K mg cls) : FnG P w K mg base 2 T.d__law_custom_so.f T.d__law_custom_so.fd ["_law_made_here", "_law_c"] (spD ⟨K, cls, tb⟩ 2 F__law_custom_so) :=
  fn_dn (k := 1) ["_law_made_here", "_law_c"] ["_law_made_here", "_law_c"] m__law_custom_so T.d__law_custom_so.F sc__law_custom_so rfl rfl fun cdv A outer s H E B V po =>
    (s_one (s_ret (d_call V (ok__law_same T) T.d__law_same.m T.d__law_same.F.kp T.d__law_same.b (a_cons (d_f (f_lst (a_cons (d_meth0 26 V T.c_Custom.cl T.d_Custom_states.meth (ok_Custom_states T) T.d_Custom_states.b (d_var 0)) (a_cons (d_meth0 26 V T.c_Custom.cl T.d_Custom_starts.meth (ok_Custom_starts T) T.d_Custom_starts.b (d_var 0)) a_nil)))) (a_cons (d_f (f_lst (a_cons (d_ix V.hK (de_b (d_var 1)) (de_b d_int)) (a_cons (d_ix V.hK (de_b (d_var 1)) (de_b d_int)) a_nil)))) a_nil)))))
theorem sc__law_rule : FnScope ["_law_src", "_law_names_here", "_law_found", "_law_k", "_law_pair"] ["_law_src", "_law_names_here"] (defScope st__law_rule) := ⟨rfl, rfl, rfl, by decide +kernel, rfl, by decide +kernel, by decide +kernel⟩
theorem ok__law_rule (T : Tx P K mg cls) : FnG P w K mg base 3 T.d__law_rule.f T.d__law_rule.fd ["_law_src", "_law_names_here"] (spD ⟨K, cls, tb⟩ 2 F__law_rule) :=
  fn_dn (k := 2) ["_law_src", "_law_names_here", "_law_found", "_law_k", "_law_pair"] ["_law_src", "_law_names_here"] m__law_rule T.d__law_rule.F sc__law_rule rfl rfl fun cdv A outer s H E B V po =>
    (s_cons (s_asgLc 2 (own := [("_law_k", 3)]) V.calm V.nd (i_b (i_range1 T.b_range (ba_cons (de_b (d_call V (ok__law_draw T) T.d__law_draw.m T.d__law_draw.F.kp T.d__law_draw.b (a_cons (d_var 0) (a_cons d_int a_nil)))) ba_nil))) (blkOk_by (N := ["_law_src", "_law_names_here", "_law_found", "_law_k", "_law_pair"]) (sc := defScope st__law_rule) (by decide +kernel)) (fun _ _ _ _ _ => (g_name 3 V.blk.nd)) (fun _ _ _ _ _ => pts_yes) (fun _ _ _ _ _ => (d_tup (a_cons (d_call V.blk (ok__law_of T) T.d__law_of.m T.d__law_of.F.kp T.d__law_of.b (a_cons (d_var 0) (a_cons (d_f (f_slL V.blk.hK (de_b (d_var 1)) o_none (o_some (de_b d_int)))) a_nil))) (a_cons (d_call V.blk (ok__law_of T) T.d__law_of.m T.d__law_of.F.kp T.d__law_of.b (a_cons (d_var 0) (a_cons (d_f (f_slL V.blk.hK (de_b (d_var 1)) o_none (o_some (de_b d_int)))) a_nil))) a_nil)))) (sw_true rfl rfl rfl (by decide +kernel)))
    (s_one (s_ret (d_f (f_sortSetT V.hK T.b_sorted T.b_set (de_b (d_f (f_lc (own := [("_law_pair", 4)]) V.calm V.nd (i_anyB V.hK (de_b (d_var 2))) (blkOk_by (N := ["_law_src", "_law_names_here", "_law_found", "_law_k", "_law_pair"]) (sc := defScope st__law_rule) (by decide +kernel)) (fun _ _ _ _ _ => (g_name 4 V.blk.nd)) (fun _ _ _ _ _ => pts_yes) (fun _ _ _ _ _ => (d_tup (a_cons (d_callB (cr_minS V.blk.hK V.blk.calm) (oc_best false) T.b_min (by decide +kernel) (ba_cons (de_b (d_var 4)) ba_nil)) (a_cons (d_callB (cr_maxS V.blk.hK V.blk.calm) (oc_best true) T.b_max (by decide +kernel) (ba_cons (de_b (d_var 4)) ba_nil)) a_nil))))))) V.calm (hu64 V))))))
theorem sc_is_pair : FnScope ["value"] ["value"] (defScope st_is_pair) := ⟨rfl, rfl, rfl, by decide +kernel, rfl, by decide +kernel, by decide +kernel⟩
theorem ok_is_pair (T : Tx P K mg cls) : FnG P w K mg base 2 T.d_is_pair.f T.d_is_pair.fd ["value"] (spD ⟨K, cls, tb⟩ 1 F_is_pair) :=
  fn_dn (k := 1) ["value"] ["value"] m_is_pair T.d_is_pair.F sc_is_pair rfl rfl fun cdv A outer s H E B V po =>
    (s_cons (s_if (t_not (t_truth V.hK (de_b (d_isi2 (t1 := "tuple") (t2 := "list") V.hK T.b_isinstance T.b_tuple T.b_list (by decide +kernel) (by decide +kernel) (d_var 0))))) (s_one (s_ret d_bl)) s_nil)
    (s_one (s_ret (d_and (d_cmpB (op_eqS (hu64 V)) (ob_eq V.hK) (de_b (d_callB (cr_len V.hK) oc_len T.b_len (by decide +kernel) (ba_cons (de_b (d_var 0)) ba_nil))) (de_b d_int) (nomark _)) (d_and (d_call V (ok_is_name T) T.d_is_name.m T.d_is_name.F.kp T.d_is_name.b (a_cons (d_ix V.hK (de_b (d_var 0)) (de_b d_int)) a_nil)) (d_one (d_call V (ok_is_name T) T.d_is_name.m T.d_is_name.F.kp T.d_is_name.b (a_cons (d_ix V.hK (de_b (d_var 0)) (de_b d_int)) a_nil))))))))
theorem sc_ordered : FnScope ["pair", "one", "other"] ["pair"] (defScope st_ordered) := ⟨rfl, rfl, rfl, by decide +kernel, rfl, by decide +kernel, by decide +kernel⟩
theorem ok_ordered (T : Tx P K mg cls) : FnG P w K mg base 1 T.d_ordered.f T.d_ordered.fd ["pair"] (spD ⟨K, cls, tb⟩ 1 F_ordered) :=
  fn_dn (k := 0) ["pair", "one", "other"] ["pair"] m_ordered T.d_ordered.F sc_ordered rfl rfl fun cdv A outer s H E B V po =>
    (s_cons (s_asg (d_var 0) (g_seq V.hK V.calm (gs_cons (g_name 1 V.nd) (gs_cons (g_name 2 V.nd) gs_nil))))
    (s_one (s_ret (d_ifx (t_cmp op_leS ob_leS (de_b (d_var 1)) (de_b (d_var 2)) (nomark _)) (d_tup (a_cons (d_var 1) (a_cons (d_var 2) a_nil))) (d_tup (a_cons (d_var 2) (a_cons (d_var 1) a_nil)))))))
theorem sc_Rule___init__ : FnScope ["self", "pairs", "at", "pair"] ["self", "pairs"] (defScope st_Rule___init__) := ⟨rfl, rfl, rfl, by decide +kernel, rfl, by decide +kernel, by decide +kernel⟩
theorem ok_Rule___init__ (T : Tx P K mg cls) : FnV P w K mg base 3 T.d_Rule___init__.f (spV ⟨K, cls, tb⟩ 1 F_Rule___init__) :=
  fn_star (k := 2) ["self", "pairs", "at", "pair"] ["self"] "pairs" m_Rule___init__ T.d_Rule___init__.F sc_Rule___init__ rfl rfl (fun kV doc pm an cdv ct => StX.bind_star1 (B := fun us => bindArgs (PySem.W.fnOf "__init__" "Rule.__init__" (defArgs st_Rule___init__) (defBody st_Rule___init__) (defScope st_Rule___init__) .none kV doc pm an cdv ct) ⟨us, []⟩) (pv := "pairs") (fun _ => rfl) (fun _ _ _ => rfl)) fun cdv A outer s H E B V po =>
    (s_cons (s_for po V.calm (i_enumS V.hK T.b_enumerate (d_var 1)) (g_tup V.hK V.calm (gs_cons (g_name 2 V.nd) (gs_cons (g_name 3 V.nd) gs_nil))) (s_one (s_if (t_not (t_truth V.hK (de_b (d_call V (ok_is_pair T) T.d_is_pair.m T.d_is_pair.F.kp T.d_is_pair.b (a_cons (d_var 3) a_nil))))) (s_one (s_raise 9 V T.x_InvalidPair T.m_InvalidPair T.b_super T.k_InvalidPair (a_cons (d_var 2) a_nil))) s_nil)))
    (s_one (s_setF 27 V.hK T.c_Rule.cl T.na_Rule_rows (d_f (f_sortSetC (own := [("pair", 3)]) V.hK T.b_sorted V.calm (hu64 V) V.nd (i_anyB V.hK (de_b (d_var 1))) (blkOk_by (N := ["self", "pairs", "at", "pair"]) (sc := defScope st_Rule___init__) (by decide +kernel)) (fun _ _ _ _ _ => (g_name 3 V.blk.nd)) (fun _ _ _ _ _ => pts_yes) (fun _ _ _ _ _ => (d_call V.blk (ok_ordered T) T.d_ordered.m T.d_ordered.F.kp T.d_ordered.b (a_cons (d_var 3) a_nil))))) (d_var 0))))
theorem sc_Rule___add__ : FnScope ["self", "pair"] ["self", "pair"] (defScope st_Rule___add__) := ⟨rfl, rfl, rfl, by decide +kernel, rfl, by decide +kernel, by decide +kernel⟩
theorem ok_Rule___add__ (T : Tx P K mg cls) : FnG P w K mg base 5 T.d_Rule___add__.f T.d_Rule___add__.fd ["self", "pair"] (spD ⟨K, cls, tb⟩ 2 F_Rule___add__) :=
  fn_dn (k := 4) ["self", "pair"] ["self", "pair"] m_Rule___add__ T.d_Rule___add__.F sc_Rule___add__ rfl rfl fun cdv A outer s H E B V po =>
    (s_cons (s_if (t_not (t_truth V.hK (de_b (d_call V (ok_is_pair T) T.d_is_pair.m T.d_is_pair.F.kp T.d_is_pair.b (a_cons (d_var 1) a_nil))))) (s_one (s_raise 9 V T.x_InvalidPair T.m_InvalidPair T.b_super T.k_InvalidPair (a_cons d_int a_nil))) s_nil)
    (s_one (s_ret (d_newFVn 27 V (T.d_Rule___init__.init T.c_Rule) (ok_Rule___init__ T) T.c_Rule.m (a_star V.hK (de_b (d_fld 27 V.hK T.c_Rule.cl T.na_Rule_rows (d_var 0))) (a_cons (d_var 1) a_nil)) rfl))))
theorem sc__law_rule_made : FnScope ["_law_r", "_law_made_here", "_law_one", "_law_other"] ["_law_r"] (defScope st__law_rule_made) := ⟨rfl, rfl, rfl, by decide +kernel, rfl, by decide +kernel, by decide +kernel⟩
theorem ok__law_rule_made (T : Tx P K mg cls) : FnG P w K mg base 7 T.d__law_rule_made.f T.d__law_rule_made.fd ["_law_r"] (spD ⟨K, cls, tb⟩ 1 F__law_rule_made) :=
  fn_dn (k := 6) ["_law_r", "_law_made_here", "_law_one", "_law_other"] ["_law_r"] m__law_rule_made T.d__law_rule_made.F sc__law_rule_made rfl rfl fun cdv A outer s H E B V po =>
    (s_cons (s_asg (d_newFV0 27 V (T.d_Rule___init__.init T.c_Rule) (ok_Rule___init__ T) T.c_Rule.m) (g_name 1 V.nd))
    (s_cons (s_for po V.calm (i_any V.hK (d_var 0)) (g_tup V.hK V.calm (gs_cons (g_name 2 V.nd) (gs_cons (g_name 3 V.nd) gs_nil))) (s_one (s_asg (d_addT 27 V T.ad_Rule T.d_Rule___add__.at_ T.d_Rule___add__.fn (ok_Rule___add__ T) T.d_Rule___add__.b (d_var 1) (d_tup (a_cons (d_var 3) (a_cons (d_var 2) a_nil)))) (g_name 1 V.nd))))
    (s_one (s_ret (d_var 1)))))
theorem sc__law_rule_text : FnScope ["_law_r", "_law_one", "_law_other"] ["_law_r"] (defScope st__law_rule_text) := ⟨rfl, rfl, rfl, by decide +kernel, rfl, by decide +kernel, by decide +kernel⟩
theorem ok__law_rule_text (T : Tx P K mg cls) : FnG P w K mg base 1 T.d__law_rule_text.f T.d__law_rule_text.fd ["_law_r"] (spD ⟨K, cls, tb⟩ 1 F__law_rule_text) :=
  fn_dn (k := 0) ["_law_r", "_law_one", "_law_other"] ["_law_r"] m__law_rule_text T.d__law_rule_text.F sc__law_rule_text rfl rfl fun cdv A outer s H E B V po =>
    (s_one (s_ret (d_ifx (t_cmp (op_neS (hu64 V)) (ob_ne V.hK) (de_b (d_var 0)) (de_b (d_f (f_lst a_nil))) (nomark _)) (d_join V.hK (de_b d_str) (de_b (d_f (f_lc (own := [("_law_one", 1), ("_law_other", 2)]) V.calm V.nd (i_anyB V.hK (de_b (d_var 0))) (blkOk_by (N := ["_law_r", "_law_one", "_law_other"]) (sc := defScope st__law_rule_text) (by decide +kernel)) (fun _ _ _ _ _ => (g_tup V.blk.hK V.blk.calm (gs_cons (g_name 1 V.blk.nd) (gs_cons (g_name 2 V.blk.nd) gs_nil)))) (fun _ _ _ _ _ => pts_yes) (fun _ _ _ _ _ => (d_bin (op_addD V.blk.hK) od_add (de_b (d_bin (op_addD V.blk.hK) od_add (de_b (d_var 1)) (de_b d_str))) (de_b (d_var 2)))))))) d_str)))
theorem sc_Rule_pairs : FnScope ["self"] ["self"] (defScope st_Rule_pairs) := ⟨rfl, rfl, rfl, by decide +kernel, rfl, by decide +kernel, by decide +kernel⟩
theorem ok_Rule_pairs (T : Tx P K mg cls) : FnG P w K mg base 1 T.d_Rule_pairs.f T.d_Rule_pairs.fd ["self"] (spF ⟨K, cls, tb⟩ 1 F_Rule_pairs) :=
  fn_fn (k := 0) ["self"] ["self"] m_Rule_pairs T.d_Rule_pairs.F sc_Rule_pairs rfl rfl fun cdv A outer s H E B V po =>
    (s_one (s_retF (f_callTy (cr_list V.hK) oc_list T.b_list (by decide +kernel) (ba_cons (de_b (d_fld 27 V.hK T.c_Rule.cl T.na_Rule_rows (d_var 0))) ba_nil))))
theorem sc_read_rule : FnScope ["text", "pairs", "part", "pair", "word"] ["text"] (defScope st_read_rule) := ⟨rfl, rfl, rfl, by decide +kernel, rfl, by decide +kernel, by decide +kernel⟩
theorem ok_read_rule (T : Tx P K mg cls) : FnG P w K mg base 5 T.d_read_rule.f T.d_read_rule.fd ["text"] (spD ⟨K, cls, tb⟩ 1 F_read_rule) :=
  fn_dn (k := 4) ["text", "pairs", "part", "pair", "word"] ["text"] m_read_rule T.d_read_rule.F sc_read_rule rfl rfl fun cdv A outer s H E B V po =>
    (s_cons (s_if (t_cmp (op_eqS (hu64 V)) (ob_eq V.hK) (de_b (d_var 0)) (de_b d_str) (nomark _)) (s_one (s_ret (d_newFV0 27 V (T.d_Rule___init__.init T.c_Rule) (ok_Rule___init__ T) T.c_Rule.m))) s_nil)
    (s_cons (s_asgLc 1 (own := [("part", 2)]) V.calm V.nd (i_anyB V.hK (de_b (d_f (f_split (d_var 0) d_str)))) (blkOk_by (N := ["text", "pairs", "part", "pair", "word"]) (sc := defScope st_read_rule) (by decide +kernel)) (fun _ _ _ _ _ => (g_name 2 V.blk.nd)) (fun _ _ _ _ _ => pts_yes) (fun _ _ _ _ _ => (d_callTy (cr_tuple V.blk.hK) oc_tuple T.b_tuple (by decide +kernel) (ba_cons (de_b (d_f (f_split (d_var 2) d_str))) ba_nil))) (sw_true rfl rfl rfl (by decide +kernel)))
    (s_cons (s_if (t_not (t_truth V.hK (de_b (d_callB (cr_allK V.hK V.calm) oc_bls T.b_all (by decide +kernel) (ba_cons (de_b (d_f (f_lc (own := [("pair", 3)]) V.calm V.nd (i_anyB V.hK (de_b (d_var 1))) (blkOk_by (N := ["text", "pairs", "part", "pair", "word"]) (sc := defScope st_read_rule) (by decide +kernel)) (fun _ _ _ _ _ => (g_name 3 V.blk.nd)) (fun _ _ _ _ _ => pts_yes) (fun _ _ _ _ _ => (d_and (d_cmpB (op_eqS (hu64 V.blk)) (ob_eq V.blk.hK) (de_b (d_callB (cr_len V.blk.hK) oc_len T.b_len (by decide +kernel) (ba_cons (de_b (d_var 3)) ba_nil))) (de_b d_int) (nomark _)) (d_one (d_callB (cr_allK V.blk.hK V.blk.calm) oc_bls T.b_all (by decide +kernel) (ba_cons (de_b (d_f (f_lc (own := [("word", 4)]) V.blk.calm V.blk.nd (i_anyB V.blk.hK (de_b (d_var 3))) (blkOk_in (N := ["text", "pairs", "part", "pair", "word"]) (by decide +kernel)) (fun _ _ _ _ _ => (g_name 4 V.blk.blk.nd)) (fun _ _ _ _ _ => pts_yes) (fun _ _ _ _ _ => (d_call V.blk.blk (ok_is_name T) T.d_is_name.m T.d_is_name.F.kp T.d_is_name.b (a_cons (d_var 4) a_nil)))))) ba_nil)))))))) ba_nil))))) (s_one (s_raise 16 V T.x_InvalidText T.m_InvalidText T.b_super T.k_InvalidText (a_cons d_int a_nil))) s_nil)
    (s_one (s_ret (d_newFV1 27 V (T.d_Rule___init__.init T.c_Rule) (ok_Rule___init__ T) T.c_Rule.m (de_b (d_var 1))))))))
theorem sc_Rule___bool__ : FnScope ["self"] ["self"] (defScope st_Rule___bool__) := ⟨rfl, rfl, rfl, by decide +kernel, rfl, by decide +kernel, by decide +kernel⟩
theorem ok_Rule___bool__ (T : Tx P K mg cls) : FnG P w K mg base 1 T.d_Rule___bool__.f T.d_Rule___bool__.fd ["self"] (spD ⟨K, cls, tb⟩ 1 F_Rule___bool__) :=
  fn_dn (k := 0) ["self"] ["self"] m_Rule___bool__ T.d_Rule___bool__.F sc_Rule___bool__ rfl rfl fun cdv A outer s H E B V po =>
    (s_one (s_ret (d_callTy (cr_boolL V.hK) oc_boolL T.b_bool (by decide +kernel) (ba_cons (de_b (d_fld 27 V.hK T.c_Rule.cl T.na_Rule_rows (d_var 0))) ba_nil))))
theorem sc_rule_text : FnScope ["rule", "one", "other"] ["rule"] (defScope st_rule_text) := ⟨rfl, rfl, rfl, by decide +kernel, rfl, by decide +kernel, by decide +kernel⟩
theorem ok_rule_text (T : Tx P K mg cls) : FnG P w K mg base 3 T.d_rule_text.f T.d_rule_text.fd ["rule"] (spD ⟨K, cls, tb⟩ 1 F_rule_text) :=
  fn_dn (k := 2) ["rule", "one", "other"] ["rule"] m_rule_text T.d_rule_text.F sc_rule_text rfl rfl fun cdv A outer s H E B V po =>
    (s_one (s_ret (d_ifx (t_own 27 V T.d_Rule___bool__.at_ T.d_Rule___bool__.fn (ok_Rule___bool__ T) T.d_Rule___bool__.b (d_var 0)) (d_join V.hK (de_b d_str) (de_b (d_f (f_lc (own := [("one", 1), ("other", 2)]) V.calm V.nd (i_anyB V.hK (de_b (d_f (f_meth0 27 V T.c_Rule.cl T.d_Rule_pairs.meth (ok_Rule_pairs T) T.d_Rule_pairs.b (d_var 0))))) (blkOk_by (N := ["rule", "one", "other"]) (sc := defScope st_rule_text) (by decide +kernel)) (fun _ _ _ _ _ => (g_tup V.blk.hK V.blk.calm (gs_cons (g_name 1 V.blk.nd) (gs_cons (g_name 2 V.blk.nd) gs_nil)))) (fun _ _ _ _ _ => pts_yes) (fun _ _ _ _ _ => (d_fstr (.cons (d_fmt (d_var 1)) (.cons d_str (.cons (d_fmt (d_var 2)) .nil))))))))) d_str)))
theorem sc_Rule___eq__ : FnScope ["self", "other"] ["self", "other"] (defScope st_Rule___eq__) := ⟨rfl, rfl, rfl, by decide +kernel, rfl, by decide +kernel, by decide +kernel⟩
theorem ok_Rule___eq__ (T : Tx P K mg cls) : FnG P w K mg base 1 T.d_Rule___eq__.f T.d_Rule___eq__.fd ["self", "other"] (spD ⟨K, cls, tb⟩ 2 F_Rule___eq__) :=
  fn_dn (k := 0) ["self", "other"] ["self", "other"] m_Rule___eq__ T.d_Rule___eq__.F sc_Rule___eq__ rfl rfl fun cdv A outer s H E B V po =>
    (s_one (s_ret (d_and (d_isiC 27 V.hK T.is_Rule T.b_isinstance T.c_Rule.m (d_var 1)) (d_one (d_cmpB (op_eqS (hu64 V)) (ob_eq V.hK) (de_b (d_fld 27 V.hK T.c_Rule.cl T.na_Rule_rows (d_var 0))) (de_b (d_fld 27 V.hK T.c_Rule.cl T.na_Rule_rows (d_var 1))) (nomark _))))))
theorem sc_law : FnScope ["_law_script", "_law_src", "_law_names_here", "_law_turn", "_law_c", "_law_made_here", "_law_text7", "_law_found", "_law_r", "_law_rule7", "_law_loose", "_law_one", "_law_other"] ["_law_script"] (defScope st_law) := ⟨rfl, rfl, rfl, by decide +kernel, rfl, by decide +kernel, by decide +kernel⟩
theorem ok_law (T : Tx P K mg cls) : FnG P w K mg base 8 T.d_law.f T.d_law.fd ["_law_script"] (spD ⟨K, cls, tb⟩ 1 F_law) :=
  fn_dn (k := 7) ["_law_script", "_law_src", "_law_names_here", "_law_turn", "_law_c", "_law_made_here", "_law_text7", "_law_found", "_law_r", "_law_rule7", "_law_loose", "_law_one", "_law_other"] ["_law_script"] m_law T.d_law.F sc_law rfl rfl fun cdv A outer s H E B V po =>
    (s_cons (s_mob 1 V.nd (f_call V (ok__law_source T) T.d__law_source.m T.d__law_source.F.kp T.d__law_source.b (a_cons (d_var 0) a_nil)))
    (s_cons (s_asg (d_call V (ok__law_names T) T.d__law_names.m T.d__law_names.F.kp T.d__law_names.b (a_cons (d_var 1) (a_cons d_int a_nil))) (g_name 2 V.nd))
    (s_cons (s_for po V.calm (i_range1 T.b_range (ba_cons (de_b d_int) ba_nil)) (g_name 3 V.nd) (s_cons (s_asg (d_call V (ok__law_custom T) T.d__law_custom.m T.d__law_custom.F.kp T.d__law_custom.b (a_cons (d_var 1) (a_cons (d_var 2) (a_cons d_int a_nil)))) (g_name 4 V.nd))
    (s_cons (s_parV2 5 6 V.calm V.nd (va_sh (d_call V (ok__law_made T) T.d__law_made.m T.d__law_made.F.kp T.d__law_made.b (a_cons (d_var 4) a_nil)) (va_sh (d_call V (ok__law_custom_text T) T.d__law_custom_text.m T.d__law_custom_text.F.kp T.d__law_custom_text.b (a_cons (d_var 4) a_nil)) va_nil)) rfl)
    (s_cons (s_if (t_not (t_truth V.hK (de_b (d_call V (ok__law_same T) T.d__law_same.m T.d__law_same.F.kp T.d__law_same.b (a_cons (d_f (f_lst (a_cons (d_call V (ok_custom_text T) T.d_custom_text.m T.d_custom_text.F.kp T.d_custom_text.b (a_cons (d_var 5) a_nil)) (a_cons (d_callKw V (ok_custom_text T) T.d_custom_text.m T.d_custom_text.F.kp (fun_kb T.d_custom_text.F fun _ _ _ _ _ _ _ => rfl) (d_var 5)) a_nil)))) (a_cons (d_f (f_lst (a_cons (d_var 6) (a_cons (d_var 6) a_nil)))) a_nil)))))) (s_one (s_ret d_bl)) s_nil)
    (s_cons (s_asg (d_call V (ok_read_custom T) T.d_read_custom.m T.d_read_custom.F.kp T.d_read_custom.b (a_cons (d_var 6) a_nil)) (g_name 7 V.nd))
    (s_cons (s_if (PW.pt (w_or (t_not (t_truth V.hK (de_b (d_call V (ok__law_custom_so T) T.d__law_custom_so.m T.d__law_custom_so.F.kp T.d__law_custom_so.b (a_cons (d_var 7) (a_cons (d_var 4) a_nil)))))) (w_or (t_ownC 26 T.nf_Custom (op_neO 26 V T.c_Custom.mks T.ne_Custom T.d_Custom___eq__.at_ T.d_Custom___eq__.fn (ok_Custom___eq__ T) T.d_Custom___eq__.b (by decide)) (d_var 7) (d_var 5) (nomark _)) (w_or1 (t_ownC 26 T.nf_Custom (op_neO 26 V T.c_Custom.mks T.ne_Custom T.d_Custom___eq__.at_ T.d_Custom___eq__.fn (ok_Custom___eq__ T) T.d_Custom___eq__.b (by decide)) (d_callKw V (ok_read_custom T) T.d_read_custom.m T.d_read_custom.F.kp (fun_kb T.d_read_custom.F fun _ _ _ _ _ _ _ => rfl) (d_call V (ok_custom_text T) T.d_custom_text.m T.d_custom_text.F.kp T.d_custom_text.b (a_cons (d_var 7) a_nil))) (d_var 5) (nomark _)))))) (s_one (s_ret d_bl)) s_nil)
    (s_cons (s_asg (d_call V (ok__law_rule T) T.d__law_rule.m T.d__law_rule.F.kp T.d__law_rule.b (a_cons (d_var 1) (a_cons (d_var 2) a_nil))) (g_name 8 V.nd))
    (s_cons (s_asg (d_call V (ok__law_rule_made T) T.d__law_rule_made.m T.d__law_rule_made.F.kp T.d__law_rule_made.b (a_cons (d_var 8) a_nil)) (g_name 9 V.nd))
    (s_cons (s_if (t_not (t_truth V.hK (de_b (d_call V (ok__law_same T) T.d__law_same.m T.d__law_same.F.kp T.d__law_same.b (a_cons (d_f (f_lst (a_cons (d_call V (ok_rule_text T) T.d_rule_text.m T.d_rule_text.F.kp T.d_rule_text.b (a_cons (d_var 9) a_nil)) (a_cons (d_f (f_meth0 27 V T.c_Rule.cl T.d_Rule_pairs.meth (ok_Rule_pairs T) T.d_Rule_pairs.b (d_call V (ok_read_rule T) T.d_read_rule.m T.d_read_rule.F.kp T.d_read_rule.b (a_cons (d_call V (ok__law_rule_text T) T.d__law_rule_text.m T.d__law_rule_text.F.kp T.d__law_rule_text.b (a_cons (d_var 8) a_nil)) a_nil)))) a_nil)))) (a_cons (d_f (f_lst (a_cons (d_call V (ok__law_rule_text T) T.d__law_rule_text.m T.d__law_rule_text.F.kp T.d__law_rule_text.b (a_cons (d_var 8) a_nil)) (a_cons (d_var 8) a_nil)))) a_nil)))))) (s_one (s_ret d_bl)) s_nil)
    (s_cons (s_asg (d_ifx (t_cmp (op_neS (hu64 V)) (ob_ne V.hK) (de_b (d_var 8)) (de_b (d_f (f_lst a_nil))) (nomark _)) (d_join V.hK (de_b d_str) (de_b (d_f (f_lc (own := [("_law_one", 11), ("_law_other", 12)]) V.calm V.nd (i_anyB V.hK (de_b (d_bin (op_addD V.hK) od_add (de_b (d_f (f_revL V.hK (de_b (d_var 8))))) (de_b (d_var 8))))) (blkOk_by (N := ["_law_script", "_law_src", "_law_names_here", "_law_turn", "_law_c", "_law_made_here", "_law_text7", "_law_found", "_law_r", "_law_rule7", "_law_loose", "_law_one", "_law_other"]) (sc := defScope st_law) (by decide +kernel)) (fun _ _ _ _ _ => (g_tup V.blk.hK V.blk.calm (gs_cons (g_name 11 V.blk.nd) (gs_cons (g_name 12 V.blk.nd) gs_nil)))) (fun _ _ _ _ _ => pts_yes) (fun _ _ _ _ _ => (d_bin (op_addD V.blk.hK) od_add (de_b (d_bin (op_addD V.blk.hK) od_add (de_b (d_var 12)) (de_b d_str))) (de_b (d_var 11)))))))) d_str) (g_name 10 V.nd))
    (s_one (s_if (PW.pt (w_or (t_ownC 27 T.nf_Rule (op_neO 27 V T.c_Rule.mks T.ne_Rule T.d_Rule___eq__.at_ T.d_Rule___eq__.fn (ok_Rule___eq__ T) T.d_Rule___eq__.b (by decide)) (d_call V (ok_read_rule T) T.d_read_rule.m T.d_read_rule.F.kp T.d_read_rule.b (a_cons (d_var 10) a_nil)) (d_var 9) (nomark _)) (w_or1 (t_cmp (op_neS (hu64 V)) (ob_ne V.hK) (de_b (d_callKw V (ok_rule_text T) T.d_rule_text.m T.d_rule_text.F.kp (fun_kb T.d_rule_text.F fun _ _ _ _ _ _ _ => rfl) (d_callKw V (ok_read_rule T) T.d_read_rule.m T.d_read_rule.F.kp (fun_kb T.d_read_rule.F fun _ _ _ _ _ _ _ => rfl) (d_var 10)))) (de_b (d_call V (ok__law_rule_text T) T.d__law_rule_text.m T.d__law_rule_text.F.kp T.d__law_rule_text.b (a_cons (d_var 8) a_nil))) (nomark _))))) (s_one (s_ret d_bl)) s_nil))))))))))))
    (s_one (s_ret (d_cmpB (op_eqS (hu64 V)) (ob_eq V.hK) (de_b (d_call V (ok_custom_text T) T.d_custom_text.m T.d_custom_text.F.kp T.d_custom_text.b (a_cons (d_call V (ok_read_custom T) T.d_read_custom.m T.d_read_custom.F.kp T.d_read_custom.b (a_cons d_str a_nil)) a_nil))) (de_b d_str) (nomark _)))))))
end
end K47
set_option maxHeartbeats 4000000
namespace K47
open PySem PySem.Spec PyProof.Rows L2 NW
theorem draw_spec {mo : MO} (rest : Z) {many : Int} (h : SrcOk mo) (h0 : 0 < many) (h1 : many < 1073741824) : ∃ r mo', F__law_draw [.mob 0, .int many] (mo :: rest) = .ok (.int r) (mo' :: rest) ∧ 0 ≤ r ∧ r < many ∧ SrcOk mo' := by
  obtain ⟨cells, a, b, c, d, rfl, ha⟩ := h
  have e0 : startE 6 [.mob 0, .int many] = [some (.sh (.mob 0)), some (.sh (.int many)), none, none, none, none] := rfl
  have ix0 : ∀ (ds : List D) (rest : Z) (i : Int), ixD (.lst ds :: rest) (.mob 0) (.int i) = atI ds i := fun _ _ _ => rfl
  have at0 : ∀ (x y z u v : D), atI [x, y, z, u, v] 0 = some x := fun _ _ _ _ _ => rfl
  have at1 : ∀ (x y z u v : D), atI [x, y, z, u, v] 1 = some y := fun _ _ _ _ _ => rfl
  have at2 : ∀ (x y z u v : D), atI [x, y, z, u, v] 2 = some z := fun _ _ _ _ _ => rfl
  have at3 : ∀ (x y z u v : D), atI [x, y, z, u, v] 3 = some u := fun _ _ _ _ _ => rfl
  have at4 : ∀ (x y z u v : D), atI [x, y, z, u, v] 4 = some v := fun _ _ _ _ _ => rfl
  have st1 : ∀ (x y z u v n : D) (rest : Z), setM (.lst [x, y, z, u, v] :: rest) (.mob 0) (.int 1) n = some (.lst [x, n, z, u, v] :: rest) := fun _ _ _ _ _ _ _ => rfl
  have st2 : ∀ (x y z u v n : D) (rest : Z), setM (.lst [x, y, z, u, v] :: rest) (.mob 0) (.int 2) n = some (.lst [x, y, n, u, v] :: rest) := fun _ _ _ _ _ _ _ => rfl
  have st3 : ∀ (x y z u v n : D) (rest : Z), setM (.lst [x, y, z, u, v] :: rest) (.mob 0) (.int 3) n = some (.lst [x, y, z, n, v] :: rest) := fun _ _ _ _ _ _ _ => rfl
  have st4 : ∀ (x y z u v n : D) (rest : Z), setM (.lst [x, y, z, u, v] :: rest) (.mob 0) (.int 4) n = some (.lst [x, y, z, u, n] :: rest) := fun _ _ _ _ _ _ _ => rfl
  have k1 : ∀ x : Int, mulI x 8663 = some (.int (x * 8663)) := fun x => mulI_r (by omega)
  have k2 : ∀ x : Int, mulI x 49031 = some (.int (x * 49031)) := fun x => mulI_r (by omega)
  have k3 : ∀ x : Int, mulI x 43 = some (.int (x * 43)) := fun x => mulI_r (by omega)
  have k4 : ∀ x : Int, mulI 30697 x = some (.int (30697 * x)) := fun x => mulI_l (by omega)
  have k5 : ∀ x y : Int, mulI (x % 2147483543) y = some (.int (x % 2147483543 * y)) := fun x y => mulI_l (by omega)
  have k6 : ∀ x y : Int, mulI (x % 2147483579) y = some (.int (x % 2147483579 * y)) := fun x y => mulI_l (by omega)
  have md : ∀ x : Int, modI x many = some (.int (x % many)) := fun x => modI_p h0
  have m1 : ∀ x : Int, modI x 2147483543 = some (.int (x % 2147483543)) := fun x => modI_p (by omega)
  have m2 : ∀ x : Int, modI x 2147483549 = some (.int (x % 2147483549)) := fun x => modI_p (by omega)
  have m3 : ∀ x : Int, modI x 2147483579 = some (.int (x % 2147483579)) := fun x => modI_p (by omega)
  have m4 : ∀ x : Int, modI x 39989 = some (.int (x % 39989)) := fun x => modI_p (by omega)
  have m5 : ∀ x : Int, modI x 8999 = some (.int (x % 8999)) := fun x => modI_p (by omega)
  have q1 : ∀ x : Int, divI x many = some (.int (x / many)) := fun x => divI_p h0 h1
  have q2 : ∀ x : Int, divI x 67 = some (.int (x / 67)) := fun x => divI_p (by omega) (by omega)
  have p1 : powI 10 18 = some (.int 1000000000000000000) := rfl
  have len6 : ∀ (x y z u v w : Option DV), [x, y, z, u, v, w].length = 6 := fun _ _ _ _ _ _ => rfl
  -- behind the first test
  have seg : ∀ (x : Option DV) (a b c d : Int), 0 ≤ a → ∃ r mo', endR ((sIf (mOp2 geI (mOp2 ixD (mVar 0) (mRet (.int 2))) (mVar 1)) (sSeq (sAsg (setE 3) (mOp2 (int2 modI) (mCall intD (mCons (mOp2 ixD (mVar 0) (mRet (.int 2))) mNil)) (mVar 1)))
    (sSeq (sSetM (mOp2 (int2 divI) (mOp2 ixD (mVar 0) (mRet (.int 2))) (mVar 1)) (mVar 0) (mRet (.int 2)))
    (sRet (mVar 3)))) sNx [some (.sh (.mob 0)), some (.sh (.int many)), x, none, none, none] (.lst [.lst (cells.map .int), .int a, .int b, .int c, .int d] :: rest)).then
    (sSeq (sSetM (mOp2 addD (mOp2 ixD (mVar 0) (mRet (.int 4))) (mRet (.int 1))) (mVar 0) (mRet (.int 4)))
    (sSeq (sAsg (setE 4) (mOp2 (int2 modI) (mCall intD (mCons (mOp2 addD (mOp2 ixD (mVar 0) (mRet (.int 3))) (mOp2 (int2 mulI) (mOp2 ixD (mVar 0) (mRet (.int 4))) (mRet (.int 8663)))) mNil)) (mRet (.int 2147483579))))
    (sSeq (sAsg (setE 5) (mOp2 (int2 mulI) (mOp2 (int2 modI) (mCall intD (mCons (mOp2 (int2 mulI) (mVar 4) (mVar 4)) mNil)) (mRet (.int 2147483543))) (mOp2 addD (mOp2 (int2 modI) (mCall intD (mCons (mVar 4) mNil)) (mRet (.int 39989))) (mRet (.int 5)))))
    (sSeq (sSetM (mOp2 (int2 modI) (mCall intD (mCons (mOp2 addD (mOp2 addD (mVar 5) (mOp2 (int2 mulI) (mRet (.int 30697)) (mVar 4))) (mRet (.int 1013))) mNil)) (mRet (.int 2147483549))) (mVar 0) (mRet (.int 3)))
    (sRet (mOp2 (int2 modI) (mCall intD (mCons (mOp2 addD (mOp2 (int2 divI) (mOp2 ixD (mVar 0) (mRet (.int 3))) (mRet (.int 67))) (mOp2 (int2 mulI) (mOp2 (int2 modI) (mCall intD (mCons (mOp2 ixD (mVar 0) (mRet (.int 3))) mNil)) (mRet (.int 8999))) (mRet (.int 43)))) mNil)) (mVar 1)))))))) = .ok (.int r) (mo' :: rest) ∧ 0 ≤ r ∧ r < many ∧ SrcOk mo' := by
    intro x a b c d ha
    by_cases hb : many ≤ b
    · refine ⟨b % many, _, ?_, Int.emod_nonneg _ (by omega), Int.emod_lt_of_pos _ h0, ⟨cells, a, b / many, c, d, rfl, ha⟩⟩
      simp [ix0, at2, hb, md, q1, st2]
    · refine ⟨_, _, (by simp [ix0, at2, at3, at4, hb, md, m1, m2, m3, m4, m5, k1, k3, k4, k5, k6, q2, st3, st4]; exact ⟨rfl, rfl, rfl⟩), Int.emod_nonneg _ (by omega), Int.emod_lt_of_pos _ h0, ⟨cells, a, b, _, _, rfl, ha⟩⟩
  by_cases c1 : b < many ∧ a < cells.length
  · obtain ⟨c1, c2⟩ := c1
    obtain ⟨n, rfl⟩ := Int.eq_ofNat_of_zero_le ha
    have hn : n < cells.length := by omega
    have gn : atI (cells.map D.int) (n : Int) = some (.int cells[n]) := by
      rw [atI_ofNat _ _ (by simpa using hn)]; simp
    by_cases c3 : (1000000000000000000 : Int) ≤ cells[n]
    · have := seg (some (.sh (.int cells[n]))) ((n : Int) + 1) cells[n] ((c * 49031 + cells[n] % 2147483543 + 23) % 2147483549) d (by omega)
      simpa [F__law_draw, runB, m__law_draw, e0, ix0, at0, at1, at2, at3, c1, c2, gn, st1, st2, st3, k2, m1, m2, p1, c3] using this
    · have := seg (some (.sh (.int cells[n]))) ((n : Int) + 1) 0 ((c * 49031 + cells[n] % 2147483543 + 23) % 2147483549) d (by omega)
      simpa [F__law_draw, runB, m__law_draw, e0, ix0, at0, at1, at2, at3, c1, c2, gn, st1, st2, st3, k2, m1, m2, p1, c3] using this
  · have := seg none a b c d ha
    by_cases c2 : b < many
    · have c3 : ¬ a < cells.length := fun h => c1 ⟨c2, h⟩
      simpa [F__law_draw, runB, m__law_draw, e0, ix0, at0, at1, at2, c2, c3] using this
    · simpa [F__law_draw, runB, m__law_draw, e0, ix0, at0, at1, at2, c2] using this

theorem of_str {mo : MO} (rest : Z) {s : Str} (h : SrcOk mo) (h0 : 0 < s.length) (h1 : s.length < 1073741824) (h2 : s.length ≤ sizeLine) : ∃ c mo', F__law_of [.mob 0, .str s] (mo :: rest) = .ok (.str ⟨#[c]⟩) (mo' :: rest) ∧ c ∈ s.cps.toList ∧ SrcOk mo' := by
  obtain ⟨r, mo', e, g1, g2, g3⟩ := draw_spec rest h (many := (s.length : Int)) (by omega) (by omega)
  obtain ⟨n, rfl⟩ := Int.eq_ofNat_of_zero_le g1
  have hn : n < s.cps.toList.length := by
    have : s.length = s.cps.toList.length := len_cps s
    omega
  refine ⟨s.cps.toList[n], mo', ?_, List.getElem_mem _, g3⟩
  have e0 : startE 2 [.mob 0, .str s] = [some (.sh (.mob 0)), some (.sh (.str s))] := rfl
  have ea : ixD (mo' :: rest) (.str s) (.int (n : Int)) = some (.str ⟨#[s.cps.toList[n]]⟩) := by
    show (if s.length ≤ sizeLine then (atI s.cps.toList (n : Int)).map _ else none) = _
    rw [if_pos h2, atI_ofNat _ _ hn]
    rfl
  simp [F__law_of, runB, m__law_of, e0, h2, e, ea]
theorem of_lst {mo : MO} (rest : Z) {ds : List D} (h : SrcOk mo) (h0 : 0 < ds.length) (h1 : ds.length < 1073741824) : ∃ d mo', F__law_of [.mob 0, .lst ds] (mo :: rest) = .ok d (mo' :: rest) ∧ d ∈ ds ∧ SrcOk mo' := by
  obtain ⟨r, mo', e, g1, g2, g3⟩ := draw_spec rest h (many := (ds.length : Int)) (by omega) (by omega)
  obtain ⟨n, rfl⟩ := Int.eq_ofNat_of_zero_le g1
  have hn : n < ds.length := by omega
  refine ⟨ds[n], mo', ?_, List.getElem_mem _, g3⟩
  have e0 : startE 2 [.mob 0, .lst ds] = [some (.sh (.mob 0)), some (.sh (.lst ds))] := rfl
  simp [F__law_of, runB, m__law_of, e0, e, atI_ofNat _ _ hn]
theorem source_spec (ns : List Int) (hn : ns.length ≤ 63) : ∃ mo, SrcOk mo ∧ ∃ ds, mo = .lst ds ∧ F__law_source [.lst (ns.map .int)] [] = .ok (.lst ds) [] := by
  have e0 : startE 3 [.lst (ns.map .int)] = [some (.sh (.lst (ns.map .int))), none, none] := rfl
  have k2 : ∀ x : Int, mulI x 48491 = some (.int (x * 48491)) := fun x => mulI_r (by omega)
  have m1 : ∀ x : Int, modI x 2147483477 = some (.int (x % 2147483477)) := fun x => modI_p (by omega)
  have m3 : ∀ x : Int, modI x 2147483579 = some (.int (x % 2147483579)) := fun x => modI_p (by omega)
  obtain ⟨ρ', z', e1, seed, x, e2, e3⟩ := forGo_inv (I := fun ρ z => ∃ (seed : Int) (x : Option DV), ρ = [some (.sh (.lst (ns.map .int))), some (.sh (.int seed)), x] ∧ z = []) (g := setE 2) (body := sAsg (setE 1) (mOp2 (int2 modI) (mCall intD (mCons (mOp2 addD (mOp2 addD (mOp2 (int2 mulI) (mVar 1) (mRet (.int 48491))) (mOp2 (int2 modI) (mCall intD (mCons (mVar 2) mNil)) (mRet (.int 2147483477)))) (mRet (.int 37))) mNil)) (mRet (.int 2147483579))))
    ((cutL ns none (some 63)).map D.int) [some (.sh (.lst (ns.map .int))), some (.sh (.int 5786)), none] [] ⟨5786, none, rfl, rfl⟩ (by
      rintro d hd ρ z ⟨seed, x, rfl, rfl⟩
      obtain ⟨v, _, rfl⟩ := List.mem_map.mp hd
      refine ⟨_, setE_in 2 _ (by simp), ?_⟩
      simp [k2, m1, m3])
  have hz : (5 : Nat) ≤ sizeLine := by decide
  refine ⟨.lst [.lst ((cutL ns none (some 63)).map .int), .int 0, .int 0, .int seed, .int 0], ⟨_, 0, 0, seed, 0, rfl, by omega⟩, _, rfl, ?_⟩
  subst e2 e3
  simp [F__law_source, runBF, m__law_source, e0, cutL_map', e1, hz]
def nameB (s : Str) : Bool := decide ((1 : Int) ≤ s.length) && (decide ((s.length : Int) ≤ 8) && ((s.cps.toList.map sgn).map fun d => ((inS [] d (.str "abcdefghijklmnopqrstuvwxyz")).getD false)).all id)
theorem is_name_bl (s : Str) (z : Z) (hs : s.length ≤ sizeLine) : F_is_name [.str s] z = .ok (.bl (nameB s)) z := by
  have e0 : startE 2 [.str s] = [some (.sh (.str s)), none] := rfl
  have e1 : lcGo (setE 1) (mRet true) (mBl (mOp2 inS (mVar 1) (mRet (.str "abcdefghijklmnopqrstuvwxyz")))) (wipeE [some (.sh (.str s)), none] [1]) (s.cps.toList.map sgn) [] z =
      .ok ((s.cps.toList.map sgn).map fun d => .bl ((inS z d (.str "abcdefghijklmnopqrstuvwxyz")).getD false)) z := by
    rw [lcGo_map (fun d => .bl ((inS z d (.str "abcdefghijklmnopqrstuvwxyz")).getD false))]
    · rfl
    · have : s.length = s.cps.toList.length := len_cps s
      simp only [List.length_nil, List.length_map]
      omega
    · intro d hd
      obtain ⟨c, _, rfl⟩ := List.mem_map.mp hd
      exact ⟨_, setE_in 1 _ (by simp [wipeE]), rfl⟩
  simp only [F_is_name, runB, m_is_name, e0, ap_sret, ap_andV, ap_map, ap_chain, ap_ret, ap_call, ap_cons, ap_nil, ap_var, List.getElem?_cons_zero, varO_sh, rb_ok, len_strD _ hs, ofO_some, cI_int]
  by_cases c1 : (1 : Int) ≤ s.length
  · by_cases c2 : (s.length : Int) ≤ 8
    · have : (fun d => (inS z d (.str "abcdefghijklmnopqrstuvwxyz")).getD false) = fun d => (inS [] d (.str "abcdefghijklmnopqrstuvwxyz")).getD false := by
        funext d; cases d <;> rfl
      simp [nameB, c1, c2, e1, allD, blsOf_map, -List.map_map, -List.all_map, this]
    · simp [nameB, c1, c2]
  · simp [nameB, c1]

theorem cutS_len (x : Str) (l h : Option Int) : (cutS x l h).length ≤ x.length := by
  rw [len_cps, len_cps]
  unfold cutS
  simp only [List.length_take, List.length_drop]
  omega
theorem app_len (x y : Str) : (x ++ y).length = x.length + y.length := by
  rw [len_cps, len_cps x, len_cps y]
  simp [TL.tl_append]
theorem join_len (ys : List Str) (h : ∀ y ∈ ys, y.length = 1) : (Txt.join "" ys).length = ys.length := by
  rw [TL.join_eq, len_cps]
  show (TL.tl _).length = _
  rw [TL.tl_join]
  have e : ∀ l : List (List Nat), (∀ p ∈ l, p.length = 1) → (TL.joinL [] l).length = l.length := by
    intro l
    induction l with
    | nil => intro _; rfl
    | cons p l ih =>
      intro hp
      cases l with
      | nil => simpa [TL.joinL] using hp p (by simp)
      | cons q r =>
        have := ih fun x hx => hp x (by simp at hx ⊢; exact .inr hx)
        have h1 := hp p (by simp)
        simp only [TL.joinL, List.length_append, List.nil_append, List.length_cons] at this ⊢
        omega
  rw [show TL.tl "" = [] from rfl, e _ (fun p hp => by
    obtain ⟨y, hy, rfl⟩ := List.mem_map.mp hp
    exact (len_cps y).symm.trans (h y hy)), List.length_map]
theorem mixed_spec {mo : MO} (rest : Z) (ds : List D) (h : SrcOk mo) (hl : ds.length ≤ 1000) : ∃ es mo', F__law_mixed [.mob 0, .lst ds] (mo :: rest) = .ok (.lst es) (mo' :: rest) ∧ es.Perm ds ∧ SrcOk mo' := by
  have hline : sizeLine = 16777216 := sizeLine_eq
  have e0 : startE 4 [.mob 0, .lst ds] = [some (.sh (.mob 0)), some (.sh (.lst ds)), none, none] := rfl
  obtain ⟨ρ', z', e1, es, mo', a, rfl, rfl, hm, hp⟩ := forGo_ix (I := fun i ρ z => ∃ (es : List D) (mo : MO) (a : Option DV), ρ = [some (.sh (.mob 0)), some (.sh (.lst ds)), some (.own (.lst es)), a] ∧ z = mo :: rest ∧ SrcOk mo ∧ es.Perm (ds.take i))
    (g := setE 3) (body := sOwnM 2 insertF (mCons (mApp 2 F__law_draw (mCons (mVar 0) (mCons (mOp2 addD (mCall lenD (mCons (mVarB 2) mNil)) (mRet (.int 1))) mNil))) (mCons (mVar 3) mNil)))
    ds ds 0 [some (.sh (.mob 0)), some (.sh (.lst ds)), some (.own (.lst [])), none] (mo :: rest) (by simp) rfl ⟨[], mo, none, rfl, rfl, h, by simp⟩ (by
      rintro i d hd ρ z ⟨es, mo, a, rfl, rfl, hm, hp⟩
      have hi := (List.getElem?_eq_some_iff.mp hd).1
      have hel : es.length ≤ 1000 := by rw [hp.length_eq, List.length_take]; omega
      obtain ⟨r, mo', f1, f2, f3, hm'⟩ := draw_spec rest hm (many := (es.length : Int) + 1) (by omega) (by omega)
      refine ⟨_, setE_in 3 _ (by simp), _, mo' :: rest, by simp [f1, f2, show r < 9223372036854775808 by omega, show es.length < sizeLine by omega]; exact ⟨rfl, rfl⟩, _, mo', _, rfl, rfl, hm', ?_⟩
      rw [List.take_succ, hd]
      show (es.take r.toNat ++ d :: es.drop r.toNat).Perm (ds.take i ++ [d])
      refine List.perm_middle.trans ?_
      rw [List.take_append_drop]
      exact (hp.cons d).trans (List.perm_append_singleton d _).symm)
  refine ⟨es, mo', ?_, by simpa using hp, hm⟩
  simp [F__law_mixed, runB, m__law_mixed, e0, e1]
theorem cps_cut (x : Str) (r : Int) (h0 : 0 ≤ r) (h1 : r ≤ x.length) : (cutS x none (some r)).cps.toList = x.cps.toList.take r.toNat ∧ (cutS x (some r) none).cps.toList = x.cps.toList.drop r.toNat := by
  obtain ⟨n, rfl⟩ := Int.eq_ofNat_of_zero_le h0
  have hn : n ≤ x.cps.toList.length := by rw [len_cps'] ; omega
  have sl : x.length = x.cps.toList.length := len_cps x
  have e1 : HT.sIx x.length 0 none = 0 := rfl
  have e2 : HT.sIx x.length x.length (some (n : Int)) = n := by rw [HT.sIx_nat]; omega
  have e3 : HT.sIx x.length 0 (some (n : Int)) = n := by rw [HT.sIx_nat]; omega
  have e4 : HT.sIx x.length x.length none = x.length := rfl
  constructor
  · show (x.cps.toList.drop (HT.sIx x.length 0 none)).take (HT.sIx x.length x.length (some (n : Int)) - HT.sIx x.length 0 none) = _
    rw [e1, e2]
    simp
  · show (x.cps.toList.drop (HT.sIx x.length 0 (some (n : Int)))).take (HT.sIx x.length x.length none - HT.sIx x.length 0 (some (n : Int))) = _
    rw [e3, e4, List.take_of_length_le (by rw [List.length_drop]; omega)]
    simp
theorem cps_app (x y : Str) : (x ++ y).cps.toList = x.cps.toList ++ y.cps.toList := TL.tl_append x y
theorem cps_join (ys : List Str) : (Txt.join "" ys).cps.toList = (ys.map fun y => y.cps.toList).flatten := by
  rw [TL.join_eq]
  show TL.tl _ = _
  rw [TL.tl_join]
  have : ∀ l : List (List Nat), TL.joinL [] l = l.flatten := by
    intro l
    induction l with
    | nil => rfl
    | cons p l ih =>
      cases l with
      | nil => simp [TL.joinL]
      | cons q r => simp [TL.joinL] at ih ⊢; rw [ih]
  rw [show TL.tl "" = [] from rfl, this]
def nameOf (stem : Str) (r : Int) (c : Nat) : Str := cutS stem none (some r) ++ ⟨#[c]⟩ ++ cutS stem (some r) none
theorem cps_name (stem : Str) (r : Int) (c : Nat) (h0 : 0 ≤ r) (h1 : r ≤ stem.length) : (nameOf stem r c).cps.toList = stem.cps.toList.take r.toNat ++ [c] ++ stem.cps.toList.drop r.toNat := by
  unfold nameOf
  rw [cps_app, cps_app, (cps_cut stem r h0 h1).1, (cps_cut stem r h0 h1).2]
theorem names_spec {mo : MO} (rest : Z) (many : Nat) (h : SrcOk mo) (hm : many ≤ 26) : ∃ (names : List Str) (mo' : MO), F__law_names [.mob 0, .int (many : Int)] (mo :: rest) = .ok (.lst (names.map .str)) (mo' :: rest) ∧ names.length = many ∧ names.Nodup ∧ (∀ s ∈ names, GoodN s) ∧ SrcOk mo' := by
  have hline : sizeLine = 16777216 := sizeLine_eq
  have e0 : startE 7 [.mob 0, .int (many : Int)] = [some (.sh (.mob 0)), some (.sh (.int many)), none, none, none, none, none] := rfl
  have abc : ("abcdefghijklmnopqrstuvwxyz" : Str).length = 26 := by decide +kernel
  have l26 : lettersL.length = 26 := by decide +kernel
  have lnd : lettersL.Nodup := by decide +kernel
  have lc1 : ∀ z, lcGo (setE 5) (mRet true) (mVar 5) (wipeE [some (.sh (.mob 0)), some (.sh (.int many)), none, none, none, none, none] [5]) (lettersL.map sgn) [] z = .ok (lettersL.map sgn) z := fun z =>
    lcGo_mapT sgn sgn lettersL (by omega) fun c _ => ⟨_, setE_in 5 _ (by simp [wipeE]), by simp [wipeE]⟩
  have hab : ("abcdefghijklmnopqrstuvwxyz" : Str).cps.toList = lettersL := rfl
  obtain ⟨es, mo1, g1, g2, hm1⟩ := mixed_spec rest (lettersL.map sgn) h (by simp; omega)
  obtain ⟨ls, rfl, hls⟩ : ∃ ls : List Nat, es = ls.map sgn ∧ ls.Perm lettersL := by
    let dec : D → Nat := fun d => match d with | .str x => x.cps.toList.headD 0 | _ => 0
    have hd : ∀ c, dec (sgn c) = c := fun c => rfl
    refine ⟨es.map dec, ?_, ?_⟩
    · rw [List.map_map]
      refine (List.map_id' _).symm.trans (List.map_congr_left fun d hd' => ?_)
      obtain ⟨c, _, rfl⟩ := List.mem_map.mp (g2.subset hd')
      rfl
    · have := g2.map dec
      rw [List.map_map] at this
      have e : (dec ∘ sgn) = id := funext hd
      rwa [e, List.map_id] at this
  have hcut : cutL (ls.map sgn) none (some (many : Int)) = (ls.take many).map sgn := by
    have hl : ls.length = 26 := by rw [hls.length_eq]; exact l26
    rw [cutL_map']
    unfold cutL
    have e1 : HT.sIx ls.length 0 none = 0 := rfl
    have e2 : HT.sIx ls.length ls.length (some (many : Int)) = many := by rw [HT.sIx_nat]; omega
    rw [e1, e2]
    simp
  obtain ⟨r1, mo2, d1, f1, f2, hm2⟩ := draw_spec rest hm1 (many := 8) (by omega) (by omega)
  have rr : ∀ z, rng1 z [.int r1] = some (rngD 0 r1.toNat) := fun _ => if_pos ⟨by omega, by omega⟩
  obtain ⟨ys, z1, l1, ⟨mo3, rfl, hm3⟩, l2, l3⟩ := lcGo_drawT (P := fun z => ∃ mo, z = mo :: rest ∧ SrcOk mo) (E := fun _ (c : Nat) => c ∈ lettersL) (g := setE 6) (me := mApp 2 F__law_of (mCons (mVar 0) (mCons (mRet (.str "abcdefghijklmnopqrstuvwxyz")) mNil)))
    (ρ := wipeE [some (.sh (.mob 0)), some (.sh (.int many)), some (.sh (.lst ((ls.take many).map sgn))), none, none, none, none] [6]) (fun i : Nat => D.int (i : Int)) sgn (List.range r1.toNat) [] (mo2 :: rest) ⟨mo2, rfl, hm2⟩ (by simp; omega) (by
      rintro x hx z ⟨mo, rfl, hm⟩
      obtain ⟨cc, mo', f1, f3, f2⟩ := of_str rest (s := "abcdefghijklmnopqrstuvwxyz") hm (by omega) (by omega) (by omega)
      exact ⟨_, setE_in 6 _ (by simp [wipeE]), cc, mo' :: rest, by simp [wipeE, f1, sgn], ⟨mo', rfl, f2⟩, f3⟩)
  simp only [List.nil_append] at l1
  rw [← rng_map] at l1
  simp only [List.length_range] at l2
  have hso : strsOf (ys.map sgn) = some (ys.map fun c => (⟨#[c]⟩ : Str)) := by
    clear l1 l2 l3
    induction ys with
    | nil => rfl
    | cons y ys ih =>
      show (strsOf (ys.map sgn)).map _ = _
      rw [ih]
      rfl
  have hc1 : (Txt.join "" (ys.map fun c => (⟨#[c]⟩ : Str))).cps.toList = ys := by
    rw [cps_join, List.map_map]
    clear l1 l2 l3 hso
    induction ys with
    | nil => rfl
    | cons y ys ih => simp only [List.map_cons, List.flatten_cons, ih]; rfl
  have hjl : (Txt.join "" (ys.map fun c => (⟨#[c]⟩ : Str))).length = ys.length := by rw [len_cps, hc1]
  have js : ((ys.map fun c => (⟨#[c]⟩ : Str)).map (·.length)).sum ≤ 8 := by
    have : (ys.map fun c => (⟨#[c]⟩ : Str)).map (·.length) = List.replicate ys.length 1 := by
      rw [List.map_map]
      apply List.ext_getElem (by simp)
      intro i h1 h2
      simp
      rfl
    rw [this, List.sum_replicate_nat]
    omega
  have jd : ∀ z, joinD z (.str "") (.lst (ys.map sgn)) = some (.str (Txt.join "" (ys.map fun c => (⟨#[c]⟩ : Str)))) := fun z => by
    have e : joinD z (.str "") (.lst (ys.map sgn)) = (strsOf (ys.map sgn)).bind fun ys => if (ys.map (·.length)).sum + ys.length * ("" : Str).length ≤ 16777216 then some (.str (Txt.join "" ys)) else none := rfl
    rw [e, hso]
    exact if_pos (by rw [show ("" : Str).length = 0 from rfl]; omega)
  generalize hs1 : Txt.join "" (ys.map fun c => (⟨#[c]⟩ : Str)) = s1 at *
  obtain ⟨r2, mo4, d2, g3, g4, hm4⟩ := draw_spec rest hm3 (many := (s1.length : Int) + 1) (by omega) (by omega)
  have lc2 : ∀ z, lcGo (setE 5) (mRet true) (mOp2 addD (mOp2 addD (mSl slD (mVar 3) (mRet none) (mOp1 (fun _ d => (toI d).map some) (mVar 4))) (mVar 5)) (mSl slD (mVar 3) (mOp1 (fun _ d => (toI d).map some) (mVar 4)) (mRet none)))
      (wipeE [some (.sh (.mob 0)), some (.sh (.int many)), some (.sh (.lst ((ls.take many).map sgn))), some (.sh (.str s1)), some (.sh (.int r2)), none, none] [5]) ((ls.take many).map sgn) [] z = .ok ((ls.take many).map fun c => .str (nameOf s1 r2 c)) z := fun z =>
    lcGo_mapT sgn (fun c => .str (nameOf s1 r2 c)) (ls.take many) (by rw [List.length_take]; omega) fun c _ => ⟨_, setE_in 5 _ (by simp [wipeE]), by
      have c1 := cutS_len s1 none (some r2)
      have c2 := cutS_len s1 (some r2) none
      have a1 := app_len (cutS s1 none (some r2)) ⟨#[c]⟩
      have a0 : (⟨#[c]⟩ : Str).length = 1 := rfl
      have ad1 : ∀ z, addD z (.str (cutS s1 none (some r2))) (.str ⟨#[c]⟩) = some (.str (cutS s1 none (some r2) ++ ⟨#[c]⟩)) := fun _ => if_pos (by omega)
      have ad2 : ∀ z, addD z (.str (cutS s1 none (some r2) ++ ⟨#[c]⟩)) (.str (cutS s1 (some r2) none)) = some (.str (nameOf s1 r2 c)) := fun _ => if_pos (by omega)
      simp [wipeE, sgn, show s1.length ≤ sizeLine by omega, ad1, ad2]⟩
  have hinj : ∀ c c', nameOf s1 r2 c = nameOf s1 r2 c' → c = c' := fun c c' e => by
    have := congrArg (fun x : Str => x.cps.toList) e
    simp only [cps_name s1 r2 _ g3 (by omega)] at this
    simpa using this
  refine ⟨(ls.take many).map (nameOf s1 r2), mo4, ?_, ?_, ?_, ?_, hm4⟩
  · simp [-List.map_take, F__law_names, runB, m__law_names, e0, hab, lc1, g1, hcut, d1, rr, l1, jd, show s1.length ≤ sizeLine by omega, d2, lc2]
  · rw [List.length_map, List.length_take, hls.length_eq, l26]
    omega
  · exact List.Pairwise.map _ (fun a b hab e => hab (hinj a b e)) ((hls.nodup_iff.mpr lnd).sublist (List.take_sublist _ _))
  · intro s hs
    obtain ⟨c, hc, rfl⟩ := List.mem_map.mp hs
    have hcl : c ∈ lettersL := hls.subset (List.mem_of_mem_take hc)
    have hcp := cps_name s1 r2 c g3 (by omega)
    have hsl : s1.cps.toList.length ≤ 7 := by rw [len_cps']; omega
    refine ⟨?_, ?_, ?_⟩
    · rw [hcp]; simp only [List.length_append, List.length_singleton]; omega
    · rw [hcp]; simp only [List.length_append, List.length_singleton, List.length_take, List.length_drop]; omega
    · rw [hcp]
      intro x hx
      have : x ∈ s1.cps.toList ∨ x = c := by
        rcases List.mem_append.mp hx with hx | hx
        · rcases List.mem_append.mp hx with hx | hx
          · exact .inl (List.mem_of_mem_take hx)
          · exact .inr (List.mem_singleton.mp hx)
        · exact .inl (List.mem_of_mem_drop hx)
      rcases this with hx | rfl
      · rw [hc1] at hx
        obtain ⟨_, _, h⟩ := l3 x hx
        exact h
      · exact hcl
theorem goals_spec {mo : MO} (rest : Z) (n : Nat) (h : SrcOk mo) (h0 : 0 < n) (h1 : n < 1000) : ∃ (r : List Int) (mo' : MO), F__law_goals [.mob 0, .int (n : Int)] (mo :: rest) = .ok (encR r) (mo' :: rest) ∧ GoodR n r ∧ SrcOk mo' := by
  have hline : sizeLine = 16777216 := sizeLine_eq
  have e0 : startE 3 [.mob 0, .int (n : Int)] = [some (.sh (.mob 0)), some (.sh (.int n)), none] := rfl
  obtain ⟨r1, mo1, d1, a1, b1, hm1⟩ := draw_spec rest h (many := (n : Int)) (by omega) (by omega)
  obtain ⟨r2, mo2, d2, a2, b2, hm2⟩ := draw_spec rest hm1 (many := 4) (by omega) (by omega)
  by_cases c : r2 = 0
  · obtain ⟨r3, mo3, d3, a3, b3, hm3⟩ := draw_spec rest hm2 (many := (n : Int)) (by omega) (by omega)
    have hs : ∀ z, sortSet z (.lst [.int r1, .int r3]) = some ((sortI [r1, r3]).map .int) := fun z => sortSet_lst (ns := [r1, r3]) z (by simp)
    refine ⟨sortI [r1, r3], mo3, ?_, ⟨fun e => ?_, pw_sortI, fun x hx => ?_, sortI_len _⟩, hm3⟩
    · simp [F__law_goals, runB, m__law_goals, e0, d1, d2, c, d3, hs, encR]
    · have := mem_sortI.mpr (show r1 ∈ [r1, r3] by simp)
      rw [e] at this
      simp at this
    · have := mem_sortI.mp hx
      simp at this
      rcases this with rfl | rfl <;> omega
  · have hs : ∀ z, sortSet z (.lst [.int r1]) = some ((sortI [r1]).map .int) := fun z => sortSet_lst (ns := [r1]) z (by simp)
    refine ⟨sortI [r1], mo2, ?_, ⟨fun e => ?_, pw_sortI, fun x hx => ?_, Nat.le_trans (sortI_len _) (by simp)⟩, hm2⟩
    · simp [F__law_goals, runB, m__law_goals, e0, d1, d2, c, hs, encR]
    · have := mem_sortI.mpr (show r1 ∈ [r1] by simp)
      rw [e] at this
      simp at this
    · have := mem_sortI.mp hx
      simp at this
      subst this
      omega
theorem custom_spec {mo : MO} (rest : Z) (names : List Str) (most : Nat) (h : SrcOk mo) (h0 : 0 < most) (h1 : most < 100) (hn : 3 ≤ names.length) : ∃ (c : Cu) (mo' : MO), F__law_custom [.mob 0, .lst (names.map .str), .int (most : Int)] (mo :: rest) = .ok c.enc (mo' :: rest) ∧ GoodC most (names.take 3) c ∧ SrcOk mo' := by
  have hline : sizeLine = 16777216 := sizeLine_eq
  obtain ⟨n0, n1, n2, nr, rfl⟩ : ∃ a b c r, names = a :: b :: c :: r := by
    match names, hn with
    | a :: b :: c :: r, _ => exact ⟨a, b, c, r, rfl⟩
  have e0 : startE 9 [.mob 0, .lst ((n0 :: n1 :: n2 :: nr).map .str), .int (most : Int)] = [some (.sh (.mob 0)), some (.sh (.lst ((n0 :: n1 :: n2 :: nr).map .str))), some (.sh (.int most)), none, none, none, none, none, none] := rfl
  have x0 : atI ((n0 :: n1 :: n2 :: nr).map D.str) 0 = some (.str n0) := atI_ofNat ((n0 :: n1 :: n2 :: nr).map D.str) 0 (by simp)
  have x1 : atI ((n0 :: n1 :: n2 :: nr).map D.str) 1 = some (.str n1) := atI_ofNat ((n0 :: n1 :: n2 :: nr).map D.str) 1 (by simp)
  have x2 : atI ((n0 :: n1 :: n2 :: nr).map D.str) 2 = some (.str n2) := atI_ofNat ((n0 :: n1 :: n2 :: nr).map D.str) 2 (by simp)
  obtain ⟨r, mo1, d1, a1, b1, hm1⟩ := draw_spec rest h (many := (most : Int)) (by omega) (by omega)
  obtain ⟨k, rfl⟩ := Int.eq_ofNat_of_zero_le a1
  have hk : k + 1 ≤ most := by omega
  generalize hnm : (n0 :: n1 :: n2 :: nr).map D.str = nds at *
  have rr : ∀ z, rng1 z [.int (1 + (k : Int))] = some (rngD 0 (k + 1)) := fun z => by
    rw [show (1 + (k : Int)) = ((k + 1 : Nat) : Int) by omega]
    exact rng1_in (by omega)
  obtain ⟨ρ', z', e1, sts, mo2, a, b, rfl, rfl, hm2, hl, hg⟩ := forGo_rng (I := fun i ρ z => ∃ (sts : List Sta) (mo : MO) (a b : Option DV), ρ = [some (.sh (.mob 0)), some (.sh (.lst nds)), some (.sh (.int most)), some (.sh (.int (1 + (k : Int)))), some (.own (.lst (sts.map Sta.enc))), a, b, none, none] ∧ z = mo :: rest ∧ SrcOk mo ∧ sts.length = i ∧ ∀ s ∈ sts, GoodS (k + 1) [n0, n1, n2] s)
    (g := setE 5) (body := (sSeq (sAsg (setE 6) (mApp 2 F__law_of (mCons (mVar 0) (mCons (mFz (mLst (mCons (mRet .non) (mCons (mOp2 ixD (mVar 1) (mRet (.int 0))) (mCons (mOp2 ixD (mVar 1) (mRet (.int 1))) (mCons (mOp2 ixD (mVar 1) (mRet (.int 2))) mNil)))))) mNil))))
    (sOwnM 4 appendF (mCons (mTup (mCons (mApp 2 F__law_of (mCons (mVar 0) (mCons (mFz (mLst (mCons (mRet (.int 0)) (mCons (mRet (.int 1)) (mCons (mRet (.int 1)) mNil))))) mNil))) (mCons (mVar 6) (mCons (mApp 2 F__law_goals (mCons (mVar 0) (mCons (mVar 3) mNil))) (mCons (mApp 2 F__law_goals (mCons (mVar 0) (mCons (mVar 3) mNil))) mNil))))) mNil))))
    (k + 1) (ρ := [some (.sh (.mob 0)), some (.sh (.lst nds)), some (.sh (.int most)), some (.sh (.int (1 + (k : Int)))), some (.own (.lst [])), none, none, none, none]) (z := mo1 :: rest) ⟨[], mo1, none, none, rfl, rfl, hm1, rfl, by simp⟩ (by
      rintro i hi ρ z ⟨sts, mo, a, b, rfl, rfl, hm, hl, hg⟩
      obtain ⟨bd, mo3, f1, f2, hm3⟩ := of_lst rest (ds := [.non, .str n0, .str n1, .str n2]) hm (by simp) (by simp)
      obtain ⟨sd, mo4, f3, f4, hm4⟩ := of_lst rest (ds := [.int 0, .int 1, .int 1]) hm3 (by simp) (by simp)
      obtain ⟨r1, mo5, f5, g5, hm5⟩ := goals_spec rest (k + 1) hm4 (by omega) (by omega)
      obtain ⟨r2, mo6, f6, g6, hm6⟩ := goals_spec rest (k + 1) hm5 (by omega) (by omega)
      rw [show ((k + 1 : Nat) : Int) = 1 + (k : Int) by omega] at f5 f6
      obtain ⟨bb, rfl, hb⟩ : ∃ bb, bd = encB bb ∧ ∀ x, bb = some x → x ∈ [n0, n1, n2] := by
        simp at f2
        rcases f2 with rfl | rfl | rfl | rfl
        · exact ⟨none, rfl, by simp⟩
        · exact ⟨some n0, rfl, by simp⟩
        · exact ⟨some n1, rfl, by simp⟩
        · exact ⟨some n2, rfl, by simp⟩
      obtain ⟨ss, rfl, hs⟩ : ∃ ss : Int, sd = .int ss ∧ (ss = 0 ∨ ss = 1) := by
        simp at f4
        rcases f4 with rfl | rfl
        · exact ⟨0, rfl, .inl rfl⟩
        · exact ⟨1, rfl, .inr rfl⟩
      refine ⟨_, setE_in 5 _ (by simp), _, _, by simp [x0, x1, x2, f1, f3, f5, f6, show sts.length ≤ 1000 by omega]; first | exact ⟨rfl, rfl⟩ | rfl, sts ++ [⟨ss, bb, r1, r2⟩], mo6, _, _, by simp [Sta.enc]; first | exact ⟨rfl, rfl⟩ | rfl, rfl, hm6, by simp [hl], fun s hs' => ?_⟩
      rcases List.mem_append.mp hs' with hs' | hs'
      · exact hg s hs'
      · cases List.mem_singleton.mp hs'
        exact ⟨hs, hb, g5, g6⟩)
  obtain ⟨ys, z3, l1, ⟨mo3, rfl, hm3⟩, l2⟩ := lcGo_sub (P := fun z => ∃ mo, z = mo :: rest ∧ SrcOk mo) (g := setE 8) (mt := mOp2 eqD (mApp 2 F__law_draw (mCons (mVar 0) (mCons (mRet (.int 2)) mNil))) (mRet (.int 0))) (me := mVar 8)
    (ρ := wipeE [some (.sh (.mob 0)), some (.sh (.lst nds)), some (.sh (.int most)), some (.sh (.int (1 + (k : Int)))), some (.own (.lst (sts.map Sta.enc))), a, b, none, none] [8]) (fun i : Nat => D.int (i : Int)) (fun i : Nat => D.int (i : Int)) (List.range (k + 1)) [] (mo2 :: rest) ⟨mo2, rfl, hm2⟩ (by simp; omega) (by
      rintro x hx z ⟨mo, rfl, hm⟩
      obtain ⟨r, mo', f1, f2, f3, f4⟩ := draw_spec rest hm (many := 2) (by omega) (by omega)
      exact ⟨_, setE_in 8 _ (by simp [wipeE]), decide (r = 0), mo' :: rest, by simp [wipeE, f1], ⟨mo', rfl, f4⟩, fun _ => by simp [wipeE]⟩)
  simp only [List.nil_append] at l1
  rw [← rng_map] at l1
  have hys : ys.Pairwise (· < ·) := (range_pw _).sublist l2
  have hyr : ∀ y ∈ ys, y < k + 1 := fun y hy => List.mem_range.mp (l2.subset hy)
  have hyl : ys.length ≤ k + 1 := by have := l2.length_le; simpa using this
  have okn : okD 1 (.lst (ys.map fun i : Nat => D.int (i : Int))) = true := by unfold okD; exact okL_map fun _ _ => by simp [okD]
  have ne : ∀ z, neD z (.lst (ys.map fun i : Nat => D.int (i : Int))) (.lst []) = some (decide (ys ≠ [])) := fun z => by
    rw [neD_ok z okn (e := .lst []) (m := 1) (by simp [okD, okL])]
    cases ys <;> simp
  by_cases c : ys = []
  · subst c
    obtain ⟨r4, mo4, d4, a4, b4, hm4⟩ := draw_spec rest hm3 (many := 1 + (k : Int)) (by omega) (by omega)
    have ne0 : ∀ z, neD z (.lst []) (.lst []) = some false := fun z => by simpa using ne z
    refine ⟨⟨sts, [r4]⟩, mo4, ?_, ⟨by show 1 ≤ sts.length; omega, by show sts.length ≤ most; omega, ?_, by simp, by simp, fun x hx => ?_, by show 1 ≤ sts.length; omega⟩, hm4⟩
    · simp at l1
      simp -implicitDefEqProofs [F__law_custom, runB, m__law_custom, e0, d1, rr, e1, l1, ne0, d4, Cu.enc]
    · rw [hl]; exact hg
    · have hx' : x = r4 := by simpa using hx
      rw [hx']
      show 0 ≤ r4 ∧ r4 < (sts.length : Int)
      omega
  · refine ⟨⟨sts, ys.map fun i : Nat => (i : Int)⟩, mo3, ?_, ⟨by show 1 ≤ sts.length; omega, by show sts.length ≤ most; omega, ?_, by simpa using c, ?_, fun x hx => ?_, by show (ys.map _).length ≤ sts.length; rw [List.length_map]; omega⟩, hm3⟩
    · have hm : (ys.map fun i : Nat => (i : Int)).map D.int = ys.map fun i : Nat => D.int (i : Int) := by rw [List.map_map]; rfl
      simp only [Cu.enc]
      rw [hm]
      simp -implicitDefEqProofs [-List.map_map, F__law_custom, runB, m__law_custom, e0, d1, rr, e1, l1, ne, c]
    · rw [hl]; exact hg
    · exact List.Pairwise.map _ (fun a b h => by omega) hys
    · obtain ⟨y, hy, rfl⟩ := List.mem_map.mp hx
      have := hyr y hy
      show (0 : Int) ≤ (y : Int) ∧ (y : Int) < (sts.length : Int)
      omega
/-! is_name, is_row, Custom(..) -/
def adjB (r : List Int) : Bool := (r.zip r.tail).all fun p => decide (p.1 < p.2)
def isRowB (r : List Int) (least most bound : Int) : Bool := decide (least ≤ r.length) && decide ((r.length : Int) ≤ most) && (r.all fun x => decide (0 ≤ x) && decide (x < bound)) && adjB r
theorem zipD_ints (xs ys : List Int) : zipD (xs.map .int) (ys.map .int) = (xs.zip ys).map fun p => .tup [.int p.1, .int p.2] := by
  unfold zipD
  rw [List.zipWith_map, List.zip, List.map_zipWith]
theorem is_row_spec (r : List Int) (least most bound : Int) (z : Z) (hl : r.length ≤ 1000) : F_is_row [encR r, .int least, .int most, .int bound] z = .ok (.bl (isRowB r least most bound)) z := by
  unfold encR
  have e0 : startE 7 [(.tup (r.map D.int)), .int least, .int most, .int bound] = [some (.sh (.tup (r.map D.int))), some (.sh (.int least)), some (.sh (.int most)), some (.sh (.int bound)), none, none, none] := rfl
  have l1 : lcGo (setE 6) (mRet true) (mMap .bl (mChain leI ltI (mRet (.int 0)) (mVar 6) (mVar 3))) (wipeE [some (.sh (.tup (r.map D.int))), some (.sh (.int least)), some (.sh (.int most)), some (.sh (.int bound)), none, none, none] [6]) (r.map .int) [] z = .ok (r.map fun x => .bl (decide (0 ≤ x) && decide (x < bound))) z :=
    lcGo_mapT D.int _ r (by simp [hl]) fun x _ => ⟨_, setE_in 6 _ (by simp [wipeE]), by
      by_cases c : 0 ≤ x <;> simp -implicitDefEqProofs [wipeE, c]⟩
  have hc : cutL (r.map D.int) (some 1) none = (r.tail).map D.int := by
    rw [cutL_map']
    unfold cutL
    have e1 : HT.sIx r.length 0 (some 1) = min 1 r.length := HT.sIx_nat _ _ 1
    have e2 : HT.sIx r.length r.length none = r.length := rfl
    rw [e1, e2]
    cases r with
    | nil => rfl
    | cons a r => simp
  have l2 : lcGo (tupT 2 (consT (setE 4) (consT (setE 5) nilT))) (mRet true) (mBl (mOp2 ltI (mVar 4) (mVar 5))) (wipeE [some (.sh (.tup (r.map D.int))), some (.sh (.int least)), some (.sh (.int most)), some (.sh (.int bound)), none, none, none] [4, 5]) ((r.zip r.tail).map fun p => .tup [.int p.1, .int p.2]) [] z = .ok ((r.zip r.tail).map fun p => .bl (decide (p.1 < p.2))) z :=
    lcGo_mapT (fun p : Int × Int => .tup [.int p.1, .int p.2]) _ (r.zip r.tail) (le_line (by rw [List.length_zip]; omega)) fun p _ => ⟨_, by simp [wipeE]; rfl, by simp -implicitDefEqProofs [wipeE]⟩
  by_cases c1 : least ≤ (r.length : Int)
  · by_cases c2 : (r.length : Int) ≤ most
    · by_cases c3 : (r.all fun x => decide (0 ≤ x) && decide (x < bound)) = true
      · simp -implicitDefEqProofs [F_is_row, runB, m_is_row, e0, c1, c2, l1, allD_map, c3, hc, zipD_ints, l2, isRowB, adjB, -List.map_tail, -List.map_map, -List.all_map, -List.all_eq_true]
      · simp -implicitDefEqProofs [F_is_row, runB, m_is_row, e0, c1, c2, l1, allD_map, c3, isRowB, -List.map_tail, -List.map_map, -List.all_map, -List.all_eq_true]
    · simp -implicitDefEqProofs [F_is_row, runB, m_is_row, e0, c1, c2, isRowB]
  · simp -implicitDefEqProofs [F_is_row, runB, m_is_row, e0, c1, isRowB]
theorem adj_pw : ∀ r : List Int, adjB r = true ↔ r.Pairwise (· < ·)
  | [] => by simp [adjB]
  | [a] => by simp [adjB]
  | a :: b :: r => by
    have ih := adj_pw (b :: r)
    have e : adjB (a :: b :: r) = (decide (a < b) && adjB (b :: r)) := rfl
    rw [e, Bool.and_eq_true, decide_eq_true_eq, ih]
    refine ⟨fun ⟨h1, h2⟩ => List.pairwise_cons.mpr ⟨fun x hx => ?_, h2⟩, fun h => ⟨(List.pairwise_cons.mp h).1 b List.mem_cons_self, (List.pairwise_cons.mp h).2⟩⟩
    rcases List.mem_cons.mp hx with rfl | hx
    · exact h1
    · exact Int.lt_trans h1 ((List.pairwise_cons.mp h2).1 x hx)
theorem adj_sort (r : List Int) : adjB r = decide (r = sortI r) := by
  rw [Bool.eq_iff_iff, adj_pw, decide_eq_true_eq]
  constructor
  · exact fun h => sorted_uniq h pw_sortI fun j => mem_sortI.symm
  · intro h
    rw [h]
    exact pw_sortI
theorem map_int_inj {a b : List Int} (h : a.map D.int = b.map D.int) : a = b := by
  induction a generalizing b with
  | nil => cases b with
    | nil => rfl
    | cons _ _ => simp at h
  | cons x a ih => cases b with
    | nil => simp at h
    | cons y b =>
      simp only [List.map_cons, List.cons.injEq] at h
      rw [D.int.inj h.1, ih h.2]
theorem ok_ints (r : List Int) : okD 1 (.lst (r.map D.int)) = true := by
  unfold okD
  exact okL_map fun _ _ => by simp [okD]
inductive Er where
  | cnt (a_what : Str)
  | stt (a_at : Int)
  | beg (a_given : Int)
  | par (a_at : Int)
  | txt (a_line : Int)
  deriving DecidableEq
def Er.xd : Er → XD
  | .cnt a_what => ⟨5, [("what", .str a_what), ("word", .str "WrongCount")]⟩
  | .stt a_at => ⟨6, [("at", .int a_at), ("word", .str "InvalidState")]⟩
  | .beg a_given => ⟨7, [("given", .int a_given), ("word", .str "InvalidStart")]⟩
  | .par a_at => ⟨9, [("at", .int a_at), ("word", .str "InvalidPair")]⟩
  | .txt a_line => ⟨16, [("line", .int a_line), ("word", .str "InvalidText")]⟩
def nmBad : Option Str → Bool
  | none => false
  | some b => !nameB b
def hdBad (v : Int) (b : Option Str) : Bool := !(decide (v = 0) || decide (v = 1)) || nmBad b
def stBad (n : Nat) (s : Sta) : Bool := hdBad s.says s.belief || !(isRowB s.zeros 1 6 n && isRowB s.ones 1 6 n)
def startBad (n : Nat) (starts : List Int) (p : Int × Nat) : Bool := !(decide (0 ≤ p.1) && decide (p.1 < n)) || (decide (0 < p.2) && decide (p.1 ≤ starts.getD (p.2 - 1) 0))
def custErr (c : Cu) : Option Er :=
  if ¬ (1 ≤ c.states.length ∧ c.states.length ≤ 240) then some (.cnt "states") else
  match c.states.zipIdx.find? (fun p => stBad c.states.length p.1) with
  | some p => some (.stt p.2)
  | none => if c.starts = [] then some (.cnt "starts") else (c.starts.zipIdx.find? (startBad c.states.length c.starts)).map fun p => .beg p.1
structure Bnd (c : Cu) : Prop where
  n : c.states.length ≤ 900
  m : c.starts.length ≤ 900
  b : ∀ s ∈ c.states, ∀ x, s.belief = some x → x.length ≤ 900
  z : ∀ s ∈ c.states, s.zeros.length ≤ 900
  o : ∀ s ∈ c.states, s.ones.length ≤ 900
theorem inV01 (s : Int) : inV (.int s) [.int 0, .int 1] = (decide (s = 0) || decide (s = 1)) := by
  have := inV_ints s [0, 1]
  simp only [List.map_cons, List.map_nil] at this
  rw [this]
  simp
theorem all2 (a b : Bool) (z : Z) : allD (·.all id) z [.lst [.bl a, .bl b]] = some (.bl (a && b)) := by
  have := allD_map id [a, b] z
  simpa using this
theorem is_name_B (b : Option Str) (s : Str) (h : b = some s) (hs : s.length ≤ 900) (z : Z) : F_is_name [.str s] z = .ok (.bl (!nmBad b)) z := by
  subst h
  rw [is_name_bl s z (le_line (by omega))]
  simp [nmBad]
theorem init_spec (c : Cu) (z : Z) (B : Bnd c) : F_Custom___init__ [.mob z.length, .lst (c.states.map Sta.enc), .tup (c.starts.map .int)] (z ++ [.ins 26 []]) = match custErr c with
    | some e => .exc e.xd (z ++ [.ins 26 []])
    | none => .ok .non (z ++ [.ins 26 [("rows", .lst (c.states.map Sta.enc)), ("begins", .lst (c.starts.map .int))]]) := by
  obtain ⟨sts, bgs⟩ := c
  obtain ⟨B1, B2, B3, B4, B5⟩ := B
  simp only at B1 B2 B3 B4 B5
  generalize hz0 : z ++ [.ins 26 []] = z0
  generalize hm : D.mob z.length = me
  have e0 : startE 10 [me, .lst (sts.map Sta.enc), .tup (bgs.map D.int)] = [some (.sh me), some (.sh (.lst (sts.map Sta.enc))), some (.sh (.tup (bgs.map D.int))), none, none, none, none, none, none, none] := rfl
  unfold custErr
  simp only
  by_cases c1 : 1 ≤ sts.length
  rotate_left
  · simp -implicitDefEqProofs [F_Custom___init__, runB, m_Custom___init__, e0, c1, xGoD, Er.xd, show ¬ (1 : Int) ≤ sts.length by omega]
  by_cases c2 : sts.length ≤ 240
  rotate_left
  · simp -implicitDefEqProofs [F_Custom___init__, runB, m_Custom___init__, e0, c1, c2, xGoD, Er.xd, show (1 : Int) ≤ sts.length by omega, show ¬ (sts.length : Int) ≤ 240 by omega]
  rw [if_neg (fun h => h ⟨c1, c2⟩)]
  have i1 : (1 : Int) ≤ sts.length := by omega
  have i2 : (sts.length : Int) ≤ 240 := by omega
  -- the first loop
  have L1 := forGo_find (z := z0) (g := tupT 2 (consT (setE 3) (consT (tupT 4 (consT (setE 4) (consT (setE 5) (consT (setE 6) (consT (setE 7) nilT))))) nilT))) (body := (sSeq (sIf (mOr (mOp2 (inF true) (mVar 4) (mTup (mCons (mRet (.int 0)) (mCons (mRet (.int 1)) mNil)))) (mAnd (mOp2 isNN (mVar 5) (mRet .non)) (mNot (mOp1 truD (mApp 1 F_is_name (mCons (mVar 5) mNil)))))) (sRaise 6 1 [("word", .inl "InvalidState"), ("at", .inr 0)] (mCons (mVar 3) mNil)) sNx)
    (sIf (mNot (mOp1 truD (mCall (allD (·.all id)) (mCons (mFz (mLc (mItems (mTup (mCons (mVar 6) (mCons (mVar 7) mNil)))) (setE 9) (mRet true) (mApp 4 F_is_row (mCons (mVar 9) (mCons (mRet (.int 1)) (mCons (mRet (.int 6)) (mCons (mCall lenD (mCons (mVar 1) mNil)) mNil))))) [9])) mNil)))) (sRaise 6 1 [("word", .inl "InvalidState"), ("at", .inr 0)] (mCons (mVar 3) mNil)) sNx)))
    (fun p : Sta × Nat => .tup [.int (p.2 : Int), Sta.enc p.1]) (fun p => stBad sts.length p.1)
    (fun ρ => ∃ a b c d e f g, ρ = [some (.sh me), some (.sh (.lst (sts.map Sta.enc))), some (.sh (.tup (bgs.map D.int))), a, b, c, d, e, f, g]) (fun p r => ∃ ρ', r = .exc (Er.stt p.2).xd ρ' z0)
    (by rintro p r ⟨ρ', rfl⟩; trivial) sts.zipIdx [some (.sh me), some (.sh (.lst (sts.map Sta.enc))), some (.sh (.tup (bgs.map D.int))), none, none, none, none, none, none, none] ⟨_, _, _, _, _, _, _, rfl⟩ (by
      rintro ⟨s, i⟩ hp ρ ⟨a, b, c, d, e, f, g, rfl⟩
      have hs : s ∈ sts := List.mem_of_getElem? (zip_mem hp)
      obtain ⟨says, bel, zs, os⟩ := s
      have b3 := B3 _ hs
      have b4 := B4 _ hs
      have b5 := B5 _ hs
      simp only at b3 b4 b5
      have r1 := fun z => is_row_spec zs 1 6 sts.length z (by omega)
      have r2 := fun z => is_row_spec os 1 6 sts.length z (by omega)
      simp only [encR] at r1 r2
      refine ⟨[some (.sh me), some (.sh (.lst (sts.map Sta.enc))), some (.sh (.tup (bgs.map D.int))), some (.sh (.int i)), some (.sh (.int says)), some (.sh (encB bel)), some (.sh (.tup (zs.map D.int))), some (.sh (.tup (os.map D.int))), f, g], by simp [Sta.enc, encR], ?_⟩
      have key : ∀ bb, mOr (mOp2 (inF true) (mVar 4) (mTup (mCons (mRet (.int 0)) (mCons (mRet (.int 1)) mNil)))) (mAnd (mOp2 isNN (mVar 5) (mRet .non)) (mNot (mOp1 truD (mApp 1 F_is_name (mCons (mVar 5) mNil)))))
          [some (.sh me), some (.sh (.lst (sts.map Sta.enc))), some (.sh (.tup (bgs.map D.int))), some (.sh (.int i)), some (.sh (.int says)), some (.sh (encB bel)), some (.sh (.tup (zs.map D.int))), some (.sh (.tup (os.map D.int))), f, bb] z0 = .ok (hdBad says bel) z0 := fun bb => by
        unfold hdBad
        by_cases q : (decide (says = 0) || decide (says = 1)) = true
        · cases bel with
          | none => simp -implicitDefEqProofs [flatD, vOf, inV01, q, encB, isNN, nonB, nmBad]
          | some x =>
            have := is_name_B (some x) x rfl (b3 x rfl)
            simp -implicitDefEqProofs [flatD, vOf, inV01, q, encB, isNN, nonB, this]
        · have q' : (decide (says = 0) || decide (says = 1)) = false := by simpa using q
          simp -implicitDefEqProofs [flatD, vOf, inV01, q']
      by_cases q : hdBad says bel = true
      · refine ⟨fun _ => ?_, fun h => ?_⟩
        · exact ⟨_, by simp -implicitDefEqProofs [-ap_or, key, q, xGoD, Er.xd]; rfl⟩
        · simp only [stBad, q, Bool.true_or] at h
          cases h
      · have q' : hdBad says bel = false := by simpa using q
        refine ⟨fun h => ?_, fun h => ?_⟩
        · simp only [stBad, q', Bool.false_or] at h
          simp only [Bool.not_eq_true'] at h
          exact ⟨_, by simp -implicitDefEqProofs [-ap_or, key, q', xGoD, Er.xd, lcGo, wipeE, r1, r2, all2, h]; rfl⟩
        · simp only [stBad, q', Bool.false_or] at h
          simp only [Bool.not_eq_false'] at h
          exact ⟨[some (.sh me), some (.sh (.lst (sts.map Sta.enc))), some (.sh (.tup (bgs.map D.int))), some (.sh (.int i)), some (.sh (.int says)), some (.sh (encB bel)), some (.sh (.tup (zs.map D.int))), some (.sh (.tup (os.map D.int))), f, g], by simp -implicitDefEqProofs [-ap_or, key, q', lcGo, wipeE, r1, r2, all2, h], _, _, _, _, _, _, _, rfl⟩)
  rw [← enumD_map Sta.enc sts] at L1
  rcases L1 with ⟨p, hf, ρ', hr⟩ | ⟨hf, ρ', hr, a1, a2, a3, a4, a5, a6, a7, rfl⟩
  · rw [hf]
    simp -implicitDefEqProofs [F_Custom___init__, runB, m_Custom___init__, e0, i1, i2, hr]
  rw [hf]
  simp only
  by_cases c3 : bgs = []
  · rw [if_pos c3]
    simp -implicitDefEqProofs [F_Custom___init__, runB, m_Custom___init__, e0, i1, i2, hr, xGoD, Er.xd, eq_true c3]
  rw [if_neg c3]
  have i3 : ¬ bgs.length = 0 := by simpa using c3
  have L2 := forGo_find (z := z0) (g := tupT 2 (consT (setE 3) (consT (setE 8) nilT))) (body := sIf (mOr (mNot (mMap id (mChain leI ltI (mRet (.int 0)) (mVar 8) (mCall lenD (mCons (mVar 1) mNil))))) (mAnd (mOp2 gtI (mVar 3) (mRet (.int 0))) (mOp2 leI (mVar 8) (mOp2 ixD (mVar 2) (mOp2 (int2 subI) (mVar 3) (mRet (.int 1))))))) (sRaise 7 1 [("word", .inl "InvalidStart"), ("given", .inr 0)] (mCons (mVar 8) mNil)) sNx)
    (fun p : Int × Nat => .tup [.int (p.2 : Int), .int p.1]) (startBad sts.length bgs)
    (fun ρ => ∃ a b c d e f g, ρ = [some (.sh me), some (.sh (.lst (sts.map Sta.enc))), some (.sh (.tup (bgs.map D.int))), a, b, c, d, e, f, g]) (fun p r => ∃ ρ', r = .exc (Er.beg p.1).xd ρ' z0)
    (by rintro p r ⟨ρ', rfl⟩; trivial) bgs.zipIdx [some (.sh me), some (.sh (.lst (sts.map Sta.enc))), some (.sh (.tup (bgs.map D.int))), a1, a2, a3, a4, a5, a6, a7] ⟨_, _, _, _, _, _, _, rfl⟩ (by
      rintro ⟨v, i⟩ hp ρ ⟨a, b, c, d, e, f, g, rfl⟩
      refine ⟨[some (.sh me), some (.sh (.lst (sts.map Sta.enc))), some (.sh (.tup (bgs.map D.int))), some (.sh (.int i)), b, c, d, e, some (.sh (.int v)), g], by simp, ?_⟩
      have hi : i < bgs.length := (List.getElem?_eq_some_iff.mp (zip_mem hp)).1
      have key : mOr (mNot (mMap id (mChain leI ltI (mRet (.int 0)) (mVar 8) (mCall lenD (mCons (mVar 1) mNil))))) (mAnd (mOp2 gtI (mVar 3) (mRet (.int 0))) (mOp2 leI (mVar 8) (mOp2 ixD (mVar 2) (mOp2 (int2 subI) (mVar 3) (mRet (.int 1))))))
          [some (.sh me), some (.sh (.lst (sts.map Sta.enc))), some (.sh (.tup (bgs.map D.int))), some (.sh (.int i)), b, c, d, e, some (.sh (.int v)), g] z0 = .ok (startBad sts.length bgs (v, i)) z0 := by
        unfold startBad
        by_cases q1 : 0 ≤ v
        · by_cases q2 : v < sts.length
          · by_cases q3 : 0 < i
            · have at1 : atI (bgs.map D.int) ((i : Int) - 1) = some (.int (bgs.getD (i - 1) 0)) := by
                rw [show (i : Int) - 1 = ((i - 1 : Nat) : Int) by omega, atI_ofNat _ _ (by simp; omega)]
                simp [List.getD_eq_getElem?_getD, List.getElem?_eq_getElem (show i - 1 < bgs.length by omega)]
              simp -implicitDefEqProofs [q1, q2, q3, at1]
            · simp -implicitDefEqProofs [q1, q2, q3]
          · simp -implicitDefEqProofs [q1, q2]
        · simp -implicitDefEqProofs [q1]
      refine ⟨fun h => ⟨_, by simp -implicitDefEqProofs [-ap_or, key, h, xGoD, Er.xd]; rfl⟩, fun h => ⟨[some (.sh me), some (.sh (.lst (sts.map Sta.enc))), some (.sh (.tup (bgs.map D.int))), some (.sh (.int i)), b, c, d, e, some (.sh (.int v)), g], by simp -implicitDefEqProofs [-ap_or, key, h], _, _, _, _, _, _, _, rfl⟩⟩)
  rw [← enumD_map D.int bgs] at L2
  rcases L2 with ⟨p, hf2, ρ', hr2⟩ | ⟨hf2, ρ', hr2, b1, b2, b3, b4, b5, b6, b7, rfl⟩
  · rw [hf2]
    simp -implicitDefEqProofs [F_Custom___init__, runB, m_Custom___init__, e0, i1, i2, hr, c3, hr2]
  rw [hf2]
  simp only [Option.map_none]
  subst hm hz0
  have l3 : ∀ z1, lcGo (tupT 4 (consT (setE 4) (consT (setE 5) (consT (setE 6) (consT (setE 7) nilT))))) (mRet true) (mTup (mCons (mVar 4) (mCons (mVar 5) (mCons (mCall tupleD (mCons (mVar 6) mNil)) (mCons (mCall tupleD (mCons (mVar 7) mNil)) mNil)))))
      (wipeE [some (.sh (.mob z.length)), some (.sh (.lst (sts.map Sta.enc))), some (.sh (.tup (bgs.map D.int))), b1, b2, b3, b4, b5, b6, b7] [4, 5, 6, 7]) (sts.map Sta.enc) [] z1 = .ok (sts.map Sta.enc) z1 := fun z1 =>
    lcGo_mapT Sta.enc Sta.enc sts (le_line (by omega)) fun s _ => ⟨[some (.sh (.mob z.length)), some (.sh (.lst (sts.map Sta.enc))), some (.sh (.tup (bgs.map D.int))), b1, some (.sh (.int s.says)), some (.sh (encB s.belief)), some (.sh (.tup (s.zeros.map D.int))), some (.sh (.tup (s.ones.map D.int))), b6, b7], by simp [wipeE, Sta.enc, encR], by simp -implicitDefEqProofs [Sta.enc, encR]⟩
  have sf1 : ∀ v, setF 26 "rows" (z ++ [.ins 26 []]) (.mob z.length) v = some (z ++ [.ins 26 [("rows", v)]]) := fun v => by
    simp [setF, putD]
  have sf2 : ∀ u v, setF 26 "begins" (z ++ [.ins 26 [("rows", u)]]) (.mob z.length) v = some (z ++ [.ins 26 [("rows", u), ("begins", v)]]) := fun u v => by
    have : ¬ (("rows" : Str) = "begins") := by decide +kernel
    simp [setF, putD, this]
  simp -implicitDefEqProofs [F_Custom___init__, runB, m_Custom___init__, e0, i1, i2, hr, c3, hr2, l3, sf1, sf2]
theorem init_specL (c : Cu) (z : Z) (B : Bnd c) : F_Custom___init__ [.mob z.length, .lst (c.states.map Sta.enc), .lst (c.starts.map .int)] (z ++ [.ins 26 []]) = match custErr c with
    | some e => .exc e.xd (z ++ [.ins 26 []])
    | none => .ok .non (z ++ [.ins 26 [("rows", .lst (c.states.map Sta.enc)), ("begins", .lst (c.starts.map .int))]]) := by
  obtain ⟨sts, bgs⟩ := c
  obtain ⟨B1, B2, B3, B4, B5⟩ := B
  simp only at B1 B2 B3 B4 B5
  generalize hz0 : z ++ [.ins 26 []] = z0
  generalize hm : D.mob z.length = me
  have e0 : startE 10 [me, .lst (sts.map Sta.enc), .lst (bgs.map D.int)] = [some (.sh me), some (.sh (.lst (sts.map Sta.enc))), some (.sh (.lst (bgs.map D.int))), none, none, none, none, none, none, none] := rfl
  unfold custErr
  simp only
  by_cases c1 : 1 ≤ sts.length
  rotate_left
  · simp -implicitDefEqProofs [F_Custom___init__, runB, m_Custom___init__, e0, c1, xGoD, Er.xd, show ¬ (1 : Int) ≤ sts.length by omega]
  by_cases c2 : sts.length ≤ 240
  rotate_left
  · simp -implicitDefEqProofs [F_Custom___init__, runB, m_Custom___init__, e0, c1, c2, xGoD, Er.xd, show (1 : Int) ≤ sts.length by omega, show ¬ (sts.length : Int) ≤ 240 by omega]
  rw [if_neg (fun h => h ⟨c1, c2⟩)]
  have i1 : (1 : Int) ≤ sts.length := by omega
  have i2 : (sts.length : Int) ≤ 240 := by omega
  -- the first loop
  have L1 := forGo_find (z := z0) (g := tupT 2 (consT (setE 3) (consT (tupT 4 (consT (setE 4) (consT (setE 5) (consT (setE 6) (consT (setE 7) nilT))))) nilT))) (body := (sSeq (sIf (mOr (mOp2 (inF true) (mVar 4) (mTup (mCons (mRet (.int 0)) (mCons (mRet (.int 1)) mNil)))) (mAnd (mOp2 isNN (mVar 5) (mRet .non)) (mNot (mOp1 truD (mApp 1 F_is_name (mCons (mVar 5) mNil)))))) (sRaise 6 1 [("word", .inl "InvalidState"), ("at", .inr 0)] (mCons (mVar 3) mNil)) sNx)
    (sIf (mNot (mOp1 truD (mCall (allD (·.all id)) (mCons (mFz (mLc (mItems (mTup (mCons (mVar 6) (mCons (mVar 7) mNil)))) (setE 9) (mRet true) (mApp 4 F_is_row (mCons (mVar 9) (mCons (mRet (.int 1)) (mCons (mRet (.int 6)) (mCons (mCall lenD (mCons (mVar 1) mNil)) mNil))))) [9])) mNil)))) (sRaise 6 1 [("word", .inl "InvalidState"), ("at", .inr 0)] (mCons (mVar 3) mNil)) sNx)))
    (fun p : Sta × Nat => .tup [.int (p.2 : Int), Sta.enc p.1]) (fun p => stBad sts.length p.1)
    (fun ρ => ∃ a b c d e f g, ρ = [some (.sh me), some (.sh (.lst (sts.map Sta.enc))), some (.sh (.lst (bgs.map D.int))), a, b, c, d, e, f, g]) (fun p r => ∃ ρ', r = .exc (Er.stt p.2).xd ρ' z0)
    (by rintro p r ⟨ρ', rfl⟩; trivial) sts.zipIdx [some (.sh me), some (.sh (.lst (sts.map Sta.enc))), some (.sh (.lst (bgs.map D.int))), none, none, none, none, none, none, none] ⟨_, _, _, _, _, _, _, rfl⟩ (by
      rintro ⟨s, i⟩ hp ρ ⟨a, b, c, d, e, f, g, rfl⟩
      have hs : s ∈ sts := List.mem_of_getElem? (zip_mem hp)
      obtain ⟨says, bel, zs, os⟩ := s
      have b3 := B3 _ hs
      have b4 := B4 _ hs
      have b5 := B5 _ hs
      simp only at b3 b4 b5
      have r1 := fun z => is_row_spec zs 1 6 sts.length z (by omega)
      have r2 := fun z => is_row_spec os 1 6 sts.length z (by omega)
      simp only [encR] at r1 r2
      refine ⟨[some (.sh me), some (.sh (.lst (sts.map Sta.enc))), some (.sh (.lst (bgs.map D.int))), some (.sh (.int i)), some (.sh (.int says)), some (.sh (encB bel)), some (.sh (.tup (zs.map D.int))), some (.sh (.tup (os.map D.int))), f, g], by simp [Sta.enc, encR], ?_⟩
      have key : ∀ bb, mOr (mOp2 (inF true) (mVar 4) (mTup (mCons (mRet (.int 0)) (mCons (mRet (.int 1)) mNil)))) (mAnd (mOp2 isNN (mVar 5) (mRet .non)) (mNot (mOp1 truD (mApp 1 F_is_name (mCons (mVar 5) mNil)))))
          [some (.sh me), some (.sh (.lst (sts.map Sta.enc))), some (.sh (.lst (bgs.map D.int))), some (.sh (.int i)), some (.sh (.int says)), some (.sh (encB bel)), some (.sh (.tup (zs.map D.int))), some (.sh (.tup (os.map D.int))), f, bb] z0 = .ok (hdBad says bel) z0 := fun bb => by
        unfold hdBad
        by_cases q : (decide (says = 0) || decide (says = 1)) = true
        · cases bel with
          | none => simp -implicitDefEqProofs [flatD, vOf, inV01, q, encB, isNN, nonB, nmBad]
          | some x =>
            have := is_name_B (some x) x rfl (b3 x rfl)
            simp -implicitDefEqProofs [flatD, vOf, inV01, q, encB, isNN, nonB, this]
        · have q' : (decide (says = 0) || decide (says = 1)) = false := by simpa using q
          simp -implicitDefEqProofs [flatD, vOf, inV01, q']
      by_cases q : hdBad says bel = true
      · refine ⟨fun _ => ?_, fun h => ?_⟩
        · exact ⟨_, by simp -implicitDefEqProofs [-ap_or, key, q, xGoD, Er.xd]; rfl⟩
        · simp only [stBad, q, Bool.true_or] at h
          cases h
      · have q' : hdBad says bel = false := by simpa using q
        refine ⟨fun h => ?_, fun h => ?_⟩
        · simp only [stBad, q', Bool.false_or] at h
          simp only [Bool.not_eq_true'] at h
          exact ⟨_, by simp -implicitDefEqProofs [-ap_or, key, q', xGoD, Er.xd, lcGo, wipeE, r1, r2, all2, h]; rfl⟩
        · simp only [stBad, q', Bool.false_or] at h
          simp only [Bool.not_eq_false'] at h
          exact ⟨[some (.sh me), some (.sh (.lst (sts.map Sta.enc))), some (.sh (.lst (bgs.map D.int))), some (.sh (.int i)), some (.sh (.int says)), some (.sh (encB bel)), some (.sh (.tup (zs.map D.int))), some (.sh (.tup (os.map D.int))), f, g], by simp -implicitDefEqProofs [-ap_or, key, q', lcGo, wipeE, r1, r2, all2, h], _, _, _, _, _, _, _, rfl⟩)
  rw [← enumD_map Sta.enc sts] at L1
  rcases L1 with ⟨p, hf, ρ', hr⟩ | ⟨hf, ρ', hr, a1, a2, a3, a4, a5, a6, a7, rfl⟩
  · rw [hf]
    simp -implicitDefEqProofs [F_Custom___init__, runB, m_Custom___init__, e0, i1, i2, hr]
  rw [hf]
  simp only
  by_cases c3 : bgs = []
  · rw [if_pos c3]
    simp -implicitDefEqProofs [F_Custom___init__, runB, m_Custom___init__, e0, i1, i2, hr, xGoD, Er.xd, eq_true c3]
  rw [if_neg c3]
  have i3 : ¬ bgs.length = 0 := by simpa using c3
  have L2 := forGo_find (z := z0) (g := tupT 2 (consT (setE 3) (consT (setE 8) nilT))) (body := sIf (mOr (mNot (mMap id (mChain leI ltI (mRet (.int 0)) (mVar 8) (mCall lenD (mCons (mVar 1) mNil))))) (mAnd (mOp2 gtI (mVar 3) (mRet (.int 0))) (mOp2 leI (mVar 8) (mOp2 ixD (mVar 2) (mOp2 (int2 subI) (mVar 3) (mRet (.int 1))))))) (sRaise 7 1 [("word", .inl "InvalidStart"), ("given", .inr 0)] (mCons (mVar 8) mNil)) sNx)
    (fun p : Int × Nat => .tup [.int (p.2 : Int), .int p.1]) (startBad sts.length bgs)
    (fun ρ => ∃ a b c d e f g, ρ = [some (.sh me), some (.sh (.lst (sts.map Sta.enc))), some (.sh (.lst (bgs.map D.int))), a, b, c, d, e, f, g]) (fun p r => ∃ ρ', r = .exc (Er.beg p.1).xd ρ' z0)
    (by rintro p r ⟨ρ', rfl⟩; trivial) bgs.zipIdx [some (.sh me), some (.sh (.lst (sts.map Sta.enc))), some (.sh (.lst (bgs.map D.int))), a1, a2, a3, a4, a5, a6, a7] ⟨_, _, _, _, _, _, _, rfl⟩ (by
      rintro ⟨v, i⟩ hp ρ ⟨a, b, c, d, e, f, g, rfl⟩
      refine ⟨[some (.sh me), some (.sh (.lst (sts.map Sta.enc))), some (.sh (.lst (bgs.map D.int))), some (.sh (.int i)), b, c, d, e, some (.sh (.int v)), g], by simp, ?_⟩
      have hi : i < bgs.length := (List.getElem?_eq_some_iff.mp (zip_mem hp)).1
      have key : mOr (mNot (mMap id (mChain leI ltI (mRet (.int 0)) (mVar 8) (mCall lenD (mCons (mVar 1) mNil))))) (mAnd (mOp2 gtI (mVar 3) (mRet (.int 0))) (mOp2 leI (mVar 8) (mOp2 ixD (mVar 2) (mOp2 (int2 subI) (mVar 3) (mRet (.int 1))))))
          [some (.sh me), some (.sh (.lst (sts.map Sta.enc))), some (.sh (.lst (bgs.map D.int))), some (.sh (.int i)), b, c, d, e, some (.sh (.int v)), g] z0 = .ok (startBad sts.length bgs (v, i)) z0 := by
        unfold startBad
        by_cases q1 : 0 ≤ v
        · by_cases q2 : v < sts.length
          · by_cases q3 : 0 < i
            · have at1 : atI (bgs.map D.int) ((i : Int) - 1) = some (.int (bgs.getD (i - 1) 0)) := by
                rw [show (i : Int) - 1 = ((i - 1 : Nat) : Int) by omega, atI_ofNat _ _ (by simp; omega)]
                simp [List.getD_eq_getElem?_getD, List.getElem?_eq_getElem (show i - 1 < bgs.length by omega)]
              simp -implicitDefEqProofs [q1, q2, q3, at1]
            · simp -implicitDefEqProofs [q1, q2, q3]
          · simp -implicitDefEqProofs [q1, q2]
        · simp -implicitDefEqProofs [q1]
      refine ⟨fun h => ⟨_, by simp -implicitDefEqProofs [-ap_or, key, h, xGoD, Er.xd]; rfl⟩, fun h => ⟨[some (.sh me), some (.sh (.lst (sts.map Sta.enc))), some (.sh (.lst (bgs.map D.int))), some (.sh (.int i)), b, c, d, e, some (.sh (.int v)), g], by simp -implicitDefEqProofs [-ap_or, key, h], _, _, _, _, _, _, _, rfl⟩⟩)
  rw [← enumD_map D.int bgs] at L2
  rcases L2 with ⟨p, hf2, ρ', hr2⟩ | ⟨hf2, ρ', hr2, b1, b2, b3, b4, b5, b6, b7, rfl⟩
  · rw [hf2]
    simp -implicitDefEqProofs [F_Custom___init__, runB, m_Custom___init__, e0, i1, i2, hr, c3, hr2]
  rw [hf2]
  simp only [Option.map_none]
  subst hm hz0
  have l3 : ∀ z1, lcGo (tupT 4 (consT (setE 4) (consT (setE 5) (consT (setE 6) (consT (setE 7) nilT))))) (mRet true) (mTup (mCons (mVar 4) (mCons (mVar 5) (mCons (mCall tupleD (mCons (mVar 6) mNil)) (mCons (mCall tupleD (mCons (mVar 7) mNil)) mNil)))))
      (wipeE [some (.sh (.mob z.length)), some (.sh (.lst (sts.map Sta.enc))), some (.sh (.lst (bgs.map D.int))), b1, b2, b3, b4, b5, b6, b7] [4, 5, 6, 7]) (sts.map Sta.enc) [] z1 = .ok (sts.map Sta.enc) z1 := fun z1 =>
    lcGo_mapT Sta.enc Sta.enc sts (le_line (by omega)) fun s _ => ⟨[some (.sh (.mob z.length)), some (.sh (.lst (sts.map Sta.enc))), some (.sh (.lst (bgs.map D.int))), b1, some (.sh (.int s.says)), some (.sh (encB s.belief)), some (.sh (.tup (s.zeros.map D.int))), some (.sh (.tup (s.ones.map D.int))), b6, b7], by simp [wipeE, Sta.enc, encR], by simp -implicitDefEqProofs [Sta.enc, encR]⟩
  have sf1 : ∀ v, setF 26 "rows" (z ++ [.ins 26 []]) (.mob z.length) v = some (z ++ [.ins 26 [("rows", v)]]) := fun v => by
    simp [setF, putD]
  have sf2 : ∀ u v, setF 26 "begins" (z ++ [.ins 26 [("rows", u)]]) (.mob z.length) v = some (z ++ [.ins 26 [("rows", u), ("begins", v)]]) := fun u v => by
    have : ¬ (("rows" : Str) = "begins") := by decide +kernel
    simp [setF, putD, this]
  simp -implicitDefEqProofs [F_Custom___init__, runB, m_Custom___init__, e0, i1, i2, hr, c3, hr2, l3, sf1, sf2]
theorem le_line' {n : Nat} (h : n ≤ 1000) : n ≤ sizeLine := by rw [sizeLine_eq]; omega
abbrev PV := Bool × List Str
def encP (p : PV) : D := if p.1 = true then .lst (p.2.map .str) else .tup (p.2.map .str)
def goodW : List Str → Bool
  | [a, b] => nameB a && nameB b
  | _ => false
def ordW : List Str → List Str
  | [a, b] => [minS a b, maxS a b]
  | ws => ws
theorem goodW_two {ws : List Str} (h : goodW ws = true) : ∃ a b, ws = [a, b] ∧ nameB a = true ∧ nameB b = true := by
  match ws, h with
  | [a, b], h => exact ⟨a, b, rfl, (Bool.and_eq_true_iff.mp h).1, (Bool.and_eq_true_iff.mp h).2⟩
theorem ordered_pair (a b : Str) : (if sltS b a = true then [b, a] else [a, b]) = [minS a b, maxS a b] := by
  unfold minS maxS
  cases h1 : sltS b a with
  | true => simp [sltS_asym h1]
  | false =>
    cases h2 : sltS a b with
    | true => simp
    | false => simp [sltS_tot h1 h2]
theorem ordered_spec (p : PV) (a b : Str) (h : p.2 = [a, b]) (z : Z) : F_ordered [encP p] z = .ok (tdS (ordW p.2)) z := by
  obtain ⟨l, ws⟩ := p
  simp only at h
  subst h
  have e0 : startE 3 [encP (l, [a, b])] = [some (.sh (encP (l, [a, b]))), none, none] := rfl
  have un : seqT 2 (consT (setE 1) (consT (setE 2) nilT)) (encP (l, [a, b])) [some (.sh (encP (l, [a, b]))), none, none] = some [some (.sh (encP (l, [a, b]))), some (.sh (.str a)), some (.sh (.str b))] := by
    cases l <;> rfl
  have le : ∀ z, leS z (.str a) (.str b) = some (!sltS b a) := fun _ => rfl
  have o := ordered_pair a b
  show _ = Res.ok (tdS [minS a b, maxS a b]) z
  rw [← o]
  generalize encP (l, [a, b]) = P at *
  cases h : sltS b a with
  | true => simp -implicitDefEqProofs [F_ordered, runB, m_ordered, e0, un, le, h]; rfl
  | false => simp -implicitDefEqProofs [F_ordered, runB, m_ordered, e0, un, le, h]; rfl
theorem is_pair_spec (p : PV) (z : Z) (h : p.2.length ≤ 900) (hw : ∀ x ∈ p.2, x.length ≤ 900) : F_is_pair [encP p] z = .ok (.bl (goodW p.2)) z := by
  obtain ⟨l, ws⟩ := p
  simp only at h hw
  have e0 : startE 1 [encP (l, ws)] = [some (.sh (encP (l, ws)))] := rfl
  have is : ∀ z, isiD ["tuple", "list"] z (encP (l, ws)) = some (.bl true) := fun z => by cases l <;> kernel_rfl
  have ln : ∀ z, lenD z [encP (l, ws)] = some (.int ws.length) := fun z => by cases l <;> simp [encP, lenD]
  have ix : ∀ (n : Nat) w z, ws[n]? = some w → ixD z (encP (l, ws)) (.int (n : Int)) = some (.str w) := fun n w z hn => by
    have hi := (List.getElem?_eq_some_iff.mp hn).1
    have q : atI (ws.map D.str) (n : Int) = some (.str w) := by
      rw [atI_ofNat _ _ (by simpa using hi)]
      simp [(List.getElem?_eq_some_iff.mp hn).2]
    cases l <;> exact q
  by_cases c : ws.length = 2
  · match ws, c with
    | [a, b], _ =>
      have x0 : ∀ z, ixD z (encP (l, [a, b])) (.int 0) = some (.str a) := fun z => ix 0 a z rfl
      have x1 : ∀ z, ixD z (encP (l, [a, b])) (.int 1) = some (.str b) := fun z => ix 1 b z rfl
      have n0 := fun z => is_name_bl a z (le_line' (by have := hw a (by simp); omega))
      have n1 := fun z => is_name_bl b z (le_line' (by have := hw b (by simp); omega))
      have ln2 : ∀ z, lenD z [encP (l, [a, b])] = some (.int 2) := fun z => ln z
      show _ = Res.ok (D.bl (nameB a && nameB b)) z
      clear ix ln
      generalize encP (l, [a, b]) = P at *
      cases h : nameB a with
      | true => simp -implicitDefEqProofs [F_is_pair, runB, m_is_pair, e0, is, ln2, x0, x1, n0, n1, h]
      | false => simp -implicitDefEqProofs [F_is_pair, runB, m_is_pair, e0, is, ln2, x0, n0, h]
  · have i2 : ¬ ((ws.length : Int) = 2) := by omega
    have g : goodW ws = false := by
      match ws, c with
      | [], _ => rfl
      | [_], _ => rfl
      | [_, _], c => exact absurd rfl c
      | _ :: _ :: _ :: _, _ => rfl
    rw [g]
    generalize encP (l, ws) = P at *
    simp -implicitDefEqProofs [F_is_pair, runB, m_is_pair, e0, is, ln, i2]
def ruleD (rows : List (List Str)) : D := .obj 27 ["rows"] [.lst (rows.map tdS)]
def rowsOf (ps : List PV) : List (List Str) := sortT (ps.map fun p => ordW p.2)
structure PBnd (ps : List PV) : Prop where
  n : ps.length < 64
  m : ∀ p ∈ ps, p.2.length ≤ 900
  w : ∀ p ∈ ps, ∀ x ∈ p.2, x.length ≤ 900
theorem strsD_map (k : List Str) : strsD (k.map D.str) = some k := by
  induction k with
  | nil => rfl
  | cons x k ih => show (strsD (k.map D.str)).map _ = _; rw [ih]; rfl
theorem tupsD_map : ∀ (ks : List (List Str)), (∀ k ∈ ks, k ≠ []) → tupsD (ks.map tdS) = some ks
  | [], _ => rfl
  | k :: ks, h => by
    show (strsD (k.map D.str)).bind _ = _
    rw [strsD_map]
    show (if k = [] then none else (tupsD (ks.map tdS)).map (k :: ·)) = _
    rw [if_neg (h k (by simp)), tupsD_map ks fun j hj => h j (by simp [hj])]
    rfl
theorem sortK_map (ks : List (List Str)) (h : ∀ k ∈ ks, k ≠ []) (hl : ks.length < 64) : sortK (ks.map tdS) = some ((sortT ks).map tdS) := by
  unfold sortK
  rw [tupsD_map ks h]
  exact if_pos hl
def parBad (ps : List PV) : Option Er := (ps.zipIdx.find? fun p => !goodW p.1.2).map fun p => .par p.2
theorem rule_init (ps : List PV) (z : Z) (B : PBnd ps) : F_Rule___init__ [.mob z.length, .tup (ps.map encP)] (z ++ [.ins 27 []]) = match parBad ps with
    | some e => .exc e.xd (z ++ [.ins 27 []])
    | none => .ok .non (z ++ [.ins 27 [("rows", .lst ((rowsOf ps).map tdS))]]) := by
  obtain ⟨B1, B2, B3⟩ := B
  generalize hz0 : z ++ [.ins 27 []] = z0
  have e0 : startE 4 [.mob z.length, .tup (ps.map encP)] = [some (.sh (.mob z.length)), some (.sh (.tup (ps.map encP))), none, none] := rfl
  have L1 := forGo_find (z := z0) (g := tupT 2 (consT (setE 2) (consT (setE 3) nilT))) (body := sIf (mNot (mOp1 truD (mApp 1 F_is_pair (mCons (mVar 3) mNil)))) (sRaise 9 1 [("word", .inl "InvalidPair"), ("at", .inr 0)] (mCons (mVar 2) mNil)) sNx)
    (fun p : PV × Nat => .tup [.int (p.2 : Int), encP p.1]) (fun p => !goodW p.1.2)
    (fun ρ => ∃ a b, ρ = [some (.sh (.mob z.length)), some (.sh (.tup (ps.map encP))), a, b]) (fun p r => ∃ ρ', r = .exc (Er.par p.2).xd ρ' z0)
    (by rintro p r ⟨ρ', rfl⟩; trivial) ps.zipIdx [some (.sh (.mob z.length)), some (.sh (.tup (ps.map encP))), none, none] ⟨_, _, rfl⟩ (by
      rintro ⟨p, i⟩ hp ρ ⟨a, b, rfl⟩
      have hm : p ∈ ps := List.mem_of_getElem? (zip_mem hp)
      have ip := fun z => is_pair_spec p z (B2 p hm) (B3 p hm)
      refine ⟨[some (.sh (.mob z.length)), some (.sh (.tup (ps.map encP))), some (.sh (.int i)), some (.sh (encP p))], by simp, fun h => ?_, fun h => ?_⟩
      · simp only [Bool.not_eq_true'] at h
        exact ⟨_, by simp -implicitDefEqProofs [ip, h, xGoD, Er.xd]; rfl⟩
      · simp only [Bool.not_eq_false'] at h
        exact ⟨[some (.sh (.mob z.length)), some (.sh (.tup (ps.map encP))), some (.sh (.int i)), some (.sh (encP p))], by simp -implicitDefEqProofs [ip, h], _, _, rfl⟩)
  rw [← enumD_map encP ps] at L1
  unfold parBad
  rcases L1 with ⟨p, hf, ρ', hr⟩ | ⟨hf, ρ', hr, a, b, rfl⟩
  · rw [hf]
    simp -implicitDefEqProofs [F_Rule___init__, runB, m_Rule___init__, e0, hr]
  rw [hf]
  simp only [Option.map_none]
  have good : ∀ p ∈ ps, goodW p.2 = true := fun p hp => by
    obtain ⟨i, hi, e⟩ := List.mem_iff_getElem.mp hp
    have hm : (p, i) ∈ ps.zipIdx := by
      rw [List.mem_zipIdx_iff_getElem?]
      simp [hi, e]
    have := List.find?_eq_none.mp hf (p, i) hm
    simpa using this
  subst hz0
  have l2 : ∀ z1, lcGo (setE 3) (mRet true) (mApp 1 F_ordered (mCons (mVar 3) mNil)) (wipeE [some (.sh (.mob z.length)), some (.sh (.tup (ps.map encP))), a, b] [3]) (ps.map encP) [] z1 = .ok (ps.map fun p => tdS (ordW p.2)) z1 := fun z1 =>
    lcGo_mapT encP _ ps (le_line' (by omega)) fun p hp => by
      obtain ⟨x, y, e, _⟩ := goodW_two (good p hp)
      have := ordered_spec p x y e z1
      exact ⟨[some (.sh (.mob z.length)), some (.sh (.tup (ps.map encP))), a, some (.sh (encP p))], by simp [wipeE], by simp -implicitDefEqProofs [this]⟩
  have so : sortK (ps.map fun p => tdS (ordW p.2)) = some ((rowsOf ps).map tdS) := by
    rw [show (ps.map fun p => tdS (ordW p.2)) = (ps.map fun p => ordW p.2).map tdS by rw [List.map_map]; rfl]
    refine sortK_map _ (fun k hk => ?_) (by simpa using B1)
    obtain ⟨p, hp, rfl⟩ := List.mem_map.mp hk
    obtain ⟨x, y, e, _⟩ := goodW_two (good p hp)
    rw [e]
    simp [ordW]
  have sf1 : ∀ v, setF 27 "rows" (z ++ [.ins 27 []]) (.mob z.length) v = some (z ++ [.ins 27 [("rows", v)]]) := fun v => by
    simp [setF, putD]
  simp -implicitDefEqProofs [F_Rule___init__, runB, m_Rule___init__, e0, hr, l2, so, sf1, mLc]
theorem low_strs (n : Nat) : ∀ r : List Str, lowL n (r.map D.str) = true
  | [] => by simp [lowL]
  | a :: r => by simp [lowL, D.low, low_strs n r]
theorem low_rows (n : Nat) : ∀ r : List (List Str), lowL n (r.map tdS) = true
  | [] => by simp [lowL]
  | a :: r => by simp [lowL, tdS, D.low, low_strs, low_rows n r]
theorem low_ints (n : Nat) : ∀ r : List Int, lowL n (r.map D.int) = true
  | [] => by simp [lowL]
  | a :: r => by simp [lowL, D.low, low_ints n r]
def Zlow (z : Z) : Prop := ∀ m ∈ z, ∀ n, m.low n = true
theorem Zlow.src {mo : MO} {rest : Z} (h : SrcOk mo) (hr : Zlow rest) : Zlow (mo :: rest) := fun m hm n => by
  rcases List.mem_cons.mp hm with rfl | hm
  · obtain ⟨cells, a, b, c, d, rfl, _⟩ := h
    simp [MO.low, lowL, D.low, low_ints]
  · exact hr m hm n
theorem Zlow.nil : Zlow [] := fun m hm => nomatch hm
theorem Zlow.add {z : Z} (h : Zlow z) (c : Nat) : Zlow (z ++ [.ins c []]) := fun m hm n => by
  rcases List.mem_append.mp hm with hm | hm
  · exact h m hm n
  · cases List.mem_singleton.mp hm
    rfl
theorem rule_new (ps : List PV) (z : Z) (B : PBnd ps) (hz : Zlow z) : newTo 27 z.length (F_Rule___init__ [.mob z.length, .tup (ps.map encP)] (z ++ [.ins 27 []])) = match parBad ps with
    | some e => .exc e.xd (z ++ [.ins 27 []])
    | none => .ok (ruleD (rowsOf ps)) z := by
  rw [rule_init ps z B]
  cases parBad ps with
  | some e => rfl
  | none =>
    have e1 : (z ++ [MO.ins 27 [("rows", .lst ((rowsOf ps).map tdS))]])[z.length]? = some (.ins 27 [("rows", .lst ((rowsOf ps).map tdS))]) := by simp
    have e2 : (z ++ [MO.ins 27 [("rows", .lst ((rowsOf ps).map tdS))]]).take z.length = z := by simp
    have e3 : z.all (·.low z.length) = true := by
      rw [List.all_eq_true]
      exact fun m hm => hz m hm _
    have e4 : lowL z.length [D.lst ((rowsOf ps).map tdS)] = true := by
      simp only [lowL, D.low, low_rows, Bool.and_self]
    simp only [newTo, popIns, e1, e2]
    rw [if_pos ⟨trivial, by simp, e3, by simpa using e4⟩]
    rfl
def custD (c : Cu) : D := .obj 26 ["rows", "begins"] [.lst (c.states.map Sta.enc), .lst (c.starts.map .int)]
theorem low_sta (n : Nat) (s : Sta) : (Sta.enc s).low n = true := by
  unfold Sta.enc encR
  simp only [D.low, lowL, low_ints, Bool.and_true, Bool.true_and]
  cases s.belief <;> rfl
theorem low_stas (n : Nat) : ∀ r : List Sta, lowL n (r.map Sta.enc) = true
  | [] => by simp [lowL]
  | a :: r => by simp [lowL, low_sta, low_stas n r]
theorem custom_new (c : Cu) (z : Z) (B : Bnd c) (hz : Zlow z) : newTo 26 z.length (F_Custom___init__ [.mob z.length, .lst (c.states.map Sta.enc), .tup (c.starts.map .int)] (z ++ [.ins 26 []])) = match custErr c with
    | some e => .exc e.xd (z ++ [.ins 26 []])
    | none => .ok (custD c) z := by
  rw [init_spec c z B]
  cases custErr c with
  | some e => rfl
  | none =>
    have e1 : (z ++ [MO.ins 26 [("rows", .lst (c.states.map Sta.enc)), ("begins", .lst (c.starts.map .int))]])[z.length]? = some (.ins 26 [("rows", .lst (c.states.map Sta.enc)), ("begins", .lst (c.starts.map .int))]) := by simp
    have e2 : (z ++ [MO.ins 26 [("rows", .lst (c.states.map Sta.enc)), ("begins", .lst (c.starts.map .int))]]).take z.length = z := by simp
    have e3 : z.all (·.low z.length) = true := by
      rw [List.all_eq_true]
      exact fun m hm => hz m hm _
    have e4 : lowL z.length [D.lst (c.states.map Sta.enc), .lst (c.starts.map .int)] = true := by
      simp only [lowL, D.low, low_stas, low_ints, Bool.and_self]
    simp only [newTo, popIns, e1, e2]
    rw [if_pos ⟨trivial, by simp, e3, by simpa using e4⟩]
    rfl
theorem custom_newL (c : Cu) (z : Z) (B : Bnd c) (hz : Zlow z) : newTo 26 z.length (F_Custom___init__ [.mob z.length, .lst (c.states.map Sta.enc), .lst (c.starts.map .int)] (z ++ [.ins 26 []])) = match custErr c with
    | some e => .exc e.xd (z ++ [.ins 26 []])
    | none => .ok (custD c) z := by
  rw [init_specL c z B]
  cases custErr c with
  | some e => rfl
  | none =>
    have e1 : (z ++ [MO.ins 26 [("rows", .lst (c.states.map Sta.enc)), ("begins", .lst (c.starts.map .int))]])[z.length]? = some (.ins 26 [("rows", .lst (c.states.map Sta.enc)), ("begins", .lst (c.starts.map .int))]) := by simp
    have e2 : (z ++ [MO.ins 26 [("rows", .lst (c.states.map Sta.enc)), ("begins", .lst (c.starts.map .int))]]).take z.length = z := by simp
    have e3 : z.all (·.low z.length) = true := by
      rw [List.all_eq_true]
      exact fun m hm => hz m hm _
    have e4 : lowL z.length [D.lst (c.states.map Sta.enc), .lst (c.starts.map .int)] = true := by
      simp only [lowL, D.low, low_stas, low_ints, Bool.and_self]
    simp only [newTo, popIns, e1, e2]
    rw [if_pos ⟨trivial, by simp, e3, by simpa using e4⟩]
    rfl
theorem neD_self (z : Z) {n : Nat} {d : D} (h : okD n d = true) (hn : n ≤ 64 := by decide) : neD z d d = some false := by
  rw [neD_ok z h h hn hn]
  simp
theorem eqD_self (z : Z) {n : Nat} {d : D} (h : okD n d = true) (hn : n ≤ 64 := by decide) : eqD z d d = some true := by
  rw [eqD_ok z h h hn hn]
  simp
theorem same_spec (d : D) (z : Z) {n : Nat} (h : rpD n d = true) (hn : n ≤ 40) (hw : wt d ≤ 1000000) : F__law_same [d, d] z = .ok (.bl true) z := by
  have e0 : startE 2 [d, d] = [some (.sh d), some (.sh d)] := rfl
  obtain ⟨x, hx⟩ := repr_ok z h hn hw
  simp -implicitDefEqProofs [F__law_same, runB, m__law_same, e0, hx]
theorem inS_sgn (z : Z) (c : Nat) (x : Str) : inS z (sgn c) (.str x) = some (decide (c ∈ x.cps.toList)) := by
  show some _ = _
  rw [StrLaws.found_one]
theorem name_strOk {s : Str} (h : nameB s = true) : PyData.strOk s = true := by
  unfold nameB at h
  simp only [Bool.and_eq_true] at h
  have h3 := h.2.2
  rw [List.all_eq_true] at h3
  unfold PyData.strOk
  rw [Array.all_eq_true']
  intro c hc
  have hm : ((inS [] (sgn c) (.str "abcdefghijklmnopqrstuvwxyz")).getD false) ∈ (s.cps.toList.map sgn).map fun d => ((inS [] d (.str "abcdefghijklmnopqrstuvwxyz")).getD false) :=
    List.mem_map_of_mem (f := fun d => (inS [] d (.str "abcdefghijklmnopqrstuvwxyz")).getD false) (List.mem_map_of_mem (f := sgn) (by simpa using hc))
  have h4 := h3 _ hm
  rw [inS_sgn] at h4
  have h5 : c ∈ lettersL := by simpa [lettersL] using h4
  have lt : ∀ c ∈ lettersL, c < 0x110000 := by decide +kernel
  exact decide_eq_true (lt c h5)
theorem letter_small : ∀ c ∈ lettersL, c < 0x110000 := by decide +kernel
theorem good_str {s : Str} (h : GoodN s) : PyData.strOk s = true := by
  unfold PyData.strOk
  rw [Array.all_eq_true']
  intro c hc
  exact decide_eq_true (letter_small c (h.abc c (by simpa using hc)))
def OkK (k : List Str) : Prop := ∃ a b, k = [a, b] ∧ PyData.strOk a = true ∧ PyData.strOk b = true ∧ a.length ≤ 8 ∧ b.length ≤ 8
theorem okK_two {a b : Str} (h1 : PyData.strOk a = true) (h2 : PyData.strOk b = true) (h3 : a.length ≤ 8) (h4 : b.length ≤ 8) : OkK [minS a b, maxS a b] := by
  unfold minS maxS
  split <;> split <;> exact ⟨_, _, rfl, by assumption, by assumption, by assumption, by assumption⟩
theorem rows_rp {rows : List (List Str)} (h : ∀ k ∈ rows, OkK k) : rpD 3 (.lst (rows.map tdS)) = true ∧ okD 3 (.lst (rows.map tdS)) = true := by
  constructor
  · unfold rpD
    exact rpL_map fun k hk => by
      obtain ⟨a, b, rfl, h1, h2, _⟩ := h k hk
      simp [tdS, rpD, rpL, h1, h2]
  · unfold okD
    exact okL_map fun k hk => by
      obtain ⟨a, b, rfl, h1, h2, _⟩ := h k hk
      simp [tdS, okD, okL, h1, h2]
theorem rows_wt {rows : List (List Str)} (h : ∀ k ∈ rows, OkK k) : wt (.lst (rows.map tdS)) ≤ rows.length * 100 := by
  have := wtL_map (xs := rows) (f := tdS) (c := 99) fun k hk => by
    obtain ⟨a, b, rfl, _, _, h3, h4⟩ := h k hk
    have e1 : a.cps.size = a.length := rfl
    have e2 : b.cps.size = b.length := rfl
    simp only [tdS, List.map_cons, List.map_nil, wt, wtL]
    omega
  unfold wt
  omega
theorem insT_len (k : List Str) : ∀ xs : List (List Str), (insT k xs).length ≤ xs.length + 1
  | [] => by simp [insT]
  | x :: xs => by
    unfold insT
    split
    · simp
    · split
      · have := insT_len k xs
        simp only [List.length_cons]
        omega
      · simp
theorem sortT_len : ∀ ks : List (List Str), (sortT ks).length ≤ ks.length
  | [] => by simp [sortT]
  | k :: ks => by
    have h1 := insT_len k (sortT ks)
    have h2 := sortT_len ks
    show (insT k (sortT ks)).length ≤ _
    simp only [List.length_cons]
    omega
theorem sortT_ok {ks : List (List Str)} (h : ∀ k ∈ ks, OkK k) : ∀ k ∈ sortT ks, OkK k := fun k hk => h k (mem_sortT.mp hk)
theorem name_short {s : Str} (h : nameB s = true) : s.length ≤ 8 := by
  unfold nameB at h
  simp only [Bool.and_eq_true, decide_eq_true_eq] at h
  omega
theorem good_len {s : Str} (h : GoodN s) : s.length ≤ 8 := by
  rw [len_cps]
  exact h.few
theorem join_lenS (y : Str) : ∀ ps : List Str, ps ≠ [] → (Str.join y ps).length + y.length = (ps.map (·.length)).sum + ps.length * y.length
  | [], h => absurd rfl h
  | [x], _ => by
    show x.length + _ = _
    simp
  | x :: w :: r, _ => by
    have h := join_lenS y (w :: r) (by simp)
    show (x ++ y ++ Str.join y (w :: r)).length + _ = _
    rw [Str.length_append, Str.length_append]
    simp only [List.map_cons, List.sum_cons, List.length_cons, Nat.succ_mul] at h ⊢
    omega
theorem split_ne (x y : Str) : Txt.split x y ≠ [] := by
  unfold Txt.split
  split
  · simp
  · split
    · simp
    · intro h
      have := congrArg List.length h
      rw [len_partsBetween] at this
      simp at this
theorem sum_ge : ∀ (l : List Nat) (a : Nat), a ∈ l → a ≤ l.sum
  | b :: l, a, h => by
    rw [List.sum_cons]
    rcases List.mem_cons.mp h with rfl | h
    · omega
    · have := sum_ge l a h
      omega
theorem split_len (x y : Str) (hy : y.length = 1) : (Txt.split x y).length ≤ x.length + 1 ∧ ((Txt.split x y).map (·.length)).sum + (Txt.split x y).length = x.length + 1 ∧ ∀ p ∈ Txt.split x y, p.length ≤ x.length := by
  have h := join_lenS y _ (split_ne x y)
  rw [StrLaws.join_split, hy] at h
  have hn : 1 ≤ (Txt.split x y).length := List.length_pos_iff.mpr (split_ne x y)
  refine ⟨by omega, by omega, fun p hp => ?_⟩
  have := sum_ge _ _ (List.mem_map_of_mem (f := (·.length)) hp)
  omega
theorem splitD_ok (x y : Str) (hy : y.length = 1) (hx : x.length ≤ 640) (z : Z) : splitD z (.str x) (.str y) = some ((Txt.split x y).map .str) := split_str z x y (by rw [hy]; rfl) (by omega)
theorem l_sem : ("; ": Str).length = 2 := by decide +kernel
theorem l_com : (",": Str).length = 1 := by decide +kernel
theorem l_spc : (" ": Str).length = 1 := by decide +kernel
theorem l_new : ("\n": Str).length = 1 := by decide +kernel
theorem split_len2 (x y : Str) (hy : y.length = 2) : 2 * (Txt.split x y).length ≤ x.length + 2 ∧ ((Txt.split x y).map (·.length)).sum + 2 * (Txt.split x y).length = x.length + 2 ∧ ∀ p ∈ Txt.split x y, p.length ≤ x.length := by
  have h := join_lenS y _ (split_ne x y)
  rw [StrLaws.join_split, hy] at h
  have hn : 1 ≤ (Txt.split x y).length := List.length_pos_iff.mpr (split_ne x y)
  refine ⟨by omega, by omega, fun p hp => ?_⟩
  have := sum_ge _ _ (List.mem_map_of_mem (f := (·.length)) hp)
  omega
theorem forGo_findA {α : Type} {g : TgF} {body : MS} {z : Z} (enc : α → D) (bad : α → Bool) (I : List α → En → Prop) (Ex : α → SR → Prop) (hEx : ∀ x r, Ex x r → Lv r) (all : List α) : ∀ (xs pre : List α) (ρ : En), all = pre ++ xs → I pre ρ →
    (∀ pre x post ρ, all = pre ++ x :: post → I pre ρ → ∃ ρ1, g (enc x) ρ = some ρ1 ∧ (bad x = true → Ex x (body ρ1 z)) ∧ (bad x = false → ∃ ρ2, body ρ1 z = .nx ρ2 z ∧ I (pre ++ [x]) ρ2)) →
    (∃ x, xs.find? bad = some x ∧ Ex x (forGo g body (xs.map enc) ρ z)) ∨ (xs.find? bad = none ∧ ∃ ρ', forGo g body (xs.map enc) ρ z = .nx ρ' z ∧ I all ρ')
  | [], pre, ρ, ha, hI, _ => .inr ⟨rfl, ρ, rfl, by rw [ha, List.append_nil]; exact hI⟩
  | x :: xs, pre, ρ, ha, hI, h => by
    obtain ⟨ρ1, e1, e2, e3⟩ := h pre x xs ρ ha hI
    rw [List.map_cons, List.find?_cons, forGo, e1]
    dsimp only
    cases hb : bad x with
    | true =>
      have l := e2 hb
      have lv := hEx _ _ l
      refine .inl ⟨x, rfl, ?_⟩
      revert l lv
      cases body ρ1 z <;> intro l lv <;> first | exact lv.elim | exact l
    | false =>
      obtain ⟨ρ2, e4, hI2⟩ := e3 hb
      rw [e4]
      dsimp only
      exact forGo_findA enc bad I Ex hEx all xs (pre ++ [x]) ρ2 (by rw [ha]; simp) hI2 h
def digL : List Nat := ("0123456789" : Str).cps.toList
def digB (w : Str) : Bool := w.cps.toList.all fun c => decide (c ∈ digL)
def numB (w : Str) : Bool := decide (1 ≤ w.length) && (decide (w.length ≤ 6) && (digB w && (decide (w = "0") || decide (w.cps.toList.head? ≠ some 48))))
def numV (w : Str) : Option Int := if numB w then PySem.intText? w else none
theorem dig_all : ∀ c ∈ digL, 48 ≤ c ∧ c ≤ 57 := by decide +kernel
theorem num_some {w : Str} (h : numB w = true) : ∃ n : Nat, PySem.intText? w = some (n : Int) := by
  unfold numB at h
  simp only [Bool.and_eq_true, decide_eq_true_eq] at h
  obtain ⟨h1, h2, h3, _⟩ := h
  have hl := len_cps' w
  refine ⟨_, intText_digits (fun c hc => dig_all c ?_) (fun e => ?_) (by omega)⟩
  · unfold digB at h3
    rw [List.all_eq_true] at h3
    simpa using h3 c hc
  · rw [e] at hl
    simp at hl
    omega
theorem dig_go (w : Str) (z : Z) (hw : w.length ≤ 1000) (ρ : En) (h : ∀ d, ∃ ρ1, setE 1 d ρ = some ρ1 ∧ mBl (mOp2 inS (mVar 1) (mRet (.str "0123456789"))) ρ1 z = (ofO (inS z d (.str "0123456789")) z).bind fun b z1 => .ok (.bl b) z1) : lcGo (setE 1) (mRet true) (mBl (mOp2 inS (mVar 1) (mRet (.str "0123456789")))) ρ (w.cps.toList.map sgn) [] z = .ok (w.cps.toList.map fun c => .bl (decide (c ∈ digL))) z := by
  have hl := len_cps' w
  refine lcGo_mapT sgn _ w.cps.toList (le_line (by omega)) fun c _ => ?_
  obtain ⟨ρ1, e1, e2⟩ := h (sgn c)
  refine ⟨ρ1, e1, ?_⟩
  rw [e2, inS_sgn]
  rfl
theorem ix0_str (w : Str) (z : Z) (h : 1 ≤ w.length) (hw : w.length ≤ sizeLine) : ∃ c, w.cps.toList.head? = some c ∧ ixD z (.str w) (.int 0) = some (sgn c) := by
  have hl := len_cps' w
  cases hc : w.cps.toList with
  | nil => rw [hc] at hl; simp at hl; omega
  | cons c cs =>
    refine ⟨c, rfl, ?_⟩
    have h3 : atI w.cps.toList ((0 : Nat) : Int) = some c := by
      rw [atI_ofNat _ _ (by rw [hc]; simp)]
      simp [hc]
    show (if w.length ≤ sizeLine then (atI w.cps.toList 0).map (fun c => D.str ⟨#[c]⟩) else none) = _
    rw [if_pos hw, show (0 : Int) = ((0 : Nat) : Int) from rfl, h3]
    rfl
theorem str_one (c : Nat) : decide ((⟨#[c]⟩ : Str) = "0") = decide (c = 48) := by
  rw [decide_eq_decide]
  refine ⟨fun h => ?_, fun h => by subst h; decide +kernel⟩
  have h2 := congrArg (fun s : Str => s.cps.toList) h
  have h3 : ("0" : Str).cps.toList = [48] := by decide +kernel
  simp only [h3] at h2
  simpa using h2
def encN : Option Int → D
  | none => .non
  | some n => .int n
theorem digs_all (w : Str) (z : Z) : allD (·.all id) z [.lst (w.cps.toList.map fun c => .bl (decide (c ∈ digL)))] = some (.bl (digB w)) := by
  rw [show (w.cps.toList.map fun c => D.bl (decide (c ∈ digL))) = (w.cps.toList.map fun c => decide (c ∈ digL)).map D.bl by rw [List.map_map]; rfl, allD_map]
  simp [digB, List.all_map]
theorem number_in_spec (w : Str) (z : Z) (hw : w.length ≤ 1000) : F_number_in [.str w] z = .ok (encN (numV w)) z := by
  have e0 : startE 2 [.str w] = [some (.sh (.str w)), none] := rfl
  have l1 := dig_go w z hw (wipeE [some (.sh (.str w)), none] [1]) fun d => ⟨_, setE_in 1 _ (by simp [wipeE]), rfl⟩
  have hs : w.length ≤ sizeLine := le_line hw
  by_cases c1 : 1 ≤ w.length
  rotate_left
  · have i1 : ¬ (1 : Int) ≤ w.length := by omega
    have : numV w = none := by simp [numV, numB, c1]
    rw [this]
    simp -implicitDefEqProofs [F_number_in, runB, m_number_in, e0, i1, hs, encN]
  have i1 : (1 : Int) ≤ w.length := by omega
  by_cases c2 : w.length ≤ 6
  rotate_left
  · have i2 : ¬ (w.length : Int) ≤ 6 := by omega
    have : numV w = none := by simp [numV, numB, c2]
    rw [this]
    simp -implicitDefEqProofs [F_number_in, runB, m_number_in, e0, i1, i2, hs, encN]
  have i2 : (w.length : Int) ≤ 6 := by omega
  by_cases c3 : digB w = true
  rotate_left
  · have : numV w = none := by simp [numV, numB, c3]
    rw [this]
    have c3' : digB w = false := by simpa using c3
    have d := fun z => digs_all w z
    rw [c3'] at d
    simp -implicitDefEqProofs [F_number_in, runB, m_number_in, e0, i1, i2, hs, encN, l1, d]
  have d := fun z => digs_all w z
  rw [c3] at d
  obtain ⟨c, hc, hx⟩ : ∃ c, w.cps.toList.head? = some c ∧ ∀ z, ixD z (.str w) (.int 0) = some (sgn c) := by
    obtain ⟨c, hc, _⟩ := ix0_str w [] c1 hs
    exact ⟨c, hc, fun z => by
      obtain ⟨c', hc', h⟩ := ix0_str w z c1 hs
      rw [hc] at hc'
      cases hc'
      exact h⟩
  have e48 : ∀ z, eqD z (sgn c) (.str "0") = some (decide (c = 48)) := fun z => congrArg some (str_one c)
  have n48 : ∀ z, neD z (.str w) (.str "0") = some (!decide (w = "0")) := fun z => rfl
  have hl : w.length ≤ 640 := by omega
  by_cases q1 : c = 48
  · by_cases q2 : w = "0"
    · have hb : numB w = true := by simp [numB, c1, c2, c3, q2]; exact (by decide +kernel)
      obtain ⟨n, hn⟩ := num_some hb
      have : numV w = some (n : Int) := by rw [numV, if_pos hb, hn]
      rw [this]
      have q2' : ∀ z, neD z (.str w) (.str "0") = some false := fun z => by rw [n48]; simp [q2]
      have e48' : ∀ z, eqD z (sgn c) (.str "0") = some true := fun z => by rw [e48]; simp [q1]
      simp -implicitDefEqProofs [F_number_in, runB, m_number_in, e0, i1, i2, hs, encN, l1, d, hx, e48', q2', hn, hl]
    · have : numV w = none := by simp [numV, numB, c1, c2, c3, q2, hc, q1]
      rw [this]
      have q2' : ∀ z, neD z (.str w) (.str "0") = some true := fun z => by rw [n48]; simp [q2]
      have e48' : ∀ z, eqD z (sgn c) (.str "0") = some true := fun z => by rw [e48]; simp [q1]
      simp -implicitDefEqProofs [F_number_in, runB, m_number_in, e0, i1, i2, hs, encN, l1, d, hx, e48', q2']
  · have hb : numB w = true := by simp [numB, c1, c2, c3, hc, q1]
    obtain ⟨n, hn⟩ := num_some hb
    have : numV w = some (n : Int) := by rw [numV, if_pos hb, hn]
    rw [this]
    have e48' : ∀ z, eqD z (sgn c) (.str "0") = some false := fun z => by rw [e48]; simp [q1]
    simp -implicitDefEqProofs [F_number_in, runB, m_number_in, e0, i1, i2, hs, encN, l1, d, hx, e48', hn, hl]
def numsV (ws : List Str) : Option (List Int) := if ws.all numB then some (ws.map fun w => (numV w).getD 0) else none
def encT : Option (List Int) → D
  | none => .non
  | some r => .tup (r.map .int)
def Ok1 (ws : List Str) : Prop := ws.length ≤ 1000 ∧ ∀ w ∈ ws, w.length ≤ 640
theorem numV_of {w : Str} (h : numB w = true) : ∃ n : Nat, numV w = some (n : Int) := by
  obtain ⟨n, hn⟩ := num_some h
  exact ⟨n, by rw [numV, if_pos h, hn]⟩
theorem numV_no {w : Str} (h : ¬ numB w = true) : numV w = none := by rw [numV, if_neg h]
theorem flat_encN (o : Option Int) : flatD (encN o) = true := by cases o <;> rfl
theorem inV_none : ∀ ws : List Str, inV .non ((ws.map fun w => encN (numV w)).map vOf) = !(ws.all numB)
  | [] => rfl
  | w :: ws => by
    have ih := inV_none ws
    rw [List.all_cons]
    by_cases h : numB w = true
    · obtain ⟨n, hn⟩ := numV_of h
      simp only [List.map_cons, hn, h, Bool.true_and]
      rw [← ih]
      first | rfl | exact Bool.false_or _
    · have hw := numV_no h
      have h' : numB w = false := by simpa using h
      simp only [List.map_cons, hw, h', Bool.false_and]
      first | rfl | exact Bool.true_or _
theorem numbers_in_spec (ws : List Str) (z : Z) (h : Ok1 ws) : F_numbers_in [.lst (ws.map .str)] z = .ok (encT (numsV ws)) z := by
  have e0 : startE 3 [.lst (ws.map D.str)] = [some (.sh (.lst (ws.map D.str))), none, none] := rfl
  have l1 : lcGo (setE 2) (mRet true) (mApp 1 F_number_in (mCons (mVar 2) mNil)) (wipeE [some (.sh (.lst (ws.map D.str))), none, none] [2]) (ws.map D.str) [] z = .ok (ws.map fun w => encN (numV w)) z :=
    lcGo_mapT D.str _ ws (le_line (by have := h.1; omega)) fun w hw => ⟨_, setE_in 2 _ (by simp [wipeE]), by
      have := number_in_spec w z (by have := h.2 w hw; omega)
      simp -implicitDefEqProofs [wipeE, this]⟩
  have fl : (ws.map fun w => encN (numV w)).all flatD = true := by
    rw [List.all_eq_true]
    intro d hd
    obtain ⟨w, _, rfl⟩ := List.mem_map.mp hd
    exact flat_encN _
  have hin : ∀ z, inF false z .non (.lst (ws.map fun w => encN (numV w))) = some (!(ws.all numB)) := fun z => by
    rw [inF_lst, if_pos ⟨rfl, fl⟩]
    show some (inV .non _) = _
    rw [inV_none]
  by_cases c : ws.all numB = true
  · have hin' : ∀ z, inF false z .non (.lst (ws.map fun w => encN (numV w))) = some false := fun z => by rw [hin, c]; rfl
    have e : (ws.map fun w => encN (numV w)) = (ws.map fun w => (numV w).getD 0).map D.int := by
      rw [List.map_map]
      refine List.map_congr_left fun w hw => ?_
      obtain ⟨n, hn⟩ := numV_of (List.all_eq_true.mp c w hw)
      simp [hn, encN]
    have hn : numsV ws = some (ws.map fun w => (numV w).getD 0) := if_pos c
    rw [hn]
    simp -implicitDefEqProofs [-inF_lst, F_numbers_in, runB, m_numbers_in, e0, l1, hin', -List.map_map]
    rw [e]
    rfl
  · have hin' : ∀ z, inF false z .non (.lst (ws.map fun w => encN (numV w))) = some true := fun z => by rw [hin]; simp only [c]; rfl
    have hn : numsV ws = none := if_neg c
    rw [hn]
    simp -implicitDefEqProofs [-inF_lst, F_numbers_in, runB, m_numbers_in, e0, l1, hin']
    rfl
@[simp] theorem isN_tup (z : Z) (ds : List D) : isN z (.tup ds) .non = some false := rfl
@[simp] theorem isN_lst (z : Z) (ds : List D) : isN z (.lst ds) .non = some false := rfl
@[simp] theorem isN_non (z : Z) : isN z .non .non = some true := rfl
theorem split_ok (x y : Str) (hy : y.length = 1) (hx : x.length ≤ 640) : Ok1 (Txt.split x y) := by
  obtain ⟨h1, _, h3⟩ := split_len x y hy
  exact ⟨by omega, fun w hw => by have := h3 w hw; omega⟩
def stateV : List Str → Option Sta
  | [a, b, c, d, e] =>
    if a = "state" ∧ (b = "0" ∨ b = "1") then
      match numsV (Txt.split d ","), numsV (Txt.split e ",") with
      | some zs, some os => if c = "-" then some ⟨if b = "1" then 1 else 0, none, zs, os⟩ else if nameB c then some ⟨if b = "1" then 1 else 0, some c, zs, os⟩ else none
      | _, _ => none
    else none
  | _ => none
def encS : Option Sta → D
  | none => .non
  | some s => Sta.enc s
theorem stateV_len {ws : List Str} (h : ws.length ≠ 5) : stateV ws = none := by
  match ws, h with
  | [], _ => rfl
  | [_], _ => rfl
  | [_, _], _ => rfl
  | [_, _, _], _ => rfl
  | [_, _, _, _], _ => rfl
  | [_, _, _, _, _], h => simp at h
  | _ :: _ :: _ :: _ :: _ :: _ :: _, _ => rfl
theorem in01 (z : Z) (b : Str) : inF true z (.str b) (.tup [.str "0", .str "1"]) = some (!(decide (b = "0") || decide (b = "1"))) := by
  rw [inF_tup, if_pos ⟨rfl, rfl⟩]
  show some (!(inV (.str b) (([("0" : Str), ("1" : Str)]).map V.str))) = _
  rw [inV_strs]
  simp
theorem in01L (z : Z) (b : Str) : inF true z (.str b) (.lst [.str "0", .str "1"]) = some (!(decide (b = "0") || decide (b = "1"))) := in01 z b
theorem int0 : PySem.intText? "0" = some 0 := by decide +kernel
theorem int1 : PySem.intText? "1" = some 1 := by decide +kernel
theorem len0 : ("0" : Str).length ≤ 640 := by decide +kernel
theorem len1 : ("1" : Str).length ≤ 640 := by decide +kernel
theorem intb (z : Z) (b : Str) (h : b = "0" ∨ b = "1") : intSD z [.str b] = some (.int (if b = "1" then 1 else 0)) := by
  rcases h with rfl | rfl
  · rw [ap_intS, int0]
    have : ¬ (("0" : Str) = "1") := by decide +kernel
    simp [len0, this]
  · rw [ap_intS, int1]
    simp [len1]
theorem state_in_spec (ws : List Str) (z : Z) (h : Ok1 ws) : F_state_in [.lst (ws.map .str)] z = .ok (encS (stateV ws)) z := by
  have e0 : startE 3 [.lst (ws.map D.str)] = [some (.sh (.lst (ws.map D.str))), none, none] := rfl
  by_cases c5 : ws.length = 5
  rotate_left
  · have i5 : ¬ ((ws.length : Int) = 5) := by omega
    have hl : ws.length ≤ sizeLine := le_line (by have := h.1; omega)
    rw [stateV_len c5]
    simp -implicitDefEqProofs [F_state_in, runB, m_state_in, e0, i5]
    rfl
  obtain ⟨a, b, c, d, e, rfl⟩ : ∃ a b c d e, ws = [a, b, c, d, e] := by
    match ws, c5 with
    | [a, b, c, d, e], _ => exact ⟨a, b, c, d, e, rfl⟩
  have x0 : ∀ z, ixD z (.lst ([a, b, c, d, e].map D.str)) (.int 0) = some (.str a) := fun z => rfl
  have x1 : ∀ z, ixD z (.lst ([a, b, c, d, e].map D.str)) (.int 1) = some (.str b) := fun z => rfl
  have x2 : ∀ z, ixD z (.lst ([a, b, c, d, e].map D.str)) (.int 2) = some (.str c) := fun z => rfl
  have x3 : ∀ z, ixD z (.lst ([a, b, c, d, e].map D.str)) (.int 3) = some (.str d) := fun z => rfl
  have x4 : ∀ z, ixD z (.lst ([a, b, c, d, e].map D.str)) (.int 4) = some (.str e) := fun z => rfl
  have ln : ∀ z, lenD z [.lst ([a, b, c, d, e].map D.str)] = some (.int 5) := fun z => rfl
  have hd := h.2 d (by simp)
  have he := h.2 e (by simp)
  have hc := h.2 c (by simp)
  have s3 := splitD_ok d "," l_com hd
  have s4 := splitD_ok e "," l_com he
  have n3 := fun z => numbers_in_spec _ z (split_ok d "," l_com hd)
  have n4 := fun z => numbers_in_spec _ z (split_ok e "," l_com he)
  have nm := fun z => is_name_bl c z (le_line (by omega))
  generalize [a, b, c, d, e].map D.str = W at *
  by_cases q1 : a = "state"
  rotate_left
  · have : stateV [a, b, c, d, e] = none := by simp [stateV, q1]
    rw [this]
    simp -implicitDefEqProofs [F_state_in, runB, m_state_in, e0, ln, x0, q1]
    rfl
  have in1 := fun z => in01 z b
  by_cases q2 : b = "0" ∨ b = "1"
  rotate_left
  · have : stateV [a, b, c, d, e] = none := by simp only [stateV, q1, q2, and_false, if_false]
    rw [this]
    have in1' : ∀ z, inF true z (.str b) (.tup [.str "0", .str "1"]) = some true := fun z => by rw [in1]; simp only [not_or] at q2; simp [q2.1, q2.2]
    simp -implicitDefEqProofs [-inF_tup, F_state_in, runB, m_state_in, e0, ln, x0, x1, q1, in1']
    rfl
  have in1' : ∀ z, inF true z (.str b) (.tup [.str "0", .str "1"]) = some false := fun z => by rw [in1]; rcases q2 with q | q <;> simp [q]
  have ib := fun z => intb z b q2
  cases h3 : numsV (Txt.split d ",") with
  | none =>
    have : stateV [a, b, c, d, e] = none := by simp only [stateV, h3]; split <;> rfl
    rw [this]
    rw [h3] at n3
    simp -implicitDefEqProofs [-inF_tup, -ap_intS, F_state_in, runB, m_state_in, e0, ln, x0, x1, x3, x4, s3, s4, n3, n4, q1, in1', encT, setVs]
    rfl
  | some zs =>
  cases h4 : numsV (Txt.split e ",") with
  | none =>
    have : stateV [a, b, c, d, e] = none := by simp only [stateV, h3, h4]; split <;> rfl
    rw [this]
    rw [h3] at n3
    rw [h4] at n4
    simp -implicitDefEqProofs [-inF_tup, -ap_intS, F_state_in, runB, m_state_in, e0, ln, x0, x1, x3, x4, s3, s4, n3, n4, q1, in1', encT, setVs]
    rfl
  | some os =>
    rw [h3] at n3
    rw [h4] at n4
    by_cases q3 : c = "-"
    · have : stateV [a, b, c, d, e] = some ⟨if b = "1" then 1 else 0, none, zs, os⟩ := by simp only [stateV, h3, h4, q1, q2, q3, and_self, if_true]
      rw [this]
      simp -implicitDefEqProofs [-inF_tup, -ap_intS, F_state_in, runB, m_state_in, e0, ln, x0, x1, x2, x3, x4, s3, s4, n3, n4, q1, in1', encT, setVs, q3, ib]
      rfl
    · by_cases q4 : nameB c = true
      · have : stateV [a, b, c, d, e] = some ⟨if b = "1" then 1 else 0, some c, zs, os⟩ := by simp only [stateV, h3, h4, q1, q2, q3, q4, and_self, if_true, if_false]
        rw [this]
        simp -implicitDefEqProofs [-inF_tup, -ap_intS, F_state_in, runB, m_state_in, e0, ln, x0, x1, x2, x3, x4, s3, s4, n3, n4, q1, in1', encT, setVs, q3, ib, nm, q4]
        rfl
      · have : stateV [a, b, c, d, e] = none := by simp only [stateV, h3, h4, q1, q2, q3, q4, and_self, if_true, if_false]; rfl
        rw [this]
        have q4' : nameB c = false := by simpa using q4
        simp -implicitDefEqProofs [-inF_tup, -ap_intS, F_state_in, runB, m_state_in, e0, ln, x0, x1, x2, x3, x4, s3, s4, n3, n4, q1, in1', encT, setVs, q3, nm, q4']
        rfl
def startV (ws : List Str) : Option (List Int) := if ws.head? = some "start" ∧ 2 ≤ ws.length then numsV (ws.drop 1) else none
def lineV (l : Str) : Option Sta := stateV (Txt.split l " ")
def badP (p : Str × Nat) : Bool := (lineV p.1).isNone
def readE (t : Str) : Option Er × Cu :=
  match startV (Txt.split ((Txt.split t "\n").headD "") " ") with
  | none => (some (.txt 0), ⟨[], []⟩)
  | some st => match ((Txt.split t "\n").drop 1).zipIdx.find? badP with
    | some p => (some (.txt (p.2 + 1)), ⟨[], []⟩)
    | none => if (Txt.split t "\n").drop 1 = [] then (some (.txt 1), ⟨[], []⟩) else (custErr ⟨((Txt.split t "\n").drop 1).filterMap lineV, st⟩, ⟨((Txt.split t "\n").drop 1).filterMap lineV, st⟩)
theorem isN_encS (z : Z) (o : Option Sta) : isN z (encS o) .non = some o.isNone := by cases o <;> rfl
theorem isN_encT (z : Z) (o : Option (List Int)) : isN z (encT o) .non = some o.isNone := by cases o <;> rfl
theorem drop1 (ws : List Str) : cutL (ws.map D.str) (some 1) none = (ws.drop 1).map D.str := by
  rw [cutL_map']
  unfold cutL
  have e1 : HT.sIx ws.length 0 (some 1) = min 1 ws.length := HT.sIx_nat _ _ 1
  have e2 : HT.sIx ws.length ws.length none = ws.length := rfl
  rw [e1, e2]
  cases ws with
  | nil => rfl
  | cons a r => simp
theorem ok_drop {ws : List Str} (h : Ok1 ws) : Ok1 (ws.drop 1) := ⟨by have := h.1; simp; omega, fun w hw => h.2 w (List.mem_of_mem_drop hw)⟩
theorem starts_in_spec (ws : List Str) (z : Z) (h : Ok1 ws) (hne : ws ≠ []) : F_starts_in [.lst (ws.map .str)] z = .ok (encT (startV ws)) z := by
  obtain ⟨a, r, rfl⟩ := List.exists_cons_of_ne_nil hne
  have e0 : startE 1 [.lst ((a :: r).map D.str)] = [some (.sh (.lst ((a :: r).map D.str)))] := rfl
  have x0 : ∀ z, ixD z (.lst ((a :: r).map D.str)) (.int 0) = some (.str a) := fun z => atI_ofNat ((a :: r).map D.str) 0 (by simp)
  have ln : ∀ z, lenD z [.lst ((a :: r).map D.str)] = some (.int ((r.length : Int) + 1)) := fun z => by simp [lenD]
  have nn : ∀ z, F_numbers_in [.lst (r.map .str)] z = .ok (encT (numsV r)) z := fun z => numbers_in_spec _ z (ok_drop h)
  have dr : cutL ((a :: r).map D.str) (some 1) none = r.map D.str := drop1 (a :: r)
  have dr' : ∀ z, slL z (.lst ((a :: r).map D.str)) (some 1) none = some (r.map D.str) := fun z => by
    show some (cutL _ _ _) = _
    rw [dr]
  generalize (a :: r).map D.str = W at *
  by_cases q1 : a = "start"
  · by_cases q2 : 1 ≤ r.length
    · have i2 : (1 : Int) < (r.length : Int) + 1 := by omega
      have : startV (a :: r) = numsV r := if_pos ⟨by simp [q1], by simp only [List.length_cons]; omega⟩
      rw [this]
      simp -implicitDefEqProofs [F_starts_in, runB, m_starts_in, e0, x0, ln, q1, i2, dr', nn]
    · have i2 : ¬ (1 : Int) < (r.length : Int) + 1 := by omega
      have : startV (a :: r) = none := if_neg fun hh => by
        have := hh.2
        simp only [List.length_cons] at this
        omega
      rw [this]
      simp -implicitDefEqProofs [F_starts_in, runB, m_starts_in, e0, x0, ln, q1, i2]
      rfl
  · have : startV (a :: r) = none := by simp [startV, q1]
    rw [this]
    simp -implicitDefEqProofs [F_starts_in, runB, m_starts_in, e0, x0, ln, q1]
    rfl
theorem zip_at {L : List Str} {pre post : List (Str × Nat)} {x : Str × Nat} (h : L.zipIdx = pre ++ x :: post) : x.2 = pre.length ∧ L[pre.length]? = some x.1 := by
  have h1 : L.zipIdx[pre.length]? = some x := by rw [h]; simp
  rw [List.getElem?_zipIdx] at h1
  cases hl : L[pre.length]? with
  | none => rw [hl] at h1; cases h1
  | some a =>
    rw [hl] at h1
    cases h1
    simp
theorem all_some {L : List Str} (h : L.zipIdx.find? badP = none) : L.zipIdx.map (fun p => encS (lineV p.1)) = (L.filterMap lineV).map Sta.enc := by
  have h1 : ∀ l ∈ L, (lineV l).isSome = true := fun l hl => by
    obtain ⟨i, hi, e⟩ := List.mem_iff_getElem.mp hl
    have hm : (l, i) ∈ L.zipIdx := by
      rw [List.mem_zipIdx_iff_getElem?]
      simp [hi, e]
    have := List.find?_eq_none.mp h (l, i) hm
    cases hq : lineV l with
    | none => simp [badP, hq] at this
    | some _ => rfl
  have h2 : L.zipIdx.map (fun p => encS (lineV p.1)) = L.map fun l => encS (lineV l) := by
    rw [show (fun p : Str × Nat => encS (lineV p.1)) = (fun l => encS (lineV l)) ∘ Prod.fst from rfl, ← List.map_map, List.zipIdx_map_fst]
  rw [h2]
  clear h h2
  induction L with
  | nil => rfl
  | cons a L ih =>
    have ha := h1 a List.mem_cons_self
    obtain ⟨s, hs⟩ := Option.isSome_iff_exists.mp ha
    rw [List.map_cons, List.filterMap_cons, hs]
    simp only [List.map_cons]
    rw [ih fun l hl => h1 l (List.mem_cons_of_mem _ hl)]
    rfl
theorem nums_len {ws : List Str} {r : List Int} (h : numsV ws = some r) : r.length = ws.length := by
  unfold numsV at h
  split at h
  · cases h; simp
  · cases h
theorem state_bnd {ws : List Str} (h : Ok1 ws) {s : Sta} (hs : stateV ws = some s) : (∀ x, s.belief = some x → x.length ≤ 900) ∧ s.zeros.length ≤ 900 ∧ s.ones.length ≤ 900 := by
  match ws, h, hs with
  | [a, b, c, d, e], h, hs =>
    have hc := h.2 c (by simp)
    have hd := (split_ok d "," l_com (h.2 d (by simp))).1
    have he := (split_ok e "," l_com (h.2 e (by simp))).1
    have hd2 := (split_len d "," l_com).1
    have he2 := (split_len e "," l_com).1
    have hd3 := h.2 d (by simp)
    have he3 := h.2 e (by simp)
    simp only [stateV] at hs
    split at hs
    · split at hs
      · rename_i zs os h3 h4
        have l3 := nums_len h3
        have l4 := nums_len h4
        split at hs
        · cases hs
          exact ⟨by simp, by simp only; omega, by simp only; omega⟩
        · split at hs
          · cases hs
            exact ⟨fun x hx => by cases hx; omega, by simp only; omega, by simp only; omega⟩
          · cases hs
      · cases hs
    · cases hs
theorem cu_bnd {t : Str} (ht : t.length ≤ 640) {st : List Int} (h : startV (Txt.split ((Txt.split t "\n").headD "") " ") = some st) : Bnd ⟨((Txt.split t "\n").drop 1).filterMap lineV, st⟩ := by
  have hl := split_len t "\n" l_new
  have ho := split_ok t "\n" l_new ht
  have hst : st.length ≤ 900 := by
    unfold startV at h
    split at h
    · have h1 := nums_len h
      have h2 : ((Txt.split t "\n").headD "").length ≤ 640 := by
        cases hq : Txt.split t "\n" with
        | nil => exact (by decide +kernel : ("" : Str).length ≤ 640)
        | cons a r => exact ho.2 a (by rw [hq]; simp)
      have h3 := (split_len ((Txt.split t "\n").headD "") " " l_spc).1
      rw [List.length_drop] at h1
      omega
    · cases h
  have hs : ∀ s ∈ ((Txt.split t "\n").drop 1).filterMap lineV, ∃ l, l.length ≤ 640 ∧ lineV l = some s := fun s hs => by
    obtain ⟨l, hl1, hl2⟩ := List.mem_filterMap.mp hs
    exact ⟨l, ho.2 l (List.mem_of_mem_drop hl1), hl2⟩
  have hb : ∀ s ∈ ((Txt.split t "\n").drop 1).filterMap lineV, (∀ x, s.belief = some x → x.length ≤ 900) ∧ s.zeros.length ≤ 900 ∧ s.ones.length ≤ 900 := fun s hm => by
    obtain ⟨l, h1, h2⟩ := hs s hm
    exact state_bnd (split_ok l " " l_spc h1) h2
  refine ⟨?_, hst, fun s hm => (hb s hm).1, fun s hm => (hb s hm).2.1, fun s hm => (hb s hm).2.2⟩
  have := List.length_filterMap_le lineV ((Txt.split t "\n").drop 1)
  rw [List.length_drop] at this
  show (((Txt.split t "\n").drop 1).filterMap lineV).length ≤ 900
  omega
theorem ok_ints2 (r : List Int) (n : Nat) : okD (n + 1) (.tup (r.map D.int)) = true := by
  unfold okD
  exact okL_map fun _ _ => by simp [okD]
theorem line_okD {l : Str} {s : Sta} (h : lineV l = some s) : okD 2 (Sta.enc s) = true := by
  have hb : ∀ x, s.belief = some x → nameB x = true := by
    unfold lineV at h
    match hq : Txt.split l " ", h with
    | [a, b, c, d, e], h =>
      simp only [stateV] at h
      split at h
      · split at h
        · split at h
          · cases h
            simp
          · split at h
            · cases h
              rename_i hn
              intro x hx
              cases hx
              exact hn
            · cases h
        · cases h
      · cases h
  have h2 : okD 1 (encB s.belief) = true := by
    cases hq : s.belief with
    | none => rfl
    | some x => exact name_strOk (hb x hq)
  unfold Sta.enc encR
  unfold okD
  simp only [okL, h2, ok_ints2, Bool.and_self, Bool.and_true]
  rfl
theorem empty_eq (L : List Str) (z : Z) : eqD z (.lst ((L.filterMap lineV).map Sta.enc)) (.lst []) = some (decide (L.filterMap lineV = [])) := by
  have h1 : okD 3 (.lst ((L.filterMap lineV).map Sta.enc)) = true := by
    unfold okD
    exact okL_map fun s hs => by
      obtain ⟨l, _, hl⟩ := List.mem_filterMap.mp hs
      exact line_okD hl
  rw [eqD_ok z h1 (e := .lst []) (m := 1) (by simp [okD, okL])]
  congr 1
  rw [decide_eq_decide]
  constructor
  · intro h
    have := D.lst.inj h
    exact List.map_eq_nil_iff.mp this
  · intro h
    rw [h]
    rfl
theorem fm_nil {L : List Str} (h : L.zipIdx.find? badP = none) : L.filterMap lineV = [] ↔ L = [] := by
  have h1 := congrArg List.length (all_some h)
  simp only [List.length_map, List.length_zipIdx] at h1
  constructor
  · intro h2
    rw [h2] at h1
    exact List.length_eq_zero_iff.mp h1
  · rintro rfl
    rfl
theorem head_ok {t : Str} (ht : t.length ≤ 640) : ∃ a L, Txt.split t "\n" = a :: L ∧ a.length ≤ 640 ∧ Ok1 (Txt.split a " ") ∧ ∀ l ∈ L, l.length ≤ 640 := by
  have ho := split_ok t "\n" l_new ht
  obtain ⟨a, L, e⟩ := List.exists_cons_of_ne_nil (split_ne t "\n")
  rw [e] at ho
  have ha := ho.2 a (by simp)
  exact ⟨a, L, e, ha, split_ok a " " l_spc ha, fun l hl => ho.2 l (by simp [hl])⟩
theorem readC_spec (t : Str) (z : Z) (ht : t.length ≤ 640) (hz : Zlow z) : match (readE t).1 with
    | some e => ∃ z', (z' = z ∨ z' = z ++ [.ins 26 []]) ∧ F_read_custom [.str t] z = .exc e.xd z'
    | none => F_read_custom [.str t] z = .ok (custD (readE t).2) z := by
  have hB := fun st h => cu_bnd (t := t) ht (st := st) h
  obtain ⟨a, L, e, ha, hw, hL⟩ := head_ok ht
  have e0 : startE 6 [.str t] = [some (.sh (.str t)), none, none, none, none, none] := rfl
  have sp := splitD_ok t "\n" l_new ht
  have sa := splitD_ok a " " l_spc ha
  have hlen : L.length ≤ 900 := by
    have := (split_len t "\n" l_new).1
    rw [e] at this
    simp only [List.length_cons] at this
    omega
  unfold readE
  rw [e] at hB sp ⊢
  simp only [List.headD_cons, List.drop_succ_cons, List.drop_zero] at hB ⊢
  have x0 : ∀ z, ixD z (.lst ((a :: L).map D.str)) (.int 0) = some (.str a) := fun z => atI_ofNat ((a :: L).map D.str) 0 (by simp)
  have dr : ∀ z, slL z (.lst ((a :: L).map D.str)) (some 1) none = some (L.map D.str) := fun z => by
    show some (cutL _ _ _) = _
    rw [drop1]
    rfl
  have st := fun z => starts_in_spec (Txt.split a " ") z hw (split_ne a " ")
  cases hs : startV (Txt.split a " ") with
  | none =>
    rw [hs] at st
    refine ⟨z, .inl rfl, ?_⟩
    simp -implicitDefEqProofs [F_read_custom, runB, m_read_custom, e0, sp, x0, sa, st, setVs, encT, xGoD, Er.xd, -List.map_cons]
  | some s =>
    rw [hs] at st
    have hB := hB s hs
    simp only
    generalize hW : (a :: L).map D.str = W at *
    have L1 := forGo_findA (z := z) (g := tupT 2 (consT (setE 4) (consT (setE 5) nilT)))
      (body := (sSeq (sOwnM 3 appendF (mCons (mApp 1 F_state_in (mCons (mFz (mSplit (mVar 5) (mRet (.str " ")))) mNil)) mNil))
    (sIf (mOp2 isN (mOp2 ixD (mVarB 3) (mVar 4)) (mRet .non)) (sRaise 16 1 [("word", .inl "InvalidText"), ("line", .inr 0)] (mCons (mOp2 addD (mVar 4) (mRet (.int 1))) mNil)) sNx)))
      (fun p : Str × Nat => .tup [.int (p.2 : Int), .str p.1]) badP
      (fun pre ρ => ∃ u v, ρ = [some (.sh (.str t)), some (.sh (.lst W)), some (.sh (.tup (s.map D.int))), some (.own (.lst (pre.map fun p => encS (lineV p.1)))), u, v])
      (fun p r => ∃ ρ', r = .exc (Er.txt (p.2 + 1)).xd ρ' z) (by rintro p r ⟨ρ', rfl⟩; trivial)
      L.zipIdx L.zipIdx [] [some (.sh (.str t)), some (.sh (.lst W)), some (.sh (.tup (s.map D.int))), some (.own (.lst [])), none, none] rfl ⟨_, _, rfl⟩ (by
        rintro pre ⟨l, i⟩ post ρ hall ⟨u, v, rfl⟩
        obtain ⟨hi, hli⟩ := zip_at hall
        simp only at hi hli
        have hl : l.length ≤ 640 := hL l (List.mem_of_getElem? hli)
        have hp : pre.length < 900 := by
          have := (List.getElem?_eq_some_iff.mp hli).1
          omega
        have sl := splitD_ok l " " l_spc hl
        have sv := fun z => state_in_spec (Txt.split l " ") z (split_ok l " " l_spc hl)
        have nx := isN_encS
        have at1 : atI (pre.map (fun p => encS (lineV p.1)) ++ [encS (lineV l)]) (i : Int) = some (encS (lineV l)) := by
          rw [hi, atI_ofNat _ _ (by simp)]
          simp
        refine ⟨[some (.sh (.str t)), some (.sh (.lst W)), some (.sh (.tup (s.map D.int))), some (.own (.lst (pre.map fun p => encS (lineV p.1)))), some (.sh (.int i)), some (.sh (.str l))], by simp, ?_⟩
        have hlv : stateV (Txt.split l " ") = lineV l := rfl
        rw [hlv] at sv
        have hpl : pre.length < sizeLine := lt_line (by omega)
        cases hq : lineV l with
        | none =>
          rw [hq] at sv at1
          refine ⟨fun _ => ⟨_, by simp -implicitDefEqProofs [sl, sv, hpl, at1, nx, xGoD, Er.xd]; rfl⟩, fun h => ?_⟩
          simp [badP, hq] at h
        | some q =>
          rw [hq] at sv at1
          refine ⟨fun h => ?_, fun _ => ⟨[some (.sh (.str t)), some (.sh (.lst W)), some (.sh (.tup (s.map D.int))), some (.own (.lst (pre.map (fun p => encS (lineV p.1)) ++ [encS (some q)]))), some (.sh (.int i)), some (.sh (.str l))], by simp -implicitDefEqProofs [sl, sv, hpl, at1, nx], some (.sh (.int i)), some (.sh (.str l)), by simp [hq]⟩⟩
          simp [badP, hq] at h)
    rw [← enumD_map D.str L] at L1
    rcases L1 with ⟨p, hf, ρ', hr⟩ | ⟨hf, ρ', hr, u, v, rfl⟩
    · rw [hf]
      refine ⟨z, .inl rfl, ?_⟩
      simp -implicitDefEqProofs [F_read_custom, runB, m_read_custom, e0, sp, x0, sa, st, setVs, encT, dr, hr]
    · rw [hf]
      simp only
      rw [all_some hf] at hr
      have em := fun z => empty_eq L z
      by_cases c : L = []
      · rw [if_pos c]
        have c2 := (fm_nil hf).mpr c
        have em' : ∀ z, eqD z (.lst ((L.filterMap lineV).map Sta.enc)) (.lst []) = some true := fun z => by rw [em]; simp [c2]
        refine ⟨z, .inl rfl, ?_⟩
        simp -implicitDefEqProofs [F_read_custom, runB, m_read_custom, e0, sp, x0, sa, st, setVs, encT, dr, hr, em', xGoD, Er.xd]
      · rw [if_neg c]
        have c2 : ¬ L.filterMap lineV = [] := fun h => c ((fm_nil hf).mp h)
        have em' : ∀ z, eqD z (.lst ((L.filterMap lineV).map Sta.enc)) (.lst []) = some false := fun z => by rw [em]; simp [c2]
        have N := custom_new ⟨L.filterMap lineV, s⟩ z hB hz
        simp only at N
        have N2 : mNewF 26 3 F_Custom___init__ (mCons (mVar 3) (mCons (mVar 2) mNil)) [some (.sh (.str t)), some (.sh (.lst W)), some (.sh (.tup (s.map D.int))), some (.sh (.lst ((L.filterMap lineV).map Sta.enc))), u, v] z = match custErr ⟨L.filterMap lineV, s⟩ with
            | some e => .exc e.xd (z ++ [.ins 26 []])
            | none => .ok (custD ⟨L.filterMap lineV, s⟩) z := by
          have hml : (mCons (mVar 3) (mCons (mVar 2) mNil)) [some (.sh (.str t)), some (.sh (.lst W)), some (.sh (.tup (s.map D.int))), some (.sh (.lst ((L.filterMap lineV).map Sta.enc))), u, v] z = .ok [.lst ((L.filterMap lineV).map Sta.enc), .tup (s.map D.int)] z := by simp
          rw [ap_newF, hml, rb_ok]
          exact N
        simp only
        cases hc : custErr ⟨L.filterMap lineV, s⟩ with
        | some er =>
          rw [hc] at N2
          exact ⟨_, .inr rfl, by simp -implicitDefEqProofs [-ap_newF, F_read_custom, runB, m_read_custom, e0, sp, x0, sa, st, setVs, encT, dr, hr, em', N2]⟩
        | none =>
          rw [hc] at N2
          simp -implicitDefEqProofs [-ap_newF, F_read_custom, runB, m_read_custom, e0, sp, x0, sa, st, setVs, encT, dr, hr, em', N2]
theorem min_comm (a b : Str) : minS a b = minS b a ∧ maxS a b = maxS b a := by
  unfold minS maxS
  cases h1 : sltS b a with
  | true => have h2 := sltS_asym h1; simp [h2]
  | false =>
    cases h2 : sltS a b with
    | true => simp
    | false => have e := sltS_tot h1 h2; subst e; simp
theorem ord_idem (a b : Str) : ordW [minS a b, maxS a b] = [minS a b, maxS a b] := by
  show [minS (minS a b) (maxS a b), maxS (minS a b) (maxS a b)] = _
  have h3 : minS a b = if sltS b a = true then b else a := rfl
  have h4 : maxS a b = if sltS a b = true then b else a := rfl
  cases h1 : sltS b a with
  | true =>
    have h2 := sltS_asym h1
    rw [h1, if_pos rfl] at h3
    rw [h2, if_neg (by simp)] at h4
    rw [h3, h4]
    unfold minS maxS
    simp [h1, h2]
  | false =>
    rw [h1, if_neg (by simp)] at h3
    cases h2 : sltS a b with
    | true =>
      rw [h2, if_pos rfl] at h4
      rw [h3, h4]
      unfold minS maxS
      simp [h1, h2]
    | false =>
      have e := sltS_tot h1 h2
      subst e
      rw [h2, if_neg (by simp)] at h4
      rw [h3, h4]
      unfold minS maxS
      simp [h1]
def RowOk (k : List Str) : Prop := goodW k = true ∧ ordW k = k
theorem rowOk_of {a b : Str} (ha : nameB a = true) (hb : nameB b = true) : RowOk [minS a b, maxS a b] := by
  refine ⟨?_, ord_idem a b⟩
  show (nameB (minS a b) && nameB (maxS a b)) = true
  unfold minS maxS
  split <;> split <;> simp [ha, hb]
theorem RowOk.okK {k : List Str} (h : RowOk k) : OkK k := by
  obtain ⟨a, b, rfl, ha, hb⟩ := goodW_two h.1
  exact ⟨a, b, rfl, name_strOk ha, name_strOk hb, name_short ha, name_short hb⟩
def Rows (rows : List (List Str)) : Prop := ∀ k ∈ rows, RowOk k
theorem Rows.okK {rows : List (List Str)} (h : Rows rows) : ∀ k ∈ rows, OkK k := fun k hk => (h k hk).okK
theorem Rows.sort {ks : List (List Str)} (h : Rows ks) : Rows (sortT ks) := fun k hk => h k (mem_sortT.mp hk)
theorem rows_ord {rows : List (List Str)} (h : Rows rows) : rows.map ordW = rows := by
  induction rows with
  | nil => rfl
  | cons k ks ih => rw [List.map_cons, (h k (by simp)).2, ih fun j hj => h j (by simp [hj])]
theorem sortT_congr {a b : List (List Str)} (h : ∀ j, j ∈ a ↔ j ∈ b) : sortT a = sortT b := sortT_uniq pw_sortT pw_sortT fun j => by rw [mem_sortT, mem_sortT]; exact h j
def tupP (rows : List (List Str)) : List PV := rows.map fun k => (false, k)
theorem tupP_enc (rows : List (List Str)) : (tupP rows).map encP = rows.map tdS := by
  rw [tupP, List.map_map]
  rfl
theorem row_len {k : List Str} (h : goodW k = true) : k.length ≤ 900 ∧ ∀ x ∈ k, x.length ≤ 900 := by
  obtain ⟨a, b, rfl, ha, hb⟩ := goodW_two h
  have h1 := name_short ha
  have h2 := name_short hb
  refine ⟨by simp, fun x hx => ?_⟩
  simp only [List.mem_cons, List.not_mem_nil, or_false] at hx
  rcases hx with rfl | rfl <;> omega
theorem bnd_good {ps : List PV} (h : ∀ p ∈ ps, goodW p.2 = true) (hl : ps.length < 64) : PBnd ps :=
  ⟨hl, fun p hp => (row_len (h p hp)).1, fun p hp => (row_len (h p hp)).2⟩
theorem parBad_none {ps : List PV} (h : ∀ p ∈ ps, goodW p.2 = true) : parBad ps = none := by
  unfold parBad
  have : ps.zipIdx.find? (fun p => !goodW p.1.2) = none := List.find?_eq_none.mpr fun p hp => by
    have := h p.1 (List.mem_of_getElem? (zip_mem hp))
    simp [this]
  rw [this]
  rfl
theorem rule_good (ps : List PV) (z : Z) (h : ∀ p ∈ ps, goodW p.2 = true) (hl : ps.length < 64) (hz : Zlow z) : newTo 27 z.length (F_Rule___init__ [.mob z.length, .tup (ps.map encP)] (z ++ [.ins 27 []])) = .ok (ruleD (rowsOf ps)) z := by
  rw [rule_new ps z (bnd_good h hl) hz, parBad_none h]
theorem rows_at (rows : List (List Str)) (z : Z) : fldD 27 "rows" z (ruleD rows) = some (.lst (rows.map tdS)) := rfl
theorem new_ok {ρ : En} {z : Z} {ml : M (List D)} (ps : List PV) (hm : ml ρ z = .ok (ps.map encP) z) (h : ∀ p ∈ ps, goodW p.2 = true) (hl : ps.length < 64) (hz : Zlow z) : mNewFV 27 1 F_Rule___init__ ml ρ z = .ok (ruleD (rowsOf ps)) z := by
  have n := rule_good ps z h hl hz
  have sl : (ps.map encP).length + 1 ≤ 1 + sizeLine := by rw [List.length_map, sizeLine_eq]; omega
  rw [ap_newFV, hm]
  simp only [rb_ok]
  rw [if_pos ⟨by omega, sl⟩]
  exact n
theorem new_bad {ρ : En} {z : Z} {ml : M (List D)} (ps : List PV) (e : Er) (hm : ml ρ z = .ok (ps.map encP) z) (h : parBad ps = some e) (B : PBnd ps) (hz : Zlow z) : mNewFV 27 1 F_Rule___init__ ml ρ z = .exc e.xd (z ++ [.ins 27 []]) := by
  have n := rule_new ps z B hz
  rw [h] at n
  have sl : (ps.map encP).length + 1 ≤ 1 + sizeLine := by rw [List.length_map, sizeLine_eq]; have := B.n; omega
  rw [ap_newFV, hm]
  simp only [rb_ok]
  rw [if_pos ⟨by omega, sl⟩]
  exact n
theorem rowsOf_tup {rows : List (List Str)} (h : Rows rows) (more : List PV) : rowsOf (tupP rows ++ more) = sortT (rows ++ more.map fun p => ordW p.2) := by
  rw [rowsOf, List.map_append]
  have e : (tupP rows).map (fun p => ordW p.2) = rows := by
    rw [tupP, List.map_map]
    exact rows_ord h
  rw [e]
theorem good_tup {rows : List (List Str)} (h : Rows rows) {more : List PV} (hm : ∀ p ∈ more, goodW p.2 = true) : ∀ p ∈ tupP rows ++ more, goodW p.2 = true := fun p hp => by
  rcases List.mem_append.mp hp with hp | hp
  · obtain ⟨k, hk, rfl⟩ := List.mem_map.mp hp
    exact (h k hk).1
  · exact hm p hp
theorem add_ok (rows : List (List Str)) (p : PV) (z : Z) (h : Rows rows) (hp : goodW p.2 = true) (hl : rows.length < 60) (hz : Zlow z) : F_Rule___add__ [ruleD rows, encP p] z = .ok (ruleD (sortT (rows ++ [ordW p.2]))) z := by
  have e0 : startE 2 [ruleD rows, encP p] = [some (.sh (ruleD rows)), some (.sh (encP p))] := rfl
  have ip := fun z => is_pair_spec p z (row_len hp).1 (row_len hp).2
  rw [hp] at ip
  have N := new_ok (ρ := [some (.sh (ruleD rows)), some (.sh (encP p))]) (z := z) (ml := mStar (mOp1 (fldD 27 "rows") (mVar 0)) (mCons (mVar 1) mNil)) (tupP rows ++ [p]) (by
    rw [List.map_append, tupP_enc]
    have ra := fun z => rows_at rows z
    generalize ruleD rows = R at *
    simp -implicitDefEqProofs [ra, sqOf]) (good_tup h (by simpa using hp)) (by simp [tupP]; omega) hz
  rw [rowsOf_tup h] at N
  generalize ruleD rows = R at *
  generalize encP p = P at *
  simp -implicitDefEqProofs [-ap_newFV, F_Rule___add__, runB, m_Rule___add__, e0, ip, N]
theorem add_bad (R : D) (p : PV) (z : Z) (hp : goodW p.2 = false) (h1 : p.2.length ≤ 900) (h2 : ∀ x ∈ p.2, x.length ≤ 900) : F_Rule___add__ [R, encP p] z = .exc (Er.par 0).xd z := by
  have e0 : startE 2 [R, encP p] = [some (.sh R), some (.sh (encP p))] := rfl
  have ip := fun z => is_pair_spec p z h1 h2
  rw [hp] at ip
  generalize encP p = P at *
  simp -implicitDefEqProofs [-ap_newFV, F_Rule___add__, runB, m_Rule___add__, e0, ip, xGoD, Er.xd]
theorem pairs_ok (rows : List (List Str)) (z : Z) : F_Rule_pairs [ruleD rows] z = .ok (.lst (rows.map tdS)) z := rfl
theorem bool_ok (rows : List (List Str)) (z : Z) : F_Rule___bool__ [ruleD rows] z = .ok (.bl (!rows.isEmpty)) z := by
  cases rows <;> rfl
theorem tdS_inj {a b : List Str} (h : tdS a = tdS b) : a = b := by
  have := congrArg (fun d => match d with | D.tup ds => strsD ds | _ => none) h
  simpa [tdS, strsD_map] using this
theorem rowsD_inj {a b : List (List Str)} (h : a.map tdS = b.map tdS) : a = b := (List.map_inj_right fun _ _ => tdS_inj).mp h
theorem eq_rows (a b : List (List Str)) (z : Z) (ha : Rows a) (hb : Rows b) : eqD z (.lst (a.map tdS)) (.lst (b.map tdS)) = some (decide (a = b)) := by
  rw [eqD_ok z (rows_rp ha.okK).2 (rows_rp hb.okK).2]
  congr 1
  by_cases h : a = b
  · subst h; simp
  · have : ¬ (D.lst (a.map tdS) = D.lst (b.map tdS)) := fun e => h (rowsD_inj (D.lst.inj e))
    simp [h, this]
theorem eq_ok (r1 r2 : List (List Str)) (z : Z) (h1 : Rows r1) (h2 : Rows r2) : F_Rule___eq__ [ruleD r1, ruleD r2] z = .ok (.bl (decide (r1 = r2))) z := by
  have e0 : startE 2 [ruleD r1, ruleD r2] = [some (.sh (ruleD r1)), some (.sh (ruleD r2))] := rfl
  have ra := fun z => rows_at r1 z
  have rb := fun z => rows_at r2 z
  have ic : ∀ z, isiC 27 z (ruleD r2) = some (.bl true) := fun _ => rfl
  have eq := fun z => eq_rows r1 r2 z h1 h2
  generalize ruleD r1 = R1 at *
  generalize ruleD r2 = R2 at *
  simp -implicitDefEqProofs [F_Rule___eq__, runB, m_Rule___eq__, e0, ra, rb, ic, eq]
def wsV (x : Str) : List (List Str) := (Txt.split x "; ").map fun p => Txt.split p " "
def psV (x : Str) : List PV := (wsV x).map fun ws => (false, ws)
def readV (x : Str) : Option (List (List Str)) := if x = "-" then some [] else if (wsV x).all goodW then some (sortT ((wsV x).map ordW)) else none
theorem splitD_ok2 (x : Str) (hx : x.length ≤ 120) (z : Z) : splitD z (.str x) (.str "; ") = some ((Txt.split x "; ").map .str) := split_str z x "; " (by decide +kernel) (by omega)
theorem ws_len (x : Str) (hx : x.length ≤ 120) : (wsV x).length ≤ 61 ∧ ∀ ws ∈ wsV x, ws.length ≤ 121 ∧ ∀ w ∈ ws, w.length ≤ 120 := by
  obtain ⟨h1, _, h3⟩ := split_len2 x "; " l_sem
  refine ⟨by simp only [wsV, List.length_map]; omega, fun ws hws => ?_⟩
  obtain ⟨p, hp, rfl⟩ := List.mem_map.mp hws
  have hl := h3 p hp
  obtain ⟨g1, _, g3⟩ := split_len p " " l_spc
  exact ⟨by omega, fun w hw => by have := g3 w hw; omega⟩
theorem ps_bnd (x : Str) (hx : x.length ≤ 120) : PBnd (psV x) := by
  obtain ⟨h1, h2⟩ := ws_len x hx
  refine ⟨by simp only [psV, List.length_map]; omega, fun p hp => ?_, fun p hp => ?_⟩
  · obtain ⟨ws, hw, rfl⟩ := List.mem_map.mp hp
    have := (h2 ws hw).1
    simp only
    omega
  · obtain ⟨ws, hw, rfl⟩ := List.mem_map.mp hp
    intro y hy
    have := (h2 ws hw).2 y hy
    omega
theorem readR_spec (x : Str) (z : Z) (hx : x.length ≤ 120) (hz : Zlow z) : F_read_rule [.str x] z = match readV x with
    | some rows => .ok (ruleD rows) z
    | none => .exc (Er.txt 0).xd z := by
  have e0 : startE 5 [.str x] = [some (.sh (.str x)), none, none, none, none] := rfl
  unfold readV
  by_cases c0 : x = "-"
  · rw [if_pos c0]
    have n0 := rule_new [] z ⟨by simp, fun _ h => (nomatch h), fun _ h => (nomatch h)⟩ hz
    have n1 : newTo 27 z.length (F_Rule___init__ [.mob z.length, .tup []] (z ++ [.ins 27 []])) = .ok (ruleD []) z := n0
    have sl : (1 : Nat) ≤ 1 + sizeLine := by omega
    simp -implicitDefEqProofs [F_read_rule, runB, m_read_rule, e0, eq_true c0, n1]
  rw [if_neg c0]
  obtain ⟨h1, h2⟩ := ws_len x hx
  have sp := splitD_ok2 x hx
  have l1 : ∀ z1, lcGo (setE 2) (mRet true) (mCall tupleD (mCons (mFz (mSplit (mVar 2) (mRet (.str " ")))) mNil)) (wipeE [some (.sh (.str x)), none, none, none, none] [2]) ((Txt.split x "; ").map D.str) [] z1 = .ok ((psV x).map encP) z1 := fun z1 => by
    have e : (psV x).map encP = (Txt.split x "; ").map fun p => D.tup ((Txt.split p " ").map D.str) := by
      simp only [psV, wsV, List.map_map]
      rfl
    rw [e]
    refine lcGo_mapT D.str _ (Txt.split x "; ") (le_line' (by simp only [wsV, List.length_map] at h1; omega)) fun p hp => ⟨[some (.sh (.str x)), none, some (.sh (.str p)), none, none], by simp [wipeE], ?_⟩
    have hl := (split_len2 x "; " l_sem).2.2 p hp
    have s2 := splitD_ok p " " l_spc (by omega)
    simp -implicitDefEqProofs [s2, tupleD]
  generalize hW : wsV x = W at *
  have hP : psV x = W.map fun ws => (false, ws) := by rw [psV, hW]
  have l3 : ∀ (ws : List Str) (ρ4 : Option DV) z1, ws ∈ W → lcGo (setE 4) (mRet true) (mApp 1 F_is_name (mCons (mVar 4) mNil)) (wipeE [some (.sh (.str x)), some (.sh (.lst ((psV x).map encP))), none, some (.sh (.tup (ws.map D.str))), ρ4] [4]) (ws.map D.str) [] z1 = .ok (ws.map fun w => .bl (nameB w)) z1 := fun ws ρ4 z1 hws =>
    lcGo_mapT D.str _ ws (le_line' (by have := (h2 ws hws).1; omega)) fun w hw => ⟨[some (.sh (.str x)), some (.sh (.lst ((psV x).map encP))), none, some (.sh (.tup (ws.map D.str))), some (.sh (.str w))], by simp [wipeE], by
      have := is_name_bl w z1 (le_line' (by have := (h2 ws hws).2 w hw; omega))
      simp -implicitDefEqProofs [this]⟩
  have l2 : ∀ z1, lcGo (setE 3) (mRet true) (mAndV (mBl (mOp2 eqD (mCall lenD (mCons (mVar 3) mNil)) (mRet (.int 2)))) (mCall (allD (·.all id)) (mCons (mFz (mLc (mItems (mVar 3)) (setE 4) (mRet true) (mApp 1 F_is_name (mCons (mVar 4) mNil)) [4])) mNil)))
      (wipeE [some (.sh (.str x)), some (.sh (.lst ((psV x).map encP))), none, none, none] [3]) ((psV x).map encP) [] z1 = .ok (W.map fun ws => .bl (goodW ws)) z1 := fun z1 => by
    have e : (psV x).map encP = W.map fun ws => D.tup (ws.map D.str) := by
      rw [hP, List.map_map]
      rfl
    have key := lcGo_mapT (g := setE 3) (me := mAndV (mBl (mOp2 eqD (mCall lenD (mCons (mVar 3) mNil)) (mRet (.int 2)))) (mCall (allD (·.all id)) (mCons (mFz (mLc (mItems (mVar 3)) (setE 4) (mRet true) (mApp 1 F_is_name (mCons (mVar 4) mNil)) [4])) mNil)))
      (ρ := wipeE [some (.sh (.str x)), some (.sh (.lst ((psV x).map encP))), none, none, none] [3]) (z := z1) (fun ws : List Str => D.tup (ws.map D.str)) (fun ws => D.bl (goodW ws)) W (le_line' (by omega)) fun ws hws => ⟨[some (.sh (.str x)), some (.sh (.lst ((psV x).map encP))), none, some (.sh (.tup (ws.map D.str))), none], by simp [wipeE], by
        have l3' := l3 ws none z1 hws
        by_cases c : ws.length = 2
        · have i2 : (ws.length : Int) = 2 := by omega
          have al : allD (·.all id) z1 [.lst (ws.map fun w => .bl (nameB w))] = some (.bl (goodW ws)) := by
            have := allD_map nameB ws z1
            rw [this]
            match ws, c with
            | [a, b], _ => simp [goodW]
          simp -implicitDefEqProofs [i2, l3', al]
        · have i2 : ¬ ((ws.length : Int) = 2) := by omega
          have g : goodW ws = false := by
            match ws, c with
            | [], _ => rfl
            | [_], _ => rfl
            | [_, _], c => exact absurd rfl c
            | _ :: _ :: _ :: _, _ => rfl
          simp -implicitDefEqProofs [i2, g]⟩
    rw [← e] at key
    exact key
  have al2 : ∀ z1, allD (·.all id) z1 [.lst (W.map fun ws => .bl (goodW ws))] = some (.bl (W.all goodW)) := fun z1 => allD_map goodW W z1
  by_cases c1 : W.all goodW = true
  · rw [if_pos c1]
    have pb : parBad (psV x) = none := parBad_none fun p hp => by
      rw [hP] at hp
      obtain ⟨ws, hws, rfl⟩ := List.mem_map.mp hp
      exact List.all_eq_true.mp c1 ws hws
    have n0 := rule_new (psV x) z (ps_bnd x hx) hz
    rw [pb] at n0
    have ro : rowsOf (psV x) = sortT (W.map ordW) := by
      rw [rowsOf, hP, List.map_map]
      rfl
    rw [ro] at n0
    have sl : (psV x).length ≤ sizeLine := le_line' (by rw [hP, List.length_map]; omega)
    rw [c1] at al2
    have sl2 : ((psV x).map encP).length + 1 ≤ 1 + sizeLine := by rw [List.length_map]; omega
    generalize (psV x).map encP = PS at *
    simp -implicitDefEqProofs [F_read_rule, runB, m_read_rule, e0, eq_false c0, sp, l1, l2, al2, n0, sl2, sqOf]
  · rw [if_neg c1]
    have c1' : W.all goodW = false := by simpa using c1
    rw [c1'] at al2
    generalize (psV x).map encP = PS at *
    simp -implicitDefEqProofs [F_read_rule, runB, m_read_rule, e0, eq_false c0, sp, l1, l2, al2, xGoD, Er.xd]
theorem row_of {r : List Int} {n : Nat} (h : isRowB r 1 6 n = true) : r.length ≤ 6 ∧ ∀ x ∈ r, 0 ≤ x ∧ x < (n : Int) := by
  unfold isRowB at h
  simp only [Bool.and_eq_true, decide_eq_true_eq, List.all_eq_true] at h
  obtain ⟨⟨⟨h1, h2⟩, h3⟩, _⟩ := h
  exact ⟨by omega, h3⟩
theorem none_all {c : Cu} (h : custErr c = none) : c.states.length ≤ 240 ∧ (∀ s ∈ c.states, stBad c.states.length s = false) ∧ ∀ v ∈ c.starts, 0 ≤ v ∧ v < (c.states.length : Int) := by
  unfold custErr at h
  split at h
  · cases h
  rename_i h0
  have h0' : 1 ≤ c.states.length ∧ c.states.length ≤ 240 := Decidable.not_not.mp h0
  split at h
  · cases h
  rename_i h1
  split at h
  · cases h
  have h2 : c.starts.zipIdx.find? (startBad c.states.length c.starts) = none := by
    cases hq : c.starts.zipIdx.find? (startBad c.states.length c.starts) with
    | none => rfl
    | some p => rw [hq] at h; cases h
  refine ⟨h0'.2, fun s hs => ?_, fun v hv => ?_⟩
  · obtain ⟨i, hi, e⟩ := List.mem_iff_getElem.mp hs
    have hm : (s, i) ∈ c.states.zipIdx := by
      rw [List.mem_zipIdx_iff_getElem?]
      simp [hi, e]
    have := List.find?_eq_none.mp h1 (s, i) hm
    simpa using this
  · obtain ⟨i, hi, e⟩ := List.mem_iff_getElem.mp hv
    have hm : (v, i) ∈ c.starts.zipIdx := by
      rw [List.mem_zipIdx_iff_getElem?]
      simp [hi, e]
    have := List.find?_eq_none.mp h2 (v, i) hm
    simp only [startBad, Bool.or_eq_true, Bool.not_eq_true', Bool.and_eq_false_imp, decide_eq_true_eq, decide_eq_false_iff_not, not_or, Bool.not_eq_true] at this
    have h3 := this.1
    by_cases q : 0 ≤ v
    · refine ⟨q, ?_⟩
      have := fun hh => h3 fun _ => hh
      exact Decidable.not_not.mp this
    · exact absurd (fun hh => absurd hh q) h3
theorem good_sta {s : Sta} {n : Nat} (h : stBad n s = false) (hn : n ≤ 240) : rpD 2 (Sta.enc s) = true ∧ wt (Sta.enc s) ≤ 700 := by
  unfold stBad at h
  rw [Bool.or_eq_false_iff] at h
  obtain ⟨h1, h2⟩ := h
  simp only [Bool.not_eq_false', Bool.and_eq_true] at h2
  obtain ⟨z1, z2⟩ := row_of h2.1
  obtain ⟨o1, o2⟩ := row_of h2.2
  unfold hdBad at h1
  rw [Bool.or_eq_false_iff] at h1
  obtain ⟨h3, h4⟩ := h1
  have hb : ∀ x, s.belief = some x → PyData.strOk x = true ∧ x.length ≤ 8 := fun x hx => by
    rw [hx] at h4
    have h5 : nameB x = true := by simpa [nmBad] using h4
    refine ⟨name_strOk h5, ?_⟩
    unfold nameB at h5
    simp only [Bool.and_eq_true, decide_eq_true_eq] at h5
    omega
  have hs : s.says = 0 ∨ s.says = 1 := by
    simp only [Bool.not_eq_false', Bool.or_eq_true, decide_eq_true_eq] at h3
    exact h3
  have r1 : ∀ r : List Int, (∀ x ∈ r, 0 ≤ x ∧ x < (n : Int)) → rpD 1 (encR r) = true := fun r hr => by
    unfold encR rpD
    exact rpL_map fun x hx => by
      have := hr x hx
      unfold rpD
      simp
      omega
  have r2 : rpD 1 (.int s.says) = true := by rcases hs with e | e <;> rw [e] <;> rfl
  have r3 : rpD 1 (encB s.belief) = true := by
    cases hq : s.belief with
    | none => rfl
    | some x => exact (hb x hq).1
  constructor
  · unfold Sta.enc
    unfold rpD
    simp only [rpL, r2, r3, r1 _ z2, r1 _ o2, Bool.and_self]
  · have h5 : wt (encB s.belief) ≤ 10 := by
      cases hq : s.belief with
      | none => simp [encB, wt]
      | some x =>
        have := (hb x hq).2
        have h6 : x.cps.size = x.length := rfl
        simp only [encB, wt]
        omega
    have w1 := wtL_map (xs := s.zeros) (f := D.int) (c := 41) fun x _ => by unfold wt; omega
    have w2 := wtL_map (xs := s.ones) (f := D.int) (c := 41) fun x _ => by unfold wt; omega
    unfold Sta.enc encR
    simp only [wt, wtL]
    omega
theorem so_spec (c : Cu) (z : Z) (h : custErr c = none) (hm : c.starts.length ≤ 900) : F__law_custom_so [custD c, c.enc] z = .ok (.bl true) z := by
  obtain ⟨h1, h2, h3⟩ := none_all h
  have e0 : startE 2 [custD c, c.enc] = [some (.sh (custD c)), some (.sh c.enc)] := rfl
  have x0 : ixD z c.enc (.int 0) = some (.lst (c.states.map Sta.enc)) := rfl
  have x1 : ixD z c.enc (.int 1) = some (.lst (c.starts.map D.int)) := rfl
  have m1 : methD 26 "states" z (custD c) = some (custD c) := rfl
  have m2 : methD 26 "starts" z (custD c) = some (custD c) := rfl
  have f1 : F_Custom_states [custD c] z = .ok (.lst (c.states.map Sta.enc)) z := rfl
  have f2 : F_Custom_starts [custD c] z = .ok (.lst (c.starts.map D.int)) z := rfl
  have r1 : rpD 3 (.lst (c.states.map Sta.enc)) = true := by
    unfold rpD
    exact rpL_map fun s hs => (good_sta (h2 s hs) h1).1
  have r2 : rpD 3 (.lst (c.starts.map .int)) = true := by
    unfold rpD
    exact rpL_map fun x hx => by
      have := h3 x hx
      unfold rpD
      simp
      omega
  have rp : rpD 4 (.lst [.lst (c.states.map Sta.enc), .lst (c.starts.map .int)]) = true := by
    unfold rpD
    simp only [rpL, r1, r2, Bool.and_self]
  have w1 := wtL_map (xs := c.states) (f := Sta.enc) (c := 700) fun s hs => (good_sta (h2 s hs) h1).2
  have w2 := wtL_map (xs := c.starts) (f := D.int) (c := 41) fun x _ => by unfold wt; omega
  have wb : wt (.lst [.lst (c.states.map Sta.enc), .lst (c.starts.map .int)]) ≤ 1000000 := by
    simp only [wt, wtL]
    omega
  have s := same_spec _ z rp (by omega) wb
  simp -implicitDefEqProofs [F__law_custom_so, runB, m__law_custom_so, e0, x0, x1, m1, m2, f1, f2, s]
theorem letter_in : ∀ c ∈ lettersL, (inS [] (sgn c) (.str "abcdefghijklmnopqrstuvwxyz")).getD false = true := by decide +kernel
theorem name_good {s : Str} (h : GoodN s) : nameB s = true := by
  have h1 := h.pos
  have h2 := h.few
  rw [len_cps'] at h1 h2
  unfold nameB
  have h3 : ((s.cps.toList.map sgn).map fun d => ((inS [] d (.str "abcdefghijklmnopqrstuvwxyz")).getD false)).all id = true := by
    rw [List.all_eq_true]
    intro b hb
    obtain ⟨d, hd, rfl⟩ := List.mem_map.mp hb
    obtain ⟨c, hc, rfl⟩ := List.mem_map.mp hd
    exact letter_in c (h.abc c hc)
  rw [h3]
  simp
  omega
structure OkR (n : Nat) (r : List Int) : Prop where
  ne : 1 ≤ r.length
  few : r.length ≤ 6
  asc : r.Pairwise (· < ·)
  rng : ∀ x ∈ r, 0 ≤ x ∧ x < n
structure OkS (n : Nat) (s : Sta) : Prop where
  says : s.says = 0 ∨ s.says = 1
  belief : ∀ b, s.belief = some b → GoodN b
  zeros : OkR n s.zeros
  ones : OkR n s.ones
structure OkC (c : Cu) : Prop where
  pos : 1 ≤ c.states.length
  few : c.states.length ≤ 240
  st : ∀ s ∈ c.states, OkS c.states.length s
  sne : c.starts ≠ []
  sasc : c.starts.Pairwise (· < ·)
  srng : ∀ x ∈ c.starts, 0 ≤ x ∧ x < c.states.length
  sfew : c.starts.length ≤ c.states.length
theorem OkR.row {n : Nat} {r : List Int} (h : OkR n r) : isRowB r 1 6 n = true := by
  unfold isRowB
  have h1 := h.ne
  have h2 := h.few
  have h3 : (r.all fun x => decide (0 ≤ x) && decide (x < (n : Int))) = true := by
    rw [List.all_eq_true]
    intro x hx
    have := h.rng x hx
    simp [this.1, this.2]
  rw [h3, (adj_pw r).mpr h.asc]
  simp
  omega
theorem OkS.bad {n : Nat} {s : Sta} (h : OkS n s) : stBad n s = false := by
  unfold stBad hdBad
  rw [h.zeros.row, h.ones.row]
  have h1 : (decide (s.says = 0) || decide (s.says = 1)) = true := by rcases h.says with e | e <;> simp [e]
  have h2 : nmBad s.belief = false := by
    cases hb : s.belief with
    | none => rfl
    | some b => simp [nmBad, name_good (h.belief b hb)]
  rw [h1, h2]
  rfl
theorem OkC.err {c : Cu} (h : OkC c) : custErr c = none := by
  unfold custErr
  rw [if_neg (fun q => q ⟨h.pos, h.few⟩)]
  have h1 : c.states.zipIdx.find? (fun p => stBad c.states.length p.1) = none := by
    rw [List.find?_eq_none]
    intro p hp
    rw [(h.st p.1 (List.mem_of_getElem? (zip_mem hp))).bad]
    simp
  have h2 : c.starts.zipIdx.find? (startBad c.states.length c.starts) = none := by
    rw [List.find?_eq_none]
    rintro ⟨v, i⟩ hp
    have hv := zip_mem hp
    simp only at hv
    have hr := h.srng v (List.mem_of_getElem? hv)
    obtain ⟨hi, hvi⟩ := List.getElem?_eq_some_iff.mp hv
    unfold startBad
    by_cases q : 0 < i
    · have : c.starts.getD (i - 1) 0 < v := by
        rw [List.getD_eq_getElem?_getD, List.getElem?_eq_getElem (by omega), Option.getD_some, ← hvi]
        exact List.pairwise_iff_getElem.mp h.sasc (i - 1) i (by omega) hi (by omega)
      rw [List.getD_eq_getElem?_getD] at this
      simp [hr.1, hr.2]
      omega
    · simp [hr.1, hr.2, q]
  rw [h1]
  simp only
  rw [if_neg h.sne, h2]
  rfl
theorem OkC.bnd {c : Cu} (h : OkC c) : Bnd c := by
  have h1 := h.few
  have h2 := h.sfew
  refine ⟨by omega, by omega, fun s hs x hx => ?_, fun s hs => by have := (h.st s hs).zeros.few; omega, fun s hs => by have := (h.st s hs).ones.few; omega⟩
  have := ((h.st s hs).belief x hx).few
  rw [len_cps'] at this
  omega
theorem goodR_ok {n : Nat} {r : List Int} (h : GoodR n r) : OkR n r := ⟨by have := List.length_pos_iff.mpr h.ne; omega, by have := h.few; omega, h.asc, h.rng⟩
theorem goodC_ok {most : Nat} {names : List Str} {c : Cu} (h : GoodC most names c) (hm : most ≤ 240) (hn : ∀ s ∈ names, GoodN s) : OkC c :=
  ⟨h.pos, Nat.le_trans h.few hm, fun s hs => ⟨(h.st s hs).says, fun b hb => hn b ((h.st s hs).belief b hb), goodR_ok (h.st s hs).zeros, goodR_ok (h.st s hs).ones⟩, h.sne, h.sasc, h.srng, h.sfew⟩
theorem made_ok (c : Cu) (z : Z) (h : OkC c) (hz : Zlow z) : newTo 26 z.length (F_Custom___init__ [.mob z.length, .lst (c.states.map Sta.enc), .lst (c.starts.map .int)] (z ++ [.ins 26 []])) = .ok (custD c) z := by
  have := custom_newL c z h.bnd hz
  rw [h.err] at this
  exact this
theorem newF_ok {z : Z} {ml : M (List D)} {ρ : En} (c : Cu) (h : OkC c) (hz : Zlow z) (hl : ml ρ z = .ok [.lst (c.states.map Sta.enc), .lst (c.starts.map D.int)] z) : mNewF 26 3 F_Custom___init__ ml ρ z = .ok (custD c) z := by
  rw [ap_newF, hl, rb_ok]
  exact made_ok c z h hz
theorem law_made_ok (c : Cu) (z : Z) (h : OkC c) (hz : Zlow z) : F__law_made [c.enc] z = .ok (custD c) z := by
  have e0 : startE 1 [c.enc] = [some (.sh c.enc)] := rfl
  have x0 : ∀ z, ixD z c.enc (.int 0) = some (.lst (c.states.map Sta.enc)) := fun z => rfl
  have x1 : ∀ z, ixD z c.enc (.int 1) = some (.lst (c.starts.map D.int)) := fun z => rfl
  have := newF_ok (ρ := [some (.sh c.enc)]) (ml := mCons (mFz (mCall listD (mCons (mOp2 ixD (mVar 0) (mRet (.int 0))) mNil))) (mCons (mFz (mCall listD (mCons (mOp2 ixD (mVar 0) (mRet (.int 1))) mNil))) mNil)) c h hz (by simp [x0, x1])
  simp -implicitDefEqProofs [-ap_newF, F__law_made, runB, m__law_made, e0, this]
theorem good_nameB {s : Str} (h : GoodN s) : nameB s = true := by
  have h1 := h.pos
  have h2 := h.few
  have e := len_cps s
  unfold nameB
  simp only [Bool.and_eq_true, decide_eq_true_eq]
  refine ⟨by omega, by omega, ?_⟩
  rw [List.all_eq_true]
  intro x hx
  obtain ⟨d, hd, rfl⟩ := List.mem_map.mp hx
  obtain ⟨c, hc, rfl⟩ := List.mem_map.mp hd
  rw [inS_sgn]
  have := h.abc c hc
  simpa [lettersL] using this
theorem empty_app (x : Str) : Str.empty ++ x = x := by
  have h : (Str.empty ++ x).cps.toList = x.cps.toList := by
    rw [cps_app]
    rfl
  generalize Str.empty ++ x = y at *
  cases x; cases y
  simp only [Str.mk.injEq]
  exact Array.toList_inj.mp h
def ordP (p : Str × Str) : List Str := [minS p.1 p.2, maxS p.1 p.2]
theorem sort_snoc (L : List (List Str)) (k : List Str) : sortT (sortT L ++ [k]) = sortT (L ++ [k]) := sortT_congr fun j => by
  simp only [List.mem_append, mem_sortT]
theorem sortT_id {L : List (List Str)} : sortT (sortT L) = sortT L := sortT_congr fun j => mem_sortT
def pairText (k : List Str) : Str := match k with
  | [a, b] => a ++ " " ++ b
  | _ => ""
def textOf (rows : List (List Str)) : Str := if rows = [] then "-" else Txt.join "; " (rows.map pairText)
/-! texts of customs, plainly -/
theorem str_ext {x y : Str} (h : x.cps.toList = y.cps.toList) : x = y := by
  cases x; cases y
  simp only [Str.mk.injEq]
  exact Array.toList_inj.mp h
theorem sp_com {ps : List Str} (h : ps ≠ []) (hp : ∀ p ∈ ps, 44 ∉ p.cps.toList) : Txt.split (Txt.join "," ps) "," = ps := TL.split_join (s := 44) (S := []) rfl (by decide +kernel) h hp
theorem sp_spc {ps : List Str} (h : ps ≠ []) (hp : ∀ p ∈ ps, 32 ∉ p.cps.toList) : Txt.split (Txt.join " " ps) " " = ps := TL.split_join (s := 32) (S := []) rfl (by decide +kernel) h hp
theorem sp_new {ps : List Str} (h : ps ≠ []) (hp : ∀ p ∈ ps, 10 ∉ p.cps.toList) : Txt.split (Txt.join "\n" ps) "\n" = ps := TL.split_join (s := 10) (S := []) rfl (by decide +kernel) h hp
theorem sp_sem {ps : List Str} (h : ps ≠ []) (hp : ∀ p ∈ ps, 59 ∉ p.cps.toList) : Txt.split (Txt.join "; " ps) "; " = ps := TL.split_join (s := 59) (S := [32]) rfl (by decide +kernel) h hp
theorem join_cps (y : Str) : ∀ (ps : List Str) (c : Nat), c ∈ (Str.join y ps).cps.toList → c ∈ y.cps.toList ∨ ∃ p ∈ ps, c ∈ p.cps.toList
  | [], c, h => absurd h (by simp [Str.join, Str.empty])
  | [p], c, h => .inr ⟨p, by simp, h⟩
  | p :: q :: r, c, h => by
    have h : c ∈ (p ++ y ++ Str.join y (q :: r)).cps.toList := h
    rw [cps_app, cps_app, List.mem_append, List.mem_append] at h
    rcases h with (h | h) | h
    · exact .inr ⟨p, by simp, h⟩
    · exact .inl h
    · rcases join_cps y (q :: r) c h with h | ⟨w, hw, h⟩
      · exact .inl h
      · exact .inr ⟨w, List.mem_cons_of_mem _ hw, h⟩
theorem join_no {y : Str} {ps : List Str} {c : Nat} (h1 : c ∉ y.cps.toList) (h2 : ∀ p ∈ ps, c ∉ p.cps.toList) : c ∉ (Txt.join y ps).cps.toList := by
  rw [TL.join_eq]
  intro h
  rcases join_cps y ps c h with h | ⟨p, hp, h⟩
  · exact h1 h
  · exact h2 p hp h
def cN (x : Int) : Str := Str.ofString (toString x)
theorem ten {x : Int} (h : 0 ≤ x ∧ x < 10) : x = 0 ∨ x = 1 ∨ x = 2 ∨ x = 3 ∨ x = 4 ∨ x = 5 ∨ x = 6 ∨ x = 7 ∨ x = 8 ∨ x = 9 := by omega
theorem cN_ok {x : Int} (h : 0 ≤ x ∧ x < 10) : numB (cN x) = true ∧ PySem.intText? (cN x) = some x ∧ (cN x).length = 1 ∧ ((cN x).cps.toList.all fun c => decide (48 ≤ c) && decide (c ≤ 57)) = true := by
  rcases ten h with rfl | rfl | rfl | rfl | rfl | rfl | rfl | rfl | rfl | rfl <;> decide +kernel
theorem cN_D {x : Int} (h : 0 ≤ x ∧ x < 10) (z : Z) : strD z [.int x] = some (.str (cN x)) ∧ fmtD z (.int x) = some (.str (cN x)) := by
  rcases ten h with rfl | rfl | rfl | rfl | rfl | rfl | rfl | rfl | rfl | rfl <;> exact ⟨by kernel_rfl, by kernel_rfl⟩
theorem cN_V {x : Int} (h : 0 ≤ x ∧ x < 10) : numV (cN x) = some x := by
  obtain ⟨h1, h2, _⟩ := cN_ok h
  rw [numV, if_pos h1, h2]
theorem cN_no {x : Int} (h : 0 ≤ x ∧ x < 10) {c : Nat} (hc : c < 48) : c ∉ (cN x).cps.toList := fun hm => by
  have := List.all_eq_true.mp (cN_ok h).2.2.2 c hm
  simp at this
  omega
def Digs (r : List Int) : Prop := ∀ x ∈ r, 0 ≤ x ∧ x < 10
def commasT (r : List Int) : Str := Txt.join "," (r.map cN)
theorem nums_of {r : List Int} (hr : Digs r) : numsV (r.map cN) = some r := by
  unfold numsV
  rw [if_pos]
  · rw [List.map_map]
    congr 1
    refine (List.map_congr_left (g := id) fun x hx => ?_).trans (List.map_id r)
    show (numV (cN x)).getD 0 = x
    rw [cN_V (hr x hx)]
    rfl
  · rw [List.all_eq_true]
    intro w hw
    obtain ⟨x, hx, rfl⟩ := List.mem_map.mp hw
    exact (cN_ok (hr x hx)).1
theorem commas_split {r : List Int} (hr : Digs r) (hne : r ≠ []) : numsV (Txt.split (commasT r) ",") = some r := by
  unfold commasT
  rw [sp_com (by simpa using hne) fun p hp => by
    obtain ⟨x, hx, rfl⟩ := List.mem_map.mp hp
    exact cN_no (hr x hx) (by omega)]
  exact nums_of hr
theorem commas_no {r : List Int} (hr : Digs r) {c : Nat} (hc : c < 44) : c ∉ (commasT r).cps.toList := by
  refine join_no (fun h => ?_) fun p hp => ?_
  · have : (("," : Str).cps.toList) = [44] := by decide +kernel
    rw [this] at h
    simp at h
    omega
  · obtain ⟨x, hx, rfl⟩ := List.mem_map.mp hp
    exact cN_no (hr x hx) (by omega)
structure SOk (s : Sta) : Prop where
  says : s.says = 0 ∨ s.says = 1
  bel : ∀ b, s.belief = some b → GoodN b
  z0 : s.zeros ≠ []
  zr : Digs s.zeros
  zl : s.zeros.length ≤ 2
  o0 : s.ones ≠ []
  o1 : Digs s.ones
  ol : s.ones.length ≤ 2
theorem SOk.dig {s : Sta} (h : SOk s) : 0 ≤ s.says ∧ s.says < 10 := by rcases h.says with e | e <;> omega
def belT (s : Sta) : Str := s.belief.getD "-"
def stateW (s : Sta) : List Str := ["state", cN s.says, belT s, commasT s.zeros, commasT s.ones]
def stateT (s : Sta) : Str := Txt.join " " (stateW s)
theorem good_no {b : Str} (h : GoodN b) {c : Nat} (hc : c < 97) : c ∉ b.cps.toList := fun hm => by
  have lt : ∀ c ∈ lettersL, 97 ≤ c := by decide +kernel
  have := lt c (h.abc c hm)
  omega
theorem bel_no {s : Sta} (h : SOk s) {c : Nat} (hc : c < 45) : c ∉ (belT s).cps.toList := by
  unfold belT
  cases hb : s.belief with
  | none =>
    have : (("-" : Str).cps.toList) = [45] := by decide +kernel
    show c ∉ ("-" : Str).cps.toList
    rw [this]
    simp
    omega
  | some b => exact good_no (h.bel b hb) (by omega)
theorem stateW_no {s : Sta} (h : SOk s) {c : Nat} (hc : c = 32 ∨ c = 10) : ∀ p ∈ stateW s, c ∉ p.cps.toList := fun p hp => by
  have e : (("state" : Str).cps.toList) = [115, 116, 97, 116, 101] := by decide +kernel
  simp only [stateW, List.mem_cons, List.not_mem_nil, or_false] at hp
  rcases hp with rfl | rfl | rfl | rfl | rfl
  · rw [e]
    rcases hc with rfl | rfl <;> simp
  · exact cN_no h.dig (by omega)
  · exact bel_no h (by omega)
  · exact commas_no h.zr (by omega)
  · exact commas_no h.o1 (by omega)
theorem lineV_state {s : Sta} (h : SOk s) : lineV (stateT s) = some s := by
  unfold lineV stateT
  rw [sp_spc (by simp [stateW]) (stateW_no h (.inl rfl))]
  have s0 : cN 0 = "0" := by decide +kernel
  have s1 : cN 1 = "1" := by decide +kernel
  have n01 : ¬ ("0" : Str) = "1" := by decide +kernel
  have cb : (cN s.says = "0" ∨ cN s.says = "1") ∧ (if cN s.says = "1" then (1 : Int) else 0) = s.says := by
    rcases h.says with e | e
    · rw [e, s0]; exact ⟨.inl rfl, if_neg n01⟩
    · rw [e, s1]; exact ⟨.inr rfl, if_pos rfl⟩
  show (if ("state" : Str) = "state" ∧ (cN s.says = "0" ∨ cN s.says = "1") then (match numsV (Txt.split (commasT s.zeros) ","), numsV (Txt.split (commasT s.ones) ",") with
      | some zs, some os => if belT s = "-" then some ⟨if cN s.says = "1" then 1 else 0, none, zs, os⟩ else if nameB (belT s) then some ⟨if cN s.says = "1" then 1 else 0, some (belT s), zs, os⟩ else none
      | _, _ => none) else none) = some s
  rw [if_pos ⟨rfl, cb.1⟩, commas_split h.zr h.z0, commas_split h.o1 h.o0, cb.2]
  obtain ⟨says, bel, zs, os⟩ := s
  cases bel with
  | none => exact if_pos rfl
  | some b =>
    have hb := h.bel b rfl
    have nd : ¬ b = "-" := by
      rintro rfl
      have e : (("-" : Str).cps.toList) = [45] := by decide +kernel
      exact good_no hb (c := 45) (by omega) (by rw [e]; simp)
    show (if b = "-" then _ else if nameB b then some (⟨says, some b, zs, os⟩ : Sta) else none) = _
    rw [if_neg nd, if_pos (good_nameB hb)]
def startT (c : Cu) : Str := Txt.join " " ("start" :: c.starts.map cN)
def linesT (c : Cu) : List Str := startT c :: c.states.map stateT
def custT (c : Cu) : Str := Txt.join "\n" (linesT c)
structure COk (c : Cu) : Prop where
  ok : OkC c
  few : c.states.length ≤ 7
  st : ∀ s ∈ c.states, SOk s
theorem COk.digs {c : Cu} (h : COk c) : Digs c.starts := fun x hx => by
  have := h.ok.srng x hx
  have := h.few
  omega
theorem start_no {c : Cu} (h : COk c) {k : Nat} (hk : k = 32 ∨ k = 10) : ∀ p ∈ (("start" : Str) :: c.starts.map cN), k ∉ p.cps.toList := fun p hp => by
  have e : (("start" : Str).cps.toList) = [115, 116, 97, 114, 116] := by decide +kernel
  rcases List.mem_cons.mp hp with rfl | hp
  · rw [e]
    rcases hk with rfl | rfl <;> simp
  · obtain ⟨x, hx, rfl⟩ := List.mem_map.mp hp
    exact cN_no (h.digs x hx) (by omega)
theorem startV_start {c : Cu} (h : COk c) : startV (Txt.split (startT c) " ") = some c.starts := by
  unfold startT
  rw [sp_spc (by simp) (start_no h (.inl rfl))]
  unfold startV
  have := List.length_pos_iff.mpr h.ok.sne
  rw [if_pos ⟨rfl, by simp; omega⟩]
  exact nums_of h.digs
theorem lines_no {c : Cu} (h : COk c) : ∀ p ∈ linesT c, 10 ∉ p.cps.toList := fun p hp => by
  have e : ((" " : Str).cps.toList) = [32] := by decide +kernel
  rcases List.mem_cons.mp hp with rfl | hp
  · exact join_no (by rw [e]; simp) (start_no h (.inr rfl))
  · obtain ⟨s, hs, rfl⟩ := List.mem_map.mp hp
    exact join_no (by rw [e]; simp) (stateW_no (h.st s hs) (.inr rfl))
theorem split_cust {c : Cu} (h : COk c) : Txt.split (custT c) "\n" = linesT c := sp_new (by simp [linesT]) (lines_no h)
theorem readE_cust {c : Cu} (h : COk c) : readE (custT c) = (none, c) := by
  unfold readE
  rw [split_cust h]
  have e1 : startV (Txt.split ((linesT c).headD "") " ") = some c.starts := startV_start h
  have e2 : (linesT c).drop 1 = c.states.map stateT := rfl
  have e3 : (c.states.map stateT).zipIdx.find? badP = none := List.find?_eq_none.mpr fun p hp => by
    have := List.mem_of_getElem? (zip_mem hp)
    obtain ⟨s, hs, e⟩ := List.mem_map.mp this
    unfold badP
    rw [← e, lineV_state (h.st s hs)]
    simp
  have e4 : (c.states.map stateT).filterMap lineV = c.states := by
    have key : ∀ L : List Sta, (∀ s ∈ L, SOk s) → (L.map stateT).filterMap lineV = L := by
      intro L
      induction L with
      | nil => intro _; rfl
      | cons s L ih =>
        intro hL
        rw [List.map_cons, List.filterMap_cons, lineV_state (hL s (by simp)), ih fun q hq => hL q (by simp [hq])]
    exact key _ h.st
  have e5 : c.states.map stateT ≠ [] := by
    have := h.ok.pos
    intro e
    have := congrArg List.length e
    rw [List.length_map] at this
    simp only [List.length_nil] at this
    omega
  have e6 : custErr c = none := h.ok.err
  rw [e1, e2]
  simp only
  rw [e3]
  simp only
  rw [if_neg e5, e4]
  show (custErr c, c) = _
  rw [e6]
/-! the walks of texts of customs -/
def wS (ys : List Str) : Nat := (ys.map fun y => y.length + 1).sum
theorem wS_nil : wS [] = 0 := rfl
theorem wS_cons (y : Str) (ys : List Str) : wS (y :: ys) = y.length + 1 + wS ys := by simp [wS]
theorem wS_app (a b : List Str) : wS (a ++ b) = wS a + wS b := by simp [wS]
theorem wS_eq (ys : List Str) : wS ys = (ys.map (·.length)).sum + ys.length := by
  induction ys with
  | nil => rfl
  | cons y ys ih => rw [wS_cons, ih]; simp; omega
theorem strsOf_map : ∀ ys : List Str, strsOf (ys.map D.str) = some ys
  | [] => rfl
  | y :: ys => by
    have := strsOf_map ys
    simp only [List.map_cons, strsOf, this]
    rfl
theorem wS_le {ys : List Str} {m : Nat} (h : ∀ y ∈ ys, y.length ≤ m) : wS ys ≤ ys.length * (m + 1) := by
  induction ys with
  | nil => simp [wS]
  | cons y ys ih =>
    have h1 := h y (by simp)
    have h2 := ih fun w hw => h w (by simp [hw])
    rw [wS_cons, List.length_cons, Nat.succ_mul]
    omega

theorem join_okE (sep : Str) (ys : List Str) (hs : sep.length = 1) (hw : wS ys ≤ 2000) : (∀ z, joinD z (.str sep) (.lst (ys.map D.str)) = some (.str (Txt.join sep ys))) ∧ (Txt.join sep ys).length ≤ wS ys - 1 := by
  refine ⟨fun z => ?_, ?_⟩
  · have e := wS_eq ys
    show (strsOf (ys.map D.str)).bind _ = _
    rw [strsOf_map]
    exact if_pos (by rw [hs]; omega)
  · rw [TL.join_eq]
    cases ys with
    | nil => exact Nat.zero_le _
    | cons y r =>
      have h := join_lenS sep (y :: r) (by simp)
      rw [hs] at h
      rw [wS_eq]
      omega
theorem cN_go {g : TgF} {me : M D} {ρ : En} {z : Z} (r : List Int) (hr : Digs r) (hl : r.length ≤ 900) (h : ∀ d, ∃ ρ1, g d ρ = some ρ1 ∧ me ρ1 z = (ofO (strD z [d]) z)) : lcGo g (mRet true) me ρ (r.map D.int) [] z = .ok ((r.map cN).map D.str) z := by
  rw [List.map_map]
  refine lcGo_mapT D.int _ r (le_line (by omega)) fun x hx => ?_
  obtain ⟨ρ1, e1, e2⟩ := h (.int x)
  refine ⟨ρ1, e1, ?_⟩
  rw [e2, (cN_D (hr x hx) z).1]
  rfl
theorem cN_w {r : List Int} (hr : Digs r) : wS (r.map cN) ≤ 2 * r.length := by
  have := wS_le (ys := r.map cN) (m := 1) fun y hy => by
    obtain ⟨x, hx, rfl⟩ := List.mem_map.mp hy
    exact Nat.le_of_eq (cN_ok (hr x hx)).2.2.1
  rw [List.length_map] at this
  omega
theorem commas_len {r : List Int} (hr : Digs r) (hl : r.length ≤ 2) : (commasT r).length ≤ 3 := by
  have := cN_w hr
  have := (join_okE "," (r.map cN) l_com (by omega)).2
  unfold commasT
  omega
theorem commas_ok (r : List Int) (z : Z) (hr : Digs r) (hl : r.length ≤ 2) : F__law_commas [encR r] z = .ok (.str (commasT r)) z := by
  have e0 : startE 2 [encR r] = [some (.sh (.tup (r.map D.int))), none] := rfl
  have l1 := cN_go (g := setE 1) (me := mCall strD (mCons (mVar 1) mNil)) (ρ := wipeE [some (.sh (.tup (r.map D.int))), none] [1]) (z := z) r hr (by omega) fun d => ⟨_, setE_in 1 _ (by simp [wipeE]), by simp [wipeE]⟩
  have hw := cN_w hr
  have h1 := (join_okE "," (r.map cN) l_com (by omega)).1
  unfold commasT
  generalize (r.map cN).map D.str = W at *
  simp -implicitDefEqProofs [F__law_commas, runB, m__law_commas, e0, l1, h1]
theorem row_text_ok (r : List Int) (z : Z) (hr : Digs r) (hl : r.length ≤ 2) : F_row_text [encR r] z = .ok (.str (commasT r)) z := by
  have e0 : startE 2 [encR r] = [some (.sh (.tup (r.map D.int))), none] := rfl
  have l1 := cN_go (g := setE 1) (me := mCall strD (mCons (mVar 1) mNil)) (ρ := wipeE [some (.sh (.tup (r.map D.int))), none] [1]) (z := z) r hr (by omega) fun d => ⟨_, setE_in 1 _ (by simp [wipeE]), by simp [wipeE]⟩
  have hw := cN_w hr
  have h1 := (join_okE "," (r.map cN) l_com (by omega)).1
  unfold commasT
  generalize (r.map cN).map D.str = W at *
  simp -implicitDefEqProofs [F_row_text, runB, m_row_text, e0, l1, h1]
theorem bel_len {s : Sta} (h : SOk s) : (belT s).length ≤ 8 := by
  unfold belT
  cases hb : s.belief with
  | none =>
    have : ("-" : Str).length = 1 := by decide +kernel
    show ("-" : Str).length ≤ 8
    omega
  | some b => exact good_len (h.bel b hb)
theorem state_w {s : Sta} (h : SOk s) : wS (stateW s) ≤ 25 := by
  have l1 : ("state" : Str).length = 5 := by decide +kernel
  have := bel_len h
  have := commas_len h.zr h.zl
  have := commas_len h.o1 h.ol
  have := (cN_ok h.dig).2.2.1
  simp only [stateW, wS_cons, wS_nil, l1]
  omega
theorem state_len {s : Sta} (h : SOk s) : (stateT s).length ≤ 24 := by
  have := state_w h
  have := (join_okE " " (stateW s) l_spc (by omega)).2
  unfold stateT
  omega
theorem start_w {c : Cu} (h : COk c) : wS ("start" :: c.starts.map cN) ≤ 20 := by
  have l1 : ("start" : Str).length = 5 := by decide +kernel
  have := cN_w h.digs
  have := h.ok.sfew
  have := h.few
  rw [wS_cons, l1]
  omega
theorem start_len {c : Cu} (h : COk c) : (startT c).length ≤ 19 := by
  have := start_w h
  have := (join_okE " " ("start" :: c.starts.map cN) l_spc (by omega)).2
  unfold startT
  omega
theorem lines_w {c : Cu} (h : COk c) : wS (linesT c) ≤ 200 := by
  have h1 := start_len h
  have h2 := wS_le (ys := c.states.map stateT) (m := 24) fun y hy => by
    obtain ⟨s, hs, rfl⟩ := List.mem_map.mp hy
    exact state_len (h.st s hs)
  rw [List.length_map] at h2
  have := h.few
  unfold linesT
  rw [wS_cons]
  omega
theorem cust_len {c : Cu} (h : COk c) : (custT c).length ≤ 200 := by
  have := lines_w h
  have := (join_okE "\n" (linesT c) l_new (by omega)).2
  unfold custT
  omega
theorem lines_ok (c : Cu) (z : Z) (h : COk c) : F__law_custom_lines [c.enc] z = .ok (.lst ((linesT c).map .str)) z := by
  have e0 : startE 8 [c.enc] = [some (.sh c.enc), none, none, none, none, none, none, none] := rfl
  have x0 : ∀ z, ixD z c.enc (.int 0) = some (.lst (c.states.map Sta.enc)) := fun z => rfl
  have x1 : ∀ z, ixD z c.enc (.int 1) = some (.lst (c.starts.map D.int)) := fun z => rfl
  have hf := h.few
  have hsf := h.ok.sfew
  have l1 := cN_go (g := setE 7) (me := mCall strD (mCons (mVar 7) mNil)) (ρ := wipeE [some (.sh c.enc), none, none, none, none, none, none, none] [7]) (z := z) c.starts h.digs (by omega) fun d => ⟨_, setE_in 7 _ (by simp [wipeE]), by simp [wipeE]⟩
  have hw1 := start_w h
  have h1 := (join_okE " " ("start" :: c.starts.map cN) l_spc (by omega)).1
  rw [List.map_cons] at h1
  have ad : ∀ z, addD z (.lst [.str "start"]) (.lst ((c.starts.map cN).map D.str)) = some (.lst (.str "start" :: (c.starts.map cN).map D.str)) := fun z => add_lst _ _ (le_line (by simp; omega))
  obtain ⟨ρ', z', L, u2, u3, u4, u5, u6, rfl, rfl⟩ := forGo_ix (I := fun i ρ z1 => ∃ (u2 u3 u4 u5 u6 : Option DV), ρ = [some (.sh c.enc), some (.own (.lst ((startT c :: (c.states.take i).map stateT).map D.str))), u2, u3, u4, u5, u6, none] ∧ z1 = z)
    (g := tupT 4 (consT (setE 2) (consT (setE 3) (consT (setE 4) (consT (setE 5) nilT)))))
    (body := (sSeq (sAsg (setE 6) (mIf (mOp2 isN (mVar 3) (mRet .non)) (mRet (.str "-")) (mVar 3)))
    (sOwnM 1 appendF (mCons (mJoin (mRet (.str " ")) (mFz (mLst (mCons (mRet (.str "state")) (mCons (mCall strD (mCons (mVar 2) mNil)) (mCons (mVar 6) (mCons (mApp 1 F__law_commas (mCons (mVar 4) mNil)) (mCons (mApp 1 F__law_commas (mCons (mVar 5) mNil)) mNil)))))))) mNil))))
    (c.states.map Sta.enc) (c.states.map Sta.enc) 0 [some (.sh c.enc), some (.own (.lst [.str (startT c)])), none, none, none, none, none, none] z (by simp) rfl ⟨_, _, _, _, _, rfl, rfl⟩ (by
      rintro i d hd ρ z1 ⟨u2, u3, u4, u5, u6, rfl, rfl⟩
      rw [List.getElem?_map] at hd
      obtain ⟨s, hs, rfl⟩ := Option.map_eq_some_iff.mp hd
      have hi := (List.getElem?_eq_some_iff.mp hs).1
      have g := h.st s (List.mem_of_getElem? hs)
      have a1 := commas_ok s.zeros z1 g.zr g.zl
      have b1 := commas_ok s.ones z1 g.o1 g.ol
      have c1 := fun z => (cN_D g.dig z).1
      have hb1 : (mIf (mOp2 isN (mVar 3) (mRet .non)) (mRet (.str "-")) (mVar 3)) [some (.sh c.enc), some (.own (.lst ((startT c :: (c.states.take i).map stateT).map D.str))), some (.sh (.int s.says)), some (.sh (encB s.belief)), some (.sh (encR s.zeros)), some (.sh (encR s.ones)), u6, none] z1 = .ok (.str (belT s)) z1 := by
        unfold belT
        cases hb : s.belief with
        | none => simp [encB]
        | some x => simp [encB]; rfl
      have hwl := state_w g
      have d1 := (join_okE " " (stateW s) l_spc (by omega)).1
      simp only [stateW, List.map_cons, List.map_nil] at d1
      have d1' : ∀ z, joinD z (.str " ") (.lst [.str "state", .str (cN s.says), .str (belT s), .str (commasT s.zeros), .str (commasT s.ones)]) = some (.str (stateT s)) := d1
      have hlt : ((startT c :: (c.states.take i).map stateT).map D.str).length < sizeLine := lt_line (by simp; omega)
      have et : ((startT c :: (c.states.take (i + 1)).map stateT).map D.str) = ((startT c :: (c.states.take i).map stateT).map D.str) ++ [.str (stateT s)] := by
        rw [List.take_succ, hs]
        simp
      refine ⟨[some (.sh c.enc), some (.own (.lst ((startT c :: (c.states.take i).map stateT).map D.str))), some (.sh (.int s.says)), some (.sh (encB s.belief)), some (.sh (encR s.zeros)), some (.sh (encR s.ones)), u6, none], by simp [Sta.enc], [some (.sh c.enc), some (.own (.lst ((startT c :: (c.states.take (i + 1)).map stateT).map D.str))), some (.sh (.int s.says)), some (.sh (encB s.belief)), some (.sh (encR s.zeros)), some (.sh (encR s.ones)), some (.sh (.str (belT s))), none], z1, ?_, _, _, _, _, _, rfl, rfl⟩
      rw [et]
      generalize ((startT c :: (c.states.take i).map stateT).map D.str) = W at *
      simp -implicitDefEqProofs [-ap_if, hb1, c1, a1, b1, d1', hlt])
  rw [List.length_map, List.take_length] at L
  have h1' : ∀ z, joinD z (.str " ") (.lst (.str "start" :: (c.starts.map cN).map D.str)) = some (.str (startT c)) := h1
  show _ = Res.ok (D.lst ((startT c :: c.states.map stateT).map D.str)) _
  generalize ((startT c :: c.states.map stateT).map D.str) = W at *
  generalize (c.starts.map cN).map D.str = V at *
  generalize c.states.map Sta.enc = S at *
  generalize c.starts.map D.int = S2 at *
  generalize c.enc = C at *
  simp -implicitDefEqProofs [F__law_custom_lines, runB, m__law_custom_lines, e0, x0, x1, l1, ad, h1', L]
theorem ctext_ok (c : Cu) (z : Z) (h : COk c) : F__law_custom_text [c.enc] z = .ok (.str (custT c)) z := by
  have e0 : startE 1 [c.enc] = [some (.sh c.enc)] := rfl
  have l1 := lines_ok c z h
  have hw := lines_w h
  have h1 : ∀ z, joinD z (.str "\n") (.lst ((linesT c).map D.str)) = some (.str (custT c)) := (join_okE "\n" (linesT c) l_new (by omega)).1
  generalize (linesT c).map D.str = W at *
  simp -implicitDefEqProofs [F__law_custom_text, runB, m__law_custom_text, e0, l1, h1]
/-! custom_text -/
theorem state_eq (s : Sta) : ("state " : Str) ++ cN s.says ++ " " ++ belT s ++ " " ++ commasT s.zeros ++ " " ++ commasT s.ones = stateT s := by
  refine str_ext ?_
  unfold stateT
  rw [TL.join_eq]
  show _ = (("state" : Str) ++ " " ++ (cN s.says ++ " " ++ (belT s ++ " " ++ (commasT s.zeros ++ " " ++ commasT s.ones)))).cps.toList
  have e1 : (("state " : Str).cps.toList) = ("state" : Str).cps.toList ++ (" " : Str).cps.toList := by decide +kernel
  simp only [cps_app, e1, List.append_assoc]
theorem custom_text_ok (c : Cu) (z : Z) (h : COk c) : F_custom_text [custD c] z = .ok (.str (custT c)) z := by
  have hline : sizeLine = 16777216 := sizeLine_eq
  have e0 : startE 7 [custD c] = [some (.sh (custD c)), none, none, none, none, none, none] := rfl
  have m1 : ∀ z, methD 26 "states" z (custD c) = some (custD c) := fun _ => rfl
  have m2 : ∀ z, methD 26 "starts" z (custD c) = some (custD c) := fun _ => rfl
  have f1 : ∀ z, F_Custom_states [custD c] z = .ok (.lst (c.states.map Sta.enc)) z := fun _ => rfl
  have f2 : ∀ z, F_Custom_starts [custD c] z = .ok (.lst (c.starts.map D.int)) z := fun _ => rfl
  have hf := h.few
  have hsf := h.ok.sfew
  have l1 := cN_go (g := setE 6) (me := mCall strD (mCons (mVar 6) mNil)) (ρ := wipeE [some (.sh (custD c)), none, none, none, none, none, none] [6]) (z := z) c.starts h.digs (by omega) fun d => ⟨_, setE_in 6 _ (by simp [wipeE]), by simp [wipeE]⟩
  have hw1 := start_w h
  have h1 := (join_okE " " ("start" :: c.starts.map cN) l_spc (by omega)).1
  rw [List.map_cons] at h1
  obtain ⟨ρ', z', L, u2, u3, u4, u5, rfl, rfl⟩ := forGo_ix (I := fun i ρ z1 => ∃ (u2 u3 u4 u5 : Option DV), ρ = [some (.sh (custD c)), some (.own (.lst ((startT c :: (c.states.take i).map stateT).map D.str))), u2, u3, u4, u5, none] ∧ z1 = z)
    (g := tupT 4 (consT (setE 2) (consT (setE 3) (consT (setE 4) (consT (setE 5) nilT)))))
    (body := (sOwnM 1 appendF (mCons (mJs Str.empty ((mRet (.str "state ")) :: ((mOp1 fmtD (mVar 2)) :: ((mRet (.str " ")) :: ((mOp1 fmtD (mIf (mOp2 isN (mVar 3) (mRet .non)) (mRet (.str "-")) (mVar 3))) :: ((mRet (.str " ")) :: ((mOp1 fmtD (mApp 1 F_row_text (mCons (mVar 4) mNil))) :: ((mRet (.str " ")) :: ((mOp1 fmtD (mApp 1 F_row_text (mCons (mVar 5) mNil))) :: []))))))))) mNil)))
    (c.states.map Sta.enc) (c.states.map Sta.enc) 0 [some (.sh (custD c)), some (.own (.lst [.str (startT c)])), none, none, none, none, none] z (by simp) rfl ⟨_, _, _, _, rfl, rfl⟩ (by
      rintro i d hd ρ z1 ⟨u2, u3, u4, u5, rfl, rfl⟩
      rw [List.getElem?_map] at hd
      obtain ⟨s, hs, rfl⟩ := Option.map_eq_some_iff.mp hd
      have hi := (List.getElem?_eq_some_iff.mp hs).1
      have g := h.st s (List.mem_of_getElem? hs)
      have a1 := row_text_ok s.zeros z1 g.zr g.zl
      have b1 := row_text_ok s.ones z1 g.o1 g.ol
      have c1 := fun z => (cN_D g.dig z).2
      have hb1 : (mIf (mOp2 isN (mVar 3) (mRet .non)) (mRet (.str "-")) (mVar 3)) [some (.sh (custD c)), some (.own (.lst ((startT c :: (c.states.take i).map stateT).map D.str))), some (.sh (.int s.says)), some (.sh (encB s.belief)), some (.sh (encR s.zeros)), some (.sh (encR s.ones)), none] z1 = .ok (.str (belT s)) z1 := by
        unfold belT
        cases hb : s.belief with
        | none => simp [encB]
        | some x => simp [encB]; rfl
      have hlt : ((startT c :: (c.states.take i).map stateT).map D.str).length < sizeLine := lt_line (by simp; omega)
      have et : ((startT c :: (c.states.take (i + 1)).map stateT).map D.str) = ((startT c :: (c.states.take i).map stateT).map D.str) ++ [.str (stateT s)] := by
        rw [List.take_succ, hs]
        simp
      have n1 := (cN_ok g.dig).2.2.1
      have n2 := bel_len g
      have n3 := commas_len g.zr g.zl
      have n4 := commas_len g.o1 g.ol
      have n0 : ("state " : Str).length = 6 := by decide +kernel
      have ns := l_spc
      have sq := state_eq s
      refine ⟨[some (.sh (custD c)), some (.own (.lst ((startT c :: (c.states.take i).map stateT).map D.str))), some (.sh (.int s.says)), some (.sh (encB s.belief)), some (.sh (encR s.zeros)), some (.sh (encR s.ones)), none], by simp [Sta.enc], [some (.sh (custD c)), some (.own (.lst ((startT c :: (c.states.take (i + 1)).map stateT).map D.str))), some (.sh (.int s.says)), some (.sh (encB s.belief)), some (.sh (encR s.zeros)), some (.sh (encR s.ones)), none], z1, ?_, _, _, _, _, rfl, rfl⟩
      rw [et, ← sq]
      generalize ((startT c :: (c.states.take i).map stateT).map D.str) = W at *
      generalize encR s.zeros = Z0 at *
      generalize encR s.ones = O0 at *
      generalize cN s.says = A at *
      generalize belT s = Bt at *
      generalize commasT s.zeros = Ct at *
      generalize commasT s.ones = Dt at *
      have k1 : ("state " : Str).length ≤ sizeLine := by omega
      have k2 : (("state " : Str) ++ A).length ≤ sizeLine := by simp only [app_len]; omega
      have k3 : (("state " : Str) ++ A ++ " ").length ≤ sizeLine := by simp only [app_len]; omega
      have k4 : (("state " : Str) ++ A ++ " " ++ Bt).length ≤ sizeLine := by simp only [app_len]; omega
      have k5 : (("state " : Str) ++ A ++ " " ++ Bt ++ " ").length ≤ sizeLine := by simp only [app_len]; omega
      have k6 : (("state " : Str) ++ A ++ " " ++ Bt ++ " " ++ Ct).length ≤ sizeLine := by simp only [app_len]; omega
      have k7 : (("state " : Str) ++ A ++ " " ++ Bt ++ " " ++ Ct ++ " ").length ≤ sizeLine := by simp only [app_len]; omega
      have k8 : (("state " : Str) ++ A ++ " " ++ Bt ++ " " ++ Ct ++ " " ++ Dt).length ≤ sizeLine := by simp only [app_len]; omega
      have p1 : ∀ z, fmtD z (.str Bt) = some (.str Bt) := fun _ => if_pos (by omega)
      have p2 : ∀ z, fmtD z (.str Ct) = some (.str Ct) := fun _ => if_pos (by omega)
      have p3 : ∀ z, fmtD z (.str Dt) = some (.str Dt) := fun _ => if_pos (by omega)
      simp -implicitDefEqProofs [-ap_if, mJs, empty_app, hb1, c1, a1, b1, p1, p2, p3, k1, k2, k3, k4, k5, k6, k7, k8, hlt])
  rw [List.length_map, List.take_length] at L
  have hw := lines_w h
  have h2 : ∀ z, joinD z (.str "\n") (.lst ((startT c :: c.states.map stateT).map D.str)) = some (.str (custT c)) := (join_okE "\n" (linesT c) l_new (by omega)).1
  have h1' : ∀ z, joinD z (.str " ") (.lst (.str "start" :: (c.starts.map cN).map D.str)) = some (.str (startT c)) := h1
  have sl : (1 + (c.starts.map cN).length) ≤ sizeLine := by simp; omega
  have sl2 : ((c.starts.map cN).map D.str).length + 1 ≤ sizeLine := by simp; omega
  generalize ((startT c :: c.states.map stateT).map D.str) = W at *
  generalize (c.starts.map cN).map D.str = V at *
  generalize c.states.map Sta.enc = S at *
  generalize c.starts.map D.int = S2 at *
  generalize custD c = C at *
  have sqf : ∀ z, sqOf z (.lst V) = some V := fun _ => rfl
  have ft : fit (.str "start" :: V) = some (.str "start" :: V) := if_pos (by simp only [List.length_cons]; exact sl2)
  simp -implicitDefEqProofs [sqf, ft, F_custom_text, runB, m_custom_text, e0, m1, m2, f1, f2, l1, h1', h2, L]
theorem read_ok (c : Cu) (z : Z) (h : COk c) (hz : Zlow z) : F_read_custom [.str (custT c)] z = .ok (custD c) z := by
  have hl := cust_len h
  have := readC_spec (custT c) z (by omega) hz
  rw [readE_cust h] at this
  exact this
theorem sta_ok {s : Sta} (h : SOk s) : okD 2 (Sta.enc s) = true := line_okD (lineV_state h)
theorem ceq_ok (c : Cu) (z : Z) (h : COk c) : F_Custom___eq__ [custD c, custD c] z = .ok (.bl true) z := by
  have e0 : startE 2 [custD c, custD c] = [some (.sh (custD c)), some (.sh (custD c))] := rfl
  have i1 : ∀ z, isiC 26 z (custD c) = some (.bl true) := fun _ => rfl
  have x1 : ∀ z, fldD 26 "rows" z (custD c) = some (.lst (c.states.map Sta.enc)) := fun _ => rfl
  have x2 : ∀ z, fldD 26 "begins" z (custD c) = some (.lst (c.starts.map D.int)) := fun _ => rfl
  have q1 := fun z => eqD_self z (n := 3) (d := .lst (c.states.map Sta.enc)) (by
    unfold okD
    exact okL_map fun s hs => sta_ok (h.st s hs))
  have q2 := fun z => eqD_self z (n := 3) (d := .lst (c.starts.map D.int)) (by
    unfold okD
    exact okL_map fun _ _ => by simp [okD])
  generalize c.states.map Sta.enc = S at *
  generalize c.starts.map D.int = S2 at *
  generalize custD c = C at *
  simp -implicitDefEqProofs [F_Custom___eq__, runB, m_Custom___eq__, e0, i1, x1, x2, q1, q2]
/-! rules and their texts -/
theorem rule_spec {mo : MO} (rest : Z) (names : List Str) (h : SrcOk mo) (hn : 3 ≤ names.length) (hg : ∀ s ∈ names, GoodN s) : ∃ (rows : List (List Str)) (mo' : MO), F__law_rule [.mob 0, .lst (names.map .str)] (mo :: rest) = .ok (.lst (rows.map tdS)) (mo' :: rest) ∧ rows.length ≤ 3 ∧ Rows rows ∧ sortT rows = rows ∧ SrcOk mo' := by
  have e0 : startE 5 [.mob 0, .lst (names.map D.str)] = [some (.sh (.mob 0)), some (.sh (.lst (names.map D.str))), none, none, none] := rfl
  obtain ⟨r1, mo2, d1, f1, f2, hm2⟩ := draw_spec rest h (many := 4) (by omega) (by omega)
  have rr : ∀ z, rng1 z [.int r1] = some (rngD 0 r1.toNat) := fun _ => if_pos ⟨by omega, by omega⟩
  have c3 : ∀ z, slL z (.lst (names.map D.str)) none (some 3) = some ((names.take 3).map D.str) := fun z => by
    show some (cutL _ _ _) = _
    rw [cutL_map']
    unfold cutL
    have e1 : HT.sIx names.length 0 none = 0 := rfl
    have e2 : HT.sIx names.length names.length (some (3 : Int)) = min 3 names.length := HT.sIx_nat _ _ 3
    rw [e1, e2, List.drop_zero, Nat.sub_zero, Nat.min_eq_left hn]
  have tl : (names.take 3).length = 3 := by rw [List.length_take]; omega
  generalize hN : D.lst (names.map D.str) = NM at *
  obtain ⟨ys, z1, l1, ⟨mo3, rfl, hm3⟩, l2, l3⟩ := lcGo_drawT (P := fun z => ∃ mo, z = mo :: rest ∧ SrcOk mo) (E := fun _ (p : Str × Str) => p.1 ∈ names ∧ p.2 ∈ names) (g := setE 3)
    (me := (mTup (mCons (mApp 2 F__law_of (mCons (mVar 0) (mCons (mFz (mSl slL (mVar 1) (mRet none) (mOp1 (fun _ d => (toI d).map some) (mRet (.int 3))))) mNil))) (mCons (mApp 2 F__law_of (mCons (mVar 0) (mCons (mFz (mSl slL (mVar 1) (mRet none) (mOp1 (fun _ d => (toI d).map some) (mRet (.int 3))))) mNil))) mNil))))
    (ρ := wipeE [some (.sh (.mob 0)), some (.sh NM), none, none, none] [3]) (fun i : Nat => D.int (i : Int)) (fun p : Str × Str => tdS [p.1, p.2]) (List.range r1.toNat) [] (mo2 :: rest) ⟨mo2, rfl, hm2⟩ (le_line' (by simp; omega)) (by
      rintro x hx z ⟨mo, rfl, hm⟩
      obtain ⟨a, mo4, g1, g2, g3⟩ := of_lst rest (ds := (names.take 3).map D.str) hm (by simp; omega) (by simp; omega)
      obtain ⟨b, mo5, g4, g5, g6⟩ := of_lst rest (ds := (names.take 3).map D.str) g3 (by simp; omega) (by simp; omega)
      obtain ⟨sa, ha, rfl⟩ := List.mem_map.mp g2
      obtain ⟨sb, hb, rfl⟩ := List.mem_map.mp g5
      refine ⟨[some (.sh (.mob 0)), some (.sh NM), none, some (.sh (.int (x : Int))), none], by simp [wipeE], (sa, sb), mo5 :: rest, ?_, ⟨mo5, rfl, g6⟩, List.mem_of_mem_take ha, List.mem_of_mem_take hb⟩
      generalize (names.take 3).map D.str = N3 at *
      simp -implicitDefEqProofs [c3, g1, g4]
      rfl)
  simp only [List.nil_append] at l1
  rw [← rng_map] at l1
  simp only [List.length_range] at l2
  have lz : ys.length ≤ 3 := by omega
  have l4 : ∀ z, lcGo (setE 4) (mRet true) (mTup (mCons (mCall (bestD false) (mCons (mVar 4) mNil)) (mCons (mCall (bestD true) (mCons (mVar 4) mNil)) mNil))) (wipeE [some (.sh (.mob 0)), some (.sh NM), some (.sh (.lst (ys.map fun p => tdS [p.1, p.2]))), none, none] [4]) (ys.map fun p => tdS [p.1, p.2]) [] z = .ok (ys.map fun p => tdS [minS p.1 p.2, maxS p.1 p.2]) z := fun z =>
    lcGo_mapT (fun p : Str × Str => tdS [p.1, p.2]) _ ys (le_line' (by omega)) fun p _ => ⟨[some (.sh (.mob 0)), some (.sh NM), some (.sh (.lst (ys.map fun p => tdS [p.1, p.2]))), none, some (.sh (tdS [p.1, p.2]))], by simp [wipeE], by
      have b0 : ∀ z, bestD false z [tdS [p.1, p.2]] = some (.str (minS p.1 p.2)) := fun _ => rfl
      have b1 : ∀ z, bestD true z [tdS [p.1, p.2]] = some (.str (maxS p.1 p.2)) := fun _ => rfl
      have et : tdS [minS p.1 p.2, maxS p.1 p.2] = .tup [.str (minS p.1 p.2), .str (maxS p.1 p.2)] := rfl
      rw [et]
      generalize tdS [p.1, p.2] = P at *
      simp -implicitDefEqProofs [b0, b1]⟩
  have so : sortK (ys.map fun p => tdS [minS p.1 p.2, maxS p.1 p.2]) = some ((sortT (ys.map fun p => [minS p.1 p.2, maxS p.1 p.2])).map tdS) := by
    have e : (ys.map fun p => tdS [minS p.1 p.2, maxS p.1 p.2]) = (ys.map fun p => [minS p.1 p.2, maxS p.1 p.2]).map tdS := by
      rw [List.map_map]
      rfl
    rw [e]
    refine sortK_map _ (fun k hk => ?_) (by simp; omega)
    obtain ⟨p, _, rfl⟩ := List.mem_map.mp hk
    simp
  have so2 : ∀ z, sortSetT z (.lst (ys.map fun p => tdS [minS p.1 p.2, maxS p.1 p.2])) = some ((sortT (ys.map fun p => [minS p.1 p.2, maxS p.1 p.2])).map tdS) := fun z => so
  refine ⟨sortT (ys.map fun p => [minS p.1 p.2, maxS p.1 p.2]), mo3, ?_, ?_, ?_, sortT_id, hm3⟩
  · generalize hY : (ys.map fun p => tdS [p.1, p.2]) = YS at *
    generalize (ys.map fun p => tdS [minS p.1 p.2, maxS p.1 p.2]) = ZS at *
    simp -implicitDefEqProofs [F__law_rule, runB, m__law_rule, e0, d1, rr, l1, l4, so2]
  · have := sortT_len (ys.map fun p => [minS p.1 p.2, maxS p.1 p.2])
    rw [List.length_map] at this
    omega
  · refine Rows.sort fun k hk => ?_
    obtain ⟨p, hp, rfl⟩ := List.mem_map.mp hk
    obtain ⟨x, _, h1, h2⟩ := l3 p hp
    exact rowOk_of (good_nameB (hg _ h1)) (good_nameB (hg _ h2))

def small (x : Str) : Prop := ∀ c ∈ x.cps.toList, c < 256
theorem small_join {y : Str} {ps : List Str} (h1 : small y) (h2 : ∀ p ∈ ps, small p) : small (Txt.join y ps) := fun c hc => by
  rw [TL.join_eq] at hc
  rcases join_cps y ps c hc with h | ⟨p, hp, h⟩
  · exact h1 c h
  · exact h2 p hp c h
theorem small_str {x : Str} (h : small x) : PyData.strOk x = true := by
  unfold PyData.strOk
  rw [Array.all_eq_true']
  intro c hc
  have := h c (by simpa using hc)
  exact decide_eq_true (by omega)
theorem small_app {x y : Str} (h1 : small x) (h2 : small y) : small (x ++ y) := fun c hc => by
  rw [cps_app, List.mem_append] at hc
  rcases hc with h | h
  · exact h1 c h
  · exact h2 c h
theorem small_lit {x : Str} (h : (x.cps.toList.all fun c => decide (c < 256)) = true) : small x := fun c hc => by simpa using List.all_eq_true.mp h c hc
theorem small_cN {x : Int} (h : 0 ≤ x ∧ x < 10) : small (cN x) := fun c hc => by
  have := List.all_eq_true.mp (cN_ok h).2.2.2 c hc
  simp at this
  omega
theorem name_letters {s : Str} (h : nameB s = true) : ∀ c ∈ s.cps.toList, c ∈ lettersL := fun c hc => by
  unfold nameB at h
  simp only [Bool.and_eq_true] at h
  have h3 := h.2.2
  rw [List.all_eq_true] at h3
  have hm : ((inS [] (sgn c) (.str "abcdefghijklmnopqrstuvwxyz")).getD false) ∈ (s.cps.toList.map sgn).map fun d => ((inS [] d (.str "abcdefghijklmnopqrstuvwxyz")).getD false) :=
    List.mem_map_of_mem (f := fun d => (inS [] d (.str "abcdefghijklmnopqrstuvwxyz")).getD false) (List.mem_map_of_mem (f := sgn) hc)
  have h4 := h3 _ hm
  rw [inS_sgn] at h4
  simpa [lettersL] using h4
theorem let_rng : ∀ c ∈ lettersL, 97 ≤ c ∧ c < 256 := by decide +kernel
theorem small_name {s : Str} (h : nameB s = true) : small s := fun c hc => (let_rng c (name_letters h c hc)).2
theorem name_no {s : Str} (h : nameB s = true) {c : Nat} (hc : c < 97) : c ∉ s.cps.toList := fun hm => by
  have := (let_rng c (name_letters h c hm)).1
  omega
theorem small_cust {c : Cu} (h : COk c) : small (custT c) := by
  have sp : small " " := small_lit (by decide +kernel)
  refine small_join (small_lit (by decide +kernel)) fun p hp => ?_
  rcases List.mem_cons.mp hp with rfl | hp
  · refine small_join sp fun q hq => ?_
    rcases List.mem_cons.mp hq with rfl | hq
    · exact small_lit (by decide +kernel)
    · obtain ⟨x, hx, rfl⟩ := List.mem_map.mp hq
      exact small_cN (h.digs x hx)
  · obtain ⟨s, hs, rfl⟩ := List.mem_map.mp hp
    have g := h.st s hs
    have cm : ∀ r, Digs r → small (commasT r) := fun r hr => small_join (small_lit (by decide +kernel)) fun q hq => by
      obtain ⟨x, hx, rfl⟩ := List.mem_map.mp hq
      exact small_cN (hr x hx)
    refine small_join sp fun q hq => ?_
    simp only [stateW, List.mem_cons, List.not_mem_nil, or_false] at hq
    rcases hq with rfl | rfl | rfl | rfl | rfl
    · exact small_lit (by decide +kernel)
    · exact small_cN g.dig
    · unfold belT
      cases hb : s.belief with
      | none => exact small_lit (by decide +kernel)
      | some b => exact small_name (good_nameB (g.bel b hb))
    · exact cm _ g.zr
    · exact cm _ g.o1
/-! texts of pairs -/
def Goods (ks : List (List Str)) : Prop := ∀ k ∈ ks, goodW k = true
theorem pt_two {k : List Str} (h : goodW k = true) : ∃ a b, k = [a, b] ∧ pairText k = a ++ " " ++ b ∧ nameB a = true ∧ nameB b = true := by
  obtain ⟨a, b, rfl, h1, h2⟩ := goodW_two h
  exact ⟨a, b, rfl, rfl, h1, h2⟩
theorem pt_len {k : List Str} (h : goodW k = true) : (pairText k).length ≤ 17 := by
  obtain ⟨a, b, rfl, e, h1, h2⟩ := pt_two h
  have := name_short h1
  have := name_short h2
  rw [e, app_len, app_len, l_spc]
  omega
theorem pt_small {k : List Str} (h : goodW k = true) : small (pairText k) := by
  obtain ⟨a, b, rfl, e, h1, h2⟩ := pt_two h
  rw [e]
  exact small_app (small_app (small_name h1) (small_lit (by decide +kernel))) (small_name h2)
theorem pt_split {k : List Str} (h : goodW k = true) : Txt.split (pairText k) " " = k ∧ 59 ∉ (pairText k).cps.toList ∧ 32 ∈ (pairText k).cps.toList := by
  obtain ⟨a, b, rfl, e, h1, h2⟩ := pt_two h
  have es : ((" " : Str).cps.toList) = [32] := by decide +kernel
  refine ⟨?_, ?_, ?_⟩
  · have : pairText [a, b] = Txt.join " " [a, b] := by rw [TL.join_eq]; exact e
    rw [this]
    exact sp_spc (by simp) fun p hp => by
      simp only [List.mem_cons, List.not_mem_nil, or_false] at hp
      rcases hp with rfl | rfl
      · exact name_no h1 (by omega)
      · exact name_no h2 (by omega)
  · rw [e, cps_app, cps_app, es]
    simp only [List.mem_append, List.mem_singleton, not_or]
    exact ⟨⟨name_no h1 (by omega), by omega⟩, name_no h2 (by omega)⟩
  · rw [e, cps_app, cps_app, es]
    simp
theorem joinS_ok (ks : List (List Str)) (h : Goods ks) (hl : ks.length ≤ 20) : (∀ z, joinD z (.str "; ") (.lst ((ks.map pairText).map D.str)) = some (.str (Txt.join "; " (ks.map pairText)))) := fun z => by
  have e := wS_eq (ks.map pairText)
  have hw := wS_le (ys := ks.map pairText) (m := 17) fun y hy => by
    obtain ⟨k, hk, rfl⟩ := List.mem_map.mp hy
    exact pt_len (h k hk)
  rw [List.length_map] at hw
  show (strsOf ((ks.map pairText).map D.str)).bind _ = _
  rw [strsOf_map]
  exact if_pos (by rw [l_sem, List.length_map]; omega)
theorem text_len (ks : List (List Str)) (h : Goods ks) (hl : ks.length ≤ 6) : (textOf ks).length ≤ 120 := by
  unfold textOf
  split
  · have : ("-" : Str).length = 1 := by decide +kernel
    omega
  · rename_i hne
    have e := wS_eq (ks.map pairText)
    have hw := wS_le (ys := ks.map pairText) (m := 17) fun y hy => by
      obtain ⟨k, hk, rfl⟩ := List.mem_map.mp hy
      exact pt_len (h k hk)
    have js := join_lenS "; " (ks.map pairText) (by simpa using hne)
    rw [TL.join_eq]
    rw [List.length_map] at hw e
    rw [l_sem, List.length_map] at js
    omega
theorem text_small (ks : List (List Str)) (h : Goods ks) : small (textOf ks) := by
  unfold textOf
  split
  · exact small_lit (by decide +kernel)
  · exact small_join (small_lit (by decide +kernel)) fun p hp => by
      obtain ⟨k, hk, rfl⟩ := List.mem_map.mp hp
      exact pt_small (h k hk)
theorem readV_text (ks : List (List Str)) (h : Goods ks) : readV (textOf ks) = some (sortT (ks.map ordW)) := by
  unfold readV textOf
  by_cases c : ks = []
  · subst c
    rfl
  · rw [if_neg c]
    have sp : Txt.split (Txt.join "; " (ks.map pairText)) "; " = ks.map pairText := sp_sem (by simpa using c) fun p hp => by
      obtain ⟨k, hk, rfl⟩ := List.mem_map.mp hp
      exact (pt_split (h k hk)).2.1
    have wv : wsV (Txt.join "; " (ks.map pairText)) = ks := by
      unfold wsV
      rw [sp, List.map_map]
      exact (List.map_congr_left (g := id) fun k hk => (pt_split (h k hk)).1).trans (List.map_id ks)
    have nd : ¬ Txt.join "; " (ks.map pairText) = "-" := fun e => by
      rw [e] at sp
      have e1 : Txt.split "-" "; " = ([("-" : Str)]) := by decide +kernel
      rw [e1] at sp
      obtain ⟨k, r, rfl⟩ := List.exists_cons_of_ne_nil c
      have e2 : ("-" : Str) = pairText k := (List.cons.inj sp).1
      have e3 := (pt_split (h k (by simp))).2.2
      rw [← e2] at e3
      have e4 : (("-" : Str).cps.toList) = [45] := by decide +kernel
      rw [e4] at e3
      simp at e3
    rw [if_neg nd, wv, if_pos (List.all_eq_true.mpr h)]
theorem readR_ok (ks : List (List Str)) (z : Z) (h : Goods ks) (hl : ks.length ≤ 6) (hz : Zlow z) : F_read_rule [.str (textOf ks)] z = .ok (ruleD (sortT (ks.map ordW))) z := by
  have := readR_spec (textOf ks) z (text_len ks h hl) hz
  rw [readV_text ks h] at this
  exact this
theorem Rows.goods {rows : List (List Str)} (h : Rows rows) : Goods rows := fun k hk => (h k hk).1
theorem ltext_ok (rows : List (List Str)) (z : Z) (h : Rows rows) (hl : rows.length ≤ 6) : F__law_rule_text [.lst (rows.map tdS)] z = .ok (.str (textOf rows)) z := by
  have e0 : startE 3 [.lst (rows.map tdS)] = [some (.sh (.lst (rows.map tdS))), none, none] := rfl
  have ne : ∀ z, neD z (.lst (rows.map tdS)) (.lst []) = some (!decide (rows = [])) := fun z => by
    have := eq_rows rows [] z h (fun _ h => (nomatch h))
    unfold neD
    rw [show (D.lst []) = .lst (([] : List (List Str)).map tdS) from rfl, this]
    rfl
  have l1 : lcGo (tupT 2 (consT (setE 1) (consT (setE 2) nilT))) (mRet true) (mOp2 addD (mOp2 addD (mVar 1) (mRet (.str " "))) (mVar 2)) (wipeE [some (.sh (.lst (rows.map tdS))), none, none] [1, 2]) (rows.map tdS) [] z = .ok ((rows.map pairText).map D.str) z := by
    rw [List.map_map]
    exact lcGo_mapT tdS _ rows (le_line' (by omega)) fun k hk => by
      obtain ⟨a, b, rfl, e, h1, h2⟩ := pt_two (h.goods k hk)
      have := name_short h1
      have := name_short h2
      have a1 : ∀ z, addD z (.str a) (.str " ") = some (.str (a ++ " ")) := fun _ => if_pos (by rw [l_spc]; have := sizeLine_eq; omega)
      have al : (a ++ " ").length = a.length + 1 := by rw [app_len, l_spc]
      have a2 : ∀ z, addD z (.str (a ++ " ")) (.str b) = some (.str (a ++ " " ++ b)) := fun _ => if_pos (by rw [al]; have := sizeLine_eq; omega)
      exact ⟨[some (.sh (.lst (rows.map tdS))), some (.sh (.str a)), some (.sh (.str b))], by simp [wipeE, tdS], by simp -implicitDefEqProofs [a1, a2, pairText]⟩
  have jd := joinS_ok rows h.goods (by omega)
  unfold textOf
  by_cases c : rows = []
  · rw [if_pos c]
    have ne' : ∀ z, neD z (.lst (rows.map tdS)) (.lst []) = some false := fun z => by rw [ne z]; simp [c]
    generalize rows.map tdS = W at *
    simp -implicitDefEqProofs [F__law_rule_text, runB, m__law_rule_text, e0, ne']
  · rw [if_neg c]
    have ne' : ∀ z, neD z (.lst (rows.map tdS)) (.lst []) = some true := fun z => by rw [ne z]; simp [c]
    generalize (rows.map pairText).map D.str = V at *
    generalize rows.map tdS = W at *
    simp -implicitDefEqProofs [F__law_rule_text, runB, m__law_rule_text, e0, ne', l1, jd]
theorem rtext_ok (rows : List (List Str)) (z : Z) (h : Rows rows) (hl : rows.length ≤ 6) : F_rule_text [ruleD rows] z = .ok (.str (textOf rows)) z := by
  have hline : sizeLine = 16777216 := sizeLine_eq
  have e0 : startE 3 [ruleD rows] = [some (.sh (ruleD rows)), none, none] := rfl
  have io : ∀ z, ((insOf z (ruleD rows)).bind fun p => if p.1 = 27 then some (ruleD rows) else none) = some (ruleD rows) := fun _ => rfl
  have mp : ∀ z, methD 27 "pairs" z (ruleD rows) = some (ruleD rows) := fun _ => rfl
  have pr := fun z => pairs_ok rows z
  have bo := fun z => bool_ok rows z
  have l1 : ∀ R : D, lcGo (tupT 2 (consT (setE 1) (consT (setE 2) nilT))) (mRet true) (mJs Str.empty ((mOp1 fmtD (mVar 1)) :: ((mRet (.str " ")) :: ((mOp1 fmtD (mVar 2)) :: [])))) (wipeE [some (.sh R), none, none] [1, 2]) (rows.map tdS) [] z = .ok ((rows.map pairText).map D.str) z := fun R => by
    rw [List.map_map]
    exact lcGo_mapT tdS _ rows (le_line' (by omega)) fun k hk => by
      obtain ⟨a, b, rfl, e, h1, h2⟩ := pt_two (h.goods k hk)
      have n1 := name_short h1
      have n2 := name_short h2
      have ns := l_spc
      have k1 : a.length ≤ sizeLine := by omega
      have k2 : (a ++ " ").length ≤ sizeLine := by simp only [app_len]; omega
      have k3 : (a ++ " " ++ b).length ≤ sizeLine := by simp only [app_len]; omega
      have p1 : ∀ z, fmtD z (.str a) = some (.str a) := fun _ => if_pos (by omega)
      have p2 : ∀ z, fmtD z (.str b) = some (.str b) := fun _ => if_pos (by omega)
      exact ⟨[some (.sh R), some (.sh (.str a)), some (.sh (.str b))], by simp [wipeE, tdS], by simp -implicitDefEqProofs [mJs, empty_app, p1, p2, k1, k2, k3, pairText]⟩
  have jd := joinS_ok rows h.goods (by omega)
  unfold textOf
  by_cases c : rows = []
  · rw [if_pos c]
    have bo' : ∀ z, F_Rule___bool__ [ruleD rows] z = .ok (.bl false) z := fun z => by rw [bo z, c]; rfl
    generalize ruleD rows = R at *
    simp -implicitDefEqProofs [F_rule_text, runB, m_rule_text, e0, io, bo', blR]
  · rw [if_neg c]
    have bo' : ∀ z, F_Rule___bool__ [ruleD rows] z = .ok (.bl true) z := fun z => by
      rw [bo z]
      obtain ⟨k, r, rfl⟩ := List.exists_cons_of_ne_nil c
      rfl
    have l1 := l1 (ruleD rows)
    generalize (rows.map pairText).map D.str = V at *
    generalize rows.map tdS = W at *
    generalize ruleD rows = R at *
    simp -implicitDefEqProofs [F_rule_text, runB, m_rule_text, e0, io, bo', blR, mp, pr, l1, jd]
theorem ord_turn {a b : Str} (h : RowOk [a, b]) : ordW [b, a] = [a, b] := by
  have e : [minS a b, maxS a b] = [a, b] := h.2
  show [minS b a, maxS b a] = [a, b]
  rw [(min_comm b a).1, (min_comm b a).2]
  exact e
theorem rmade_ok (rows : List (List Str)) (z : Z) (h : Rows rows) (hs : sortT rows = rows) (hl : rows.length ≤ 6) (hz : Zlow z) : F__law_rule_made [.lst (rows.map tdS)] z = .ok (ruleD rows) z := by
  have e0 : startE 4 [.lst (rows.map tdS)] = [some (.sh (.lst (rows.map tdS))), none, none, none] := rfl
  have n0 : ∀ ρ : En, mNewFV 27 1 F_Rule___init__ mNil ρ z = .ok (ruleD []) z := fun ρ => new_ok (ml := mNil) [] rfl (fun _ h => (nomatch h)) (by simp) hz
  obtain ⟨ρ', z', L, u2, u3, rfl, rfl⟩ := forGo_ix (I := fun i ρ z1 => ∃ (u2 u3 : Option DV), ρ = [some (.sh (.lst (rows.map tdS))), some (.sh (ruleD (sortT (rows.take i)))), u2, u3] ∧ z1 = z)
    (g := tupT 2 (consT (setE 2) (consT (setE 3) nilT))) (body := (sAsg (setE 1) (mAddT 27 F_Rule___add__ (mVar 1) (mTup (mCons (mVar 3) (mCons (mVar 2) mNil))))))
    (rows.map tdS) (rows.map tdS) 0 [some (.sh (.lst (rows.map tdS))), some (.sh (ruleD [])), none, none] z (by simp) rfl ⟨_, _, rfl, rfl⟩ (by
      rintro i d hd ρ z1 ⟨u2, u3, rfl, rfl⟩
      rw [List.getElem?_map] at hd
      obtain ⟨k, hk, rfl⟩ := Option.map_eq_some_iff.mp hd
      have hm := List.mem_of_getElem? hk
      have hi := (List.getElem?_eq_some_iff.mp hk).1
      obtain ⟨a, b, rfl, _, h1, h2⟩ := pt_two (h.goods k hm)
      have tR : Rows (sortT (rows.take i)) := Rows.sort fun j hj => h j (List.mem_of_mem_take hj)
      have tl : (sortT (rows.take i)).length < 60 := by
        have := sortT_len (rows.take i)
        rw [List.length_take] at this
        omega
      have ad : F_Rule___add__ [ruleD (sortT (rows.take i)), .tup [.str b, .str a]] z1 = .ok (ruleD (sortT (sortT (rows.take i) ++ [ordW [b, a]]))) z1 := add_ok (sortT (rows.take i)) (false, [b, a]) z1 tR (by show (nameB b && nameB a) = true; rw [h1, h2]; rfl) tl hz
      rw [ord_turn (h _ hm), sort_snoc] at ad
      have et : rows.take i ++ [[a, b]] = rows.take (i + 1) := by
        rw [List.take_succ, hk]
        rfl
      rw [et] at ad
      have at1 : ∀ z, addTo 27 z (ruleD (sortT (rows.take i))) (.tup [.str b, .str a]) = some [ruleD (sortT (rows.take i)), .tup [.str b, .str a]] := fun _ => rfl
      refine ⟨[some (.sh (.lst (rows.map tdS))), some (.sh (ruleD (sortT (rows.take i)))), some (.sh (.str a)), some (.sh (.str b))], by simp [tdS], [some (.sh (.lst (rows.map tdS))), some (.sh (ruleD (sortT (rows.take (i + 1))))), some (.sh (.str a)), some (.sh (.str b))], z1, ?_, _, _, rfl, rfl⟩
      generalize ruleD (sortT (rows.take i)) = R1 at *
      generalize ruleD (sortT (rows.take (i + 1))) = R2 at *
      simp -implicitDefEqProofs [ad, at1])
  rw [List.length_map, List.take_length, hs] at L
  generalize ruleD rows = R at *
  generalize ruleD [] = R0 at *
  generalize rows.map tdS = W at *
  simp -implicitDefEqProofs [-ap_newFV, F__law_rule_made, runB, m__law_rule_made, e0, n0, L]
/-! the loose text -/
def looseK (rows : List (List Str)) : List (List Str) := (rows.reverse ++ rows).map List.reverse
theorem loose_goods {rows : List (List Str)} (h : Rows rows) : Goods (looseK rows) := fun k hk => by
  obtain ⟨j, hj, rfl⟩ := List.mem_map.mp hk
  have hj : j ∈ rows := by
    rcases List.mem_append.mp hj with hj | hj
    · exact List.mem_reverse.mp hj
    · exact hj
  obtain ⟨a, b, rfl, _, h1, h2⟩ := pt_two (h.goods j hj)
  show (nameB b && nameB a) = true
  rw [h1, h2]
  rfl
theorem loose_sort {rows : List (List Str)} (h : Rows rows) (hs : sortT rows = rows) : sortT ((looseK rows).map ordW) = rows := by
  have e : (looseK rows).map ordW = rows.reverse ++ rows := by
    unfold looseK
    rw [List.map_map]
    refine (List.map_congr_left (g := id) fun k hk => ?_).trans (List.map_id _)
    have hk : k ∈ rows := by
      rcases List.mem_append.mp hk with hj | hj
      · exact List.mem_reverse.mp hj
      · exact hj
    obtain ⟨a, b, rfl, _, h1, h2⟩ := pt_two (h.goods k hk)
    exact ord_turn (h _ hk)
  rw [e]
  exact (sortT_congr fun j => by simp).trans hs
theorem loose_ok (rows : List (List Str)) (z : Z) (h : Rows rows) (hl : rows.length ≤ 3) (SC NM : D) (w3 w4 w5 w6 w7 w9 w10 : Option DV) : (mIf (mOp2 neD (mVar 8) (mFz (mLst mNil))) (mJoin (mRet (.str "; ")) (mFz (mLc (mItems (mOp2 addD (mFz (mOp1 revL (mVar 8))) (mVar 8))) (tupT 2 (consT (setE 11) (consT (setE 12) nilT))) (mRet true) (mOp2 addD (mOp2 addD (mVar 12) (mRet (.str " "))) (mVar 11)) [11, 12]))) (mRet (.str "-"))) [some (.sh SC), some (.sh (.mob 0)), some (.sh NM), w3, w4, w5, w6, w7, some (.sh (.lst (rows.map tdS))), w9, w10, none, none] z = .ok (.str (textOf (looseK rows))) z := by
  have ne : ∀ z, neD z (.lst (rows.map tdS)) (.lst []) = some (!decide (rows = [])) := fun z => by
    have := eq_rows rows [] z h (fun _ h => (nomatch h))
    unfold neD
    rw [show (D.lst []) = .lst (([] : List (List Str)).map tdS) from rfl, this]
    rfl
  by_cases c : rows = []
  · have ne' : ∀ z, neD z (.lst (rows.map tdS)) (.lst []) = some false := fun z => by rw [ne z]; simp [c]
    have ee : textOf (looseK rows) = "-" := by subst c; rfl
    rw [ee]
    generalize rows.map tdS = W at *
    simp -implicitDefEqProofs [ne']
  · have ne' : ∀ z, neD z (.lst (rows.map tdS)) (.lst []) = some true := fun z => by rw [ne z]; simp [c]
    have rv : ∀ z, revL z (.lst (rows.map tdS)) = some ((rows.reverse).map tdS) := fun z => by
      show some (rows.map tdS).reverse = _
      rw [List.map_reverse]
    have ad : ∀ z, addD z (.lst ((rows.reverse).map tdS)) (.lst (rows.map tdS)) = some (.lst ((rows.reverse ++ rows).map tdS)) := fun z => by
      rw [add_lst _ _ (le_line' (by simp; omega)), List.map_append]
    have hm : ∀ k ∈ rows.reverse ++ rows, k ∈ rows := fun k hk => by
      rcases List.mem_append.mp hk with hj | hj
      · exact List.mem_reverse.mp hj
      · exact hj
    have l1 : lcGo (tupT 2 (consT (setE 11) (consT (setE 12) nilT))) (mRet true) (mOp2 addD (mOp2 addD (mVar 12) (mRet (.str " "))) (mVar 11)) (wipeE [some (.sh SC), some (.sh (.mob 0)), some (.sh NM), w3, w4, w5, w6, w7, some (.sh (.lst (rows.map tdS))), w9, w10, none, none] [11, 12]) ((rows.reverse ++ rows).map tdS) [] z = .ok (((looseK rows).map pairText).map D.str) z := by
      unfold looseK
      rw [List.map_map, List.map_map]
      exact lcGo_mapT tdS _ (rows.reverse ++ rows) (le_line' (by simp; omega)) fun k hk => by
        obtain ⟨a, b, rfl, e, h1, h2⟩ := pt_two (h.goods k (hm k hk))
        have := name_short h1
        have := name_short h2
        have a1 : ∀ z, addD z (.str b) (.str " ") = some (.str (b ++ " ")) := fun _ => if_pos (by rw [l_spc]; have := sizeLine_eq; omega)
        have al : (b ++ " ").length = b.length + 1 := by rw [app_len, l_spc]
        have a2 : ∀ z, addD z (.str (b ++ " ")) (.str a) = some (.str (b ++ " " ++ a)) := fun _ => if_pos (by rw [al]; have := sizeLine_eq; omega)
        exact ⟨[some (.sh SC), some (.sh (.mob 0)), some (.sh NM), w3, w4, w5, w6, w7, some (.sh (.lst (rows.map tdS))), w9, w10, some (.sh (.str a)), some (.sh (.str b))], by simp [wipeE, tdS], by simp -implicitDefEqProofs [a1, a2, pairText]⟩
    have jd := joinS_ok (looseK rows) (loose_goods h) (by simp [looseK]; omega)
    have tt : textOf (looseK rows) = Txt.join "; " ((looseK rows).map pairText) := if_neg (by simp [looseK, c])
    rw [tt]
    generalize ((looseK rows).map pairText).map D.str = V at *
    generalize (rows.reverse ++ rows).map tdS = W2 at *
    generalize (rows.reverse).map tdS = W3 at *
    generalize rows.map tdS = W at *
    simp -implicitDefEqProofs [ne', rv, ad, l1, jd]
theorem req_ok (rows : List (List Str)) (z : Z) (h : Rows rows) : F_Rule___eq__ [ruleD rows, ruleD rows] z = .ok (.bl true) z := by
  rw [eq_ok rows rows z h h]
  simp
/-! the whole law -/
def cZ : Cu := ⟨[⟨1, none, [0], [0]⟩], [0]⟩
theorem cZ_ok : COk cZ := by
  have r0 : OkR 1 [0] := ⟨by simp, by simp, by simp, by simp⟩
  refine ⟨⟨by simp [cZ], by simp [cZ], fun s hs => ?_, by simp [cZ], by simp [cZ], by simp [cZ], by simp [cZ]⟩, by simp [cZ], fun s hs => ?_⟩
  · cases List.mem_singleton.mp hs
    exact ⟨.inr rfl, fun b h => (by cases h), r0, r0⟩
  · cases List.mem_singleton.mp hs
    have d0 : Digs [0] := fun x hx => by cases List.mem_singleton.mp hx; omega
    exact ⟨.inr rfl, fun b h => (by cases h), by simp, d0, by simp, by simp, d0, by simp⟩
theorem cZ_text : custT cZ = "start 0\nstate 1 - 0 0" := by decide +kernel
theorem good_cok {names : List Str} {c : Cu} (h : GoodC 7 names c) (hn : ∀ s ∈ names, GoodN s) : COk c := by
  have hf := h.few
  have dg : ∀ {r : List Int}, GoodR c.states.length r → Digs r := fun {r} g x hx => by
    have := g.rng x hx
    omega
  exact ⟨goodC_ok h (by omega) hn, hf, fun s hs => ⟨(h.st s hs).says, fun b hb => hn b ((h.st s hs).belief b hb), (h.st s hs).zeros.ne, dg (h.st s hs).zeros, (h.st s hs).zeros.few, (h.st s hs).ones.ne, dg (h.st s hs).ones, (h.st s hs).ones.few⟩⟩
theorem law_true (ns : List Int) (hn : ns.length ≤ 63) : ∃ z', F_law [.lst (ns.map .int)] [] = .ok (.bl true) z' := by
  have hline : sizeLine = 16777216 := sizeLine_eq
  obtain ⟨mo, hmo, ds, rfl, hs⟩ := source_spec ns hn
  obtain ⟨names, mo1, f1, n1, n2, n3, hm1⟩ := names_spec [] 5 hmo (by omega)
  have f1' : F__law_names [.mob 0, .int 5] [.lst ds] = .ok (.lst (names.map .str)) [mo1] := f1
  generalize hS : D.lst (ns.map D.int) = SC at *
  have e0 : startE 13 [SC] = [some (.sh SC), none, none, none, none, none, none, none, none, none, none, none, none] := rfl
  obtain ⟨ρ9, z9, L, w3, w4, w5, w6, w7, w8, w9, w10, moF, rfl, rfl, hmF⟩ := forGo_inv (I := fun ρ z => ∃ (w3 w4 w5 w6 w7 w8 w9 w10 : Option DV) (mo : MO), ρ = [some (.sh SC), some (.sh (.mob 0)), some (.sh (.lst (names.map D.str))), w3, w4, w5, w6, w7, w8, w9, w10, none, none] ∧ z = [mo] ∧ SrcOk mo)
    (g := setE 3) (body := (sSeq (sAsg (setE 4) (mApp 3 F__law_custom (mCons (mVar 1) (mCons (mVar 2) (mCons (mRet (.int 7)) mNil)))))
    (sSeq (sParV [5, 6] (mVSh (mApp 1 F__law_made (mCons (mVar 4) mNil)) (mVSh (mApp 1 F__law_custom_text (mCons (mVar 4) mNil)) mVNil)))
    (sSeq (sIf (mNot (mOp1 truD (mApp 2 F__law_same (mCons (mFz (mLst (mCons (mApp 1 F_custom_text (mCons (mVar 5) mNil)) (mCons (mApp 1 F_custom_text (mCons (mVar 5) mNil)) mNil)))) (mCons (mFz (mLst (mCons (mVar 6) (mCons (mVar 6) mNil)))) mNil))))) (sRet (mRet (.bl false))) sNx)
    (sSeq (sAsg (setE 7) (mApp 1 F_read_custom (mCons (mVar 6) mNil)))
    (sSeq (sIf (mOr (mNot (mOp1 truD (mApp 2 F__law_custom_so (mCons (mVar 7) (mCons (mVar 4) mNil))))) (mOr (mOwnBT (eq2 26) true F_Custom___eq__ (mVar 7) (mVar 5)) (mOwnBT (eq2 26) true F_Custom___eq__ (mApp 1 F_read_custom (mCons (mApp 1 F_custom_text (mCons (mVar 7) mNil)) mNil)) (mVar 5)))) (sRet (mRet (.bl false))) sNx)
    (sSeq (sAsg (setE 8) (mApp 2 F__law_rule (mCons (mVar 1) (mCons (mVar 2) mNil))))
    (sSeq (sAsg (setE 9) (mApp 1 F__law_rule_made (mCons (mVar 8) mNil)))
    (sSeq (sIf (mNot (mOp1 truD (mApp 2 F__law_same (mCons (mFz (mLst (mCons (mApp 1 F_rule_text (mCons (mVar 9) mNil)) (mCons (mFz (mMethF 27 "pairs" 1 F_Rule_pairs (mApp 1 F_read_rule (mCons (mApp 1 F__law_rule_text (mCons (mVar 8) mNil)) mNil)) mNil)) mNil)))) (mCons (mFz (mLst (mCons (mApp 1 F__law_rule_text (mCons (mVar 8) mNil)) (mCons (mVar 8) mNil)))) mNil))))) (sRet (mRet (.bl false))) sNx)
    (sSeq (sAsg (setE 10) (mIf (mOp2 neD (mVar 8) (mFz (mLst mNil))) (mJoin (mRet (.str "; ")) (mFz (mLc (mItems (mOp2 addD (mFz (mOp1 revL (mVar 8))) (mVar 8))) (tupT 2 (consT (setE 11) (consT (setE 12) nilT))) (mRet true) (mOp2 addD (mOp2 addD (mVar 12) (mRet (.str " "))) (mVar 11)) [11, 12]))) (mRet (.str "-"))))
    (sIf (mOr (mOwnBT (eq2 27) true F_Rule___eq__ (mApp 1 F_read_rule (mCons (mVar 10) mNil)) (mVar 9)) (mOp2 neD (mApp 1 F_rule_text (mCons (mApp 1 F_read_rule (mCons (mVar 10) mNil)) mNil)) (mApp 1 F__law_rule_text (mCons (mVar 8) mNil)))) (sRet (mRet (.bl false))) sNx))))))))))) (rngD 0 3) [some (.sh SC), some (.sh (.mob 0)), some (.sh (.lst (names.map D.str))), none, none, none, none, none, none, none, none, none, none] [mo1] ⟨_, _, _, _, _, _, _, _, mo1, rfl, rfl, hm1⟩ (by
      rintro d hd ρ z ⟨w3, w4, w5, w6, w7, w8, w9, w10, mo, rfl, rfl, hm⟩
      obtain ⟨c, mo3, g1, g2, hm3⟩ := custom_spec [] names 7 hm (by omega) (by omega) (by omega)
      have g1' : F__law_custom [.mob 0, .lst (names.map .str), .int 7] [mo] = .ok c.enc [mo3] := g1
      have ck : COk c := good_cok g2 fun s hs => n3 s (List.mem_of_mem_take hs)
      have hz3 : Zlow [mo3] := Zlow.src hm3 Zlow.nil
      have lm := law_made_ok c [mo3] ck.ok hz3
      have lt := ctext_ok c [mo3] ck
      have ct := custom_text_ok c [mo3] ck
      have rc := read_ok c [mo3] ck hz3
      have so := so_spec c [mo3] ck.ok.err (by have := ck.ok.sfew; have := ck.few; omega)
      have e2 : ∀ z, eq2 26 z (custD c) (custD c) = some [custD c, custD c] := fun _ => rfl
      have ce := ceq_ok c [mo3] ck
      have cs := small_str (small_cust ck)
      have cl := cust_len ck
      have cz : (custT c).cps.size = (custT c).length := rfl
      have s1 := same_spec (.lst [.str (custT c), .str (custT c)]) [mo3] (n := 3) (by
        unfold rpD
        simp [rpL, rpD, cs]) (by omega) (by
        simp only [wt, wtL]
        omega)
      obtain ⟨rows, mo4, g3, rl, R, rs, hm4⟩ := rule_spec [] names hm3 (by omega) n3
      have hz4 : Zlow [mo4] := Zlow.src hm4 Zlow.nil
      have rm := rmade_ok rows [mo4] R rs (by omega) hz4
      have lt2 := ltext_ok rows [mo4] R (by omega)
      have rt := rtext_ok rows [mo4] R (by omega)
      have rr := readR_ok rows [mo4] R.goods (by omega) hz4
      rw [rows_ord R, rs] at rr
      have pr := fun z => pairs_ok rows z
      have mp : ∀ z, methD 27 "pairs" z (ruleD rows) = some (ruleD rows) := fun _ => rfl
      have ts := small_str (text_small rows R.goods)
      have tl := text_len rows R.goods (by omega)
      have tz : (textOf rows).cps.size = (textOf rows).length := rfl
      have s2 := same_spec (.lst [.str (textOf rows), .lst (rows.map tdS)]) [mo4] (n := 4) (by
        have h1 := (rows_rp R.okK).1
        unfold rpD
        simp only [rpL, h1, Bool.and_true]
        simp [rpD, ts]) (by omega) (by
        have h1 := rows_wt R.okK
        simp only [wt, wtL] at h1 ⊢
        omega)
      have lo := fun (w3 w4 w5 w6 w7 w9 w10 : Option DV) => loose_ok rows [mo4] R rl SC (.lst (names.map .str)) w3 w4 w5 w6 w7 w9 w10
      have rlo := readR_ok (looseK rows) [mo4] (loose_goods R) (by simp [looseK]; omega) hz4
      rw [loose_sort R rs] at rlo
      have e27 : ∀ z, eq2 27 z (ruleD rows) (ruleD rows) = some [ruleD rows, ruleD rows] := fun _ => rfl
      have rq := req_ok rows [mo4] R
      have nt := fun z => neD_self z (n := 1) (d := .str (textOf rows)) ts
      have itm : itemsL (.lst (rows.map tdS)) = some (rows.map tdS) := rfl
      refine ⟨_, setE_in 3 _ (by simp), [some (.sh SC), some (.sh (.mob 0)), some (.sh (.lst (names.map D.str))), some (.sh d), some (.sh c.enc), some (.sh (custD c)), some (.sh (.str (custT c))), some (.sh (custD c)), some (.sh (.lst (rows.map tdS))), some (.sh (ruleD rows)), some (.sh (.str (textOf (looseK rows)))), none, none], [mo4], ?_, _, _, _, _, _, _, _, _, mo4, rfl, rfl, hm4⟩
      clear n1 n2 n3 g2 ck hz3 cs cl cz R rs hz4 ts tl tz
      generalize rows.map tdS = RW at *
      generalize ruleD rows = RD at *
      generalize textOf (looseK rows) = TL at *
      generalize textOf rows = TX at *
      generalize custT c = CT at *
      generalize custD c = CD at *
      generalize c.enc = CE at *
      generalize D.lst (names.map D.str) = NM at *
      simp -implicitDefEqProofs [-ap_if, g1', lm, lt, ct, s1, rc, so, e2, ce, blR, g3, rm, lt2, rt, rr, pr, mp, s2, lo, rlo, e27, rq, nt, itm])
  have hzF : Zlow [moF] := Zlow.src hmF Zlow.nil
  have rc := read_ok cZ [moF] cZ_ok hzF
  have ct := custom_text_ok cZ [moF] cZ_ok
  rw [cZ_text] at rc ct
  have r3 : ∀ z, rng1 z [.int 3] = some (rngD 0 3) := fun _ => rfl
  have kt : PyData.strOk "start 0\nstate 1 - 0 0" = true := by decide +kernel
  have eq := fun z => eqD_self z (n := 1) (d := .str "start 0\nstate 1 - 0 0") kt
  refine ⟨[moF], ?_⟩
  clear n1 n2 n3
  generalize custD cZ = CD at *
  generalize D.lst (names.map D.str) = NM at *
  simp -implicitDefEqProofs [F_law, runB, m_law, e0, hs, f1', r3, L, rc, ct, eq]
end K47
set_option maxHeartbeats 4000000
namespace K47
open PySem PySem.Spec PyProof.Rows L2 NW
theorem all_mk {l : PySem.W.OpenLaw} {w : World} {K : PySem.W.Frag} {h : Heap} {mg : Str → Option Value} {fa : Addr} (X : K.In h) (G : h.Ns mainGlobals mg) (hfa : mg "law" = some (.ref fa)) (hF : ∀ ns : List Int, ns.length ≤ 63 → ∃ z', F_law [.lst (ns.map .int)] [] = .ok (.bl true) z')
    {C5 C6 C7 C9 C16 C26 C27 f0 f1 f2 f3 f4 f5 f6 f7 f8 f9 f10 f11 f12 f13 f14 f15 f16 f17 f18 f19 f20 f21 f22 f23 f24 f25 f26 f27 f28 f29 f30 f31 f32 f33 f34 f35 f36 f37 f38 fx5 cc5 cx5 fx6 cc6 cx6 fx7 cc7 cx7 fx9 cc9 cx9 fx16 cc16 cx16 : Addr} {od0 an0 od1 an1 od2 an2 od3 an3 od4 an4 od5 an5 od6 an6 od7 an7 od8 an8 od9 an9 od10 an10 od11 an11 od12 an12 od13 an13 od14 an14 od15 an15 od16 an16 od17 an17 od18 an18 od19 an19 od20 an20 od21 an21 od22 an22 od23 an23 od24 an24 od25 an25 od26 an26 od27 an27 od28 an28 od29 an29 od30 an30 od31 an31 od32 an32 od33 an33 od34 an34 od35 an35 od36 an36 od37 an37 od38 an38 odx5 anx5 odx6 anx6 odx7 anx7 odx9 anx9 odx16 anx16 : Option Addr} {sl0 sl1 sl2 sl3 sl4 sl5 sl6 sl7 sl8 sl9 sl10 sl11 sl12 sl13 sl14 sl15 sl16 sl17 sl18 sl19 sl20 sl21 sl22 sl23 sl24 sl25 sl26 sl27 sl28 sl29 sl30 sl31 sl32 sl33 sl34 sl35 sl36 sl37 sl38 slx5 slx6 slx7 slx9 slx16 : Array (Option Value)} {oc0 kV0 dc0 pm0 ct0 cd0 oc1 kV1 dc1 pm1 ct1 cd1 oc2 kV2 dc2 pm2 ct2 cd2 oc3 kV3 dc3 pm3 ct3 cd3 oc4 kV4 dc4 pm4 ct4 cd4 oc5 kV5 dc5 pm5 ct5 cd5 oc6 kV6 dc6 pm6 ct6 cd6 oc7 kV7 dc7 pm7 ct7 cd7 oc8 kV8 dc8 pm8 ct8 cd8 oc9 kV9 dc9 pm9 ct9 cd9 oc10 kV10 dc10 pm10 ct10 cd10 oc11 kV11 dc11 pm11 ct11 cd11 oc12 kV12 dc12 pm12 ct12 cd12 oc13 kV13 dc13 pm13 ct13 cd13 oc14 kV14 dc14 pm14 ct14 cd14 oc15 kV15 dc15 pm15 ct15 cd15 oc16 kV16 dc16 pm16 ct16 cd16 oc17 kV17 dc17 pm17 ct17 cd17 oc18 kV18 dc18 pm18 ct18 cd18 oc19 kV19 dc19 pm19 ct19 cd19 oc20 kV20 dc20 pm20 ct20 cd20 oc21 kV21 dc21 pm21 ct21 cd21 oc22 kV22 dc22 pm22 ct22 cd22 oc23 kV23 dc23 pm23 ct23 cd23 oc24 kV24 dc24 pm24 ct24 cd24 oc25 kV25 dc25 pm25 ct25 cd25 oc26 kV26 dc26 pm26 ct26 cd26 oc27 kV27 dc27 pm27 ct27 cd27 oc28 kV28 dc28 pm28 ct28 cd28 oc29 kV29 dc29 pm29 ct29 cd29 oc30 kV30 dc30 pm30 ct30 cd30 oc31 kV31 dc31 pm31 ct31 cd31 oc32 kV32 dc32 pm32 ct32 cd32 oc33 kV33 dc33 pm33 ct33 cd33 oc34 kV34 dc34 pm34 ct34 cd34 oc35 kV35 dc35 pm35 ct35 cd35 oc36 kV36 dc36 pm36 ct36 cd36 oc37 kV37 dc37 pm37 ct37 cd37 oc38 kV38 dc38 pm38 ct38 cd38 ocx5 kVx5 dcx5 pmx5 ctx5 ocx6 kVx6 dcx6 pmx6 ctx6 ocx7 kVx7 dcx7 pmx7 ctx7 ocx9 kVx9 dcx9 pmx9 ctx9 ocx16 kVx16 dcx16 pmx16 ctx16 : Value} {t_Custom_MOST_NEXTS t_Custom_MOST_STATES t_DIGITS t_LETTERS t_MOST_DIGITS t_MOST_SIGNS : Tok}
    (zm_WrongCount : PySem.W.nsIn K mainGlobals "WrongCount" = some (some (.ref C5)))
    (zm_InvalidState : PySem.W.nsIn K mainGlobals "InvalidState" = some (some (.ref C6)))
    (zm_InvalidStart : PySem.W.nsIn K mainGlobals "InvalidStart" = some (some (.ref C7)))
    (zm_InvalidPair : PySem.W.nsIn K mainGlobals "InvalidPair" = some (some (.ref C9)))
    (zm_InvalidText : PySem.W.nsIn K mainGlobals "InvalidText" = some (some (.ref C16)))
    (zm_Custom : PySem.W.nsIn K mainGlobals "Custom" = some (some (.ref C26)))
    (zm_Rule : PySem.W.nsIn K mainGlobals "Rule" = some (some (.ref C27)))
    (a0 : PySem.W.nsIn K mainGlobals "_law_source" = some (some (.ref f0)))
    (l0 : K.lookup f0 = some ⟨oc0, od0, .func (PySem.W.fnOf "_law_source" "_law_source" (defArgs st__law_source) (defBody st__law_source) (defScope st__law_source) .none kV0 dc0 pm0 an0 cd0 ct0), sl0⟩) (c0 : PySem.W.codeIn K cd0 "_law_source" = true) (k0 : PySem.W.keepIn K (.ref f0) = true)
    (a1 : PySem.W.nsIn K mainGlobals "_law_draw" = some (some (.ref f1)))
    (l1 : K.lookup f1 = some ⟨oc1, od1, .func (PySem.W.fnOf "_law_draw" "_law_draw" (defArgs st__law_draw) (defBody st__law_draw) (defScope st__law_draw) .none kV1 dc1 pm1 an1 cd1 ct1), sl1⟩) (c1 : PySem.W.codeIn K cd1 "_law_draw" = true) (k1 : PySem.W.keepIn K (.ref f1) = true)
    (a2 : PySem.W.nsIn K mainGlobals "_law_mixed" = some (some (.ref f2)))
    (l2 : K.lookup f2 = some ⟨oc2, od2, .func (PySem.W.fnOf "_law_mixed" "_law_mixed" (defArgs st__law_mixed) (defBody st__law_mixed) (defScope st__law_mixed) .none kV2 dc2 pm2 an2 cd2 ct2), sl2⟩) (c2 : PySem.W.codeIn K cd2 "_law_mixed" = true) (k2 : PySem.W.keepIn K (.ref f2) = true)
    (a3 : PySem.W.nsIn K mainGlobals "_law_of" = some (some (.ref f3)))
    (l3 : K.lookup f3 = some ⟨oc3, od3, .func (PySem.W.fnOf "_law_of" "_law_of" (defArgs st__law_of) (defBody st__law_of) (defScope st__law_of) .none kV3 dc3 pm3 an3 cd3 ct3), sl3⟩) (c3 : PySem.W.codeIn K cd3 "_law_of" = true) (k3 : PySem.W.keepIn K (.ref f3) = true)
    (a4 : PySem.W.nsIn K mainGlobals "_law_names" = some (some (.ref f4)))
    (l4 : K.lookup f4 = some ⟨oc4, od4, .func (PySem.W.fnOf "_law_names" "_law_names" (defArgs st__law_names) (defBody st__law_names) (defScope st__law_names) .none kV4 dc4 pm4 an4 cd4 ct4), sl4⟩) (c4 : PySem.W.codeIn K cd4 "_law_names" = true) (k4 : PySem.W.keepIn K (.ref f4) = true)
    (a5 : PySem.W.nsIn K mainGlobals "_law_goals" = some (some (.ref f5)))
    (l5 : K.lookup f5 = some ⟨oc5, od5, .func (PySem.W.fnOf "_law_goals" "_law_goals" (defArgs st__law_goals) (defBody st__law_goals) (defScope st__law_goals) .none kV5 dc5 pm5 an5 cd5 ct5), sl5⟩) (c5 : PySem.W.codeIn K cd5 "_law_goals" = true) (k5 : PySem.W.keepIn K (.ref f5) = true)
    (a6 : PySem.W.nsIn K mainGlobals "_law_custom" = some (some (.ref f6)))
    (l6 : K.lookup f6 = some ⟨oc6, od6, .func (PySem.W.fnOf "_law_custom" "_law_custom" (defArgs st__law_custom) (defBody st__law_custom) (defScope st__law_custom) .none kV6 dc6 pm6 an6 cd6 ct6), sl6⟩) (c6 : PySem.W.codeIn K cd6 "_law_custom" = true) (k6 : PySem.W.keepIn K (.ref f6) = true)
    (a7 : PySem.W.nsIn K mainGlobals "_law_commas" = some (some (.ref f7)))
    (l7 : K.lookup f7 = some ⟨oc7, od7, .func (PySem.W.fnOf "_law_commas" "_law_commas" (defArgs st__law_commas) (defBody st__law_commas) (defScope st__law_commas) .none kV7 dc7 pm7 an7 cd7 ct7), sl7⟩) (c7 : PySem.W.codeIn K cd7 "_law_commas" = true) (k7 : PySem.W.keepIn K (.ref f7) = true)
    (a8 : PySem.W.nsIn K mainGlobals "_law_custom_lines" = some (some (.ref f8)))
    (l8 : K.lookup f8 = some ⟨oc8, od8, .func (PySem.W.fnOf "_law_custom_lines" "_law_custom_lines" (defArgs st__law_custom_lines) (defBody st__law_custom_lines) (defScope st__law_custom_lines) .none kV8 dc8 pm8 an8 cd8 ct8), sl8⟩) (c8 : PySem.W.codeIn K cd8 "_law_custom_lines" = true) (k8 : PySem.W.keepIn K (.ref f8) = true)
    (a9 : PySem.W.nsIn K mainGlobals "_law_custom_text" = some (some (.ref f9)))
    (l9 : K.lookup f9 = some ⟨oc9, od9, .func (PySem.W.fnOf "_law_custom_text" "_law_custom_text" (defArgs st__law_custom_text) (defBody st__law_custom_text) (defScope st__law_custom_text) .none kV9 dc9 pm9 an9 cd9 ct9), sl9⟩) (c9 : PySem.W.codeIn K cd9 "_law_custom_text" = true) (k9 : PySem.W.keepIn K (.ref f9) = true)
    (a10 : PySem.W.nsIn K mainGlobals "is_name" = some (some (.ref f10)))
    (l10 : K.lookup f10 = some ⟨oc10, od10, .func (PySem.W.fnOf "is_name" "is_name" (defArgs st_is_name) (defBody st_is_name) (defScope st_is_name) .none kV10 dc10 pm10 an10 cd10 ct10), sl10⟩) (c10 : PySem.W.codeIn K cd10 "is_name" = true) (k10 : PySem.W.keepIn K (.ref f10) = true)
    (a11 : PySem.W.nsIn K mainGlobals "is_row" = some (some (.ref f11)))
    (l11 : K.lookup f11 = some ⟨oc11, od11, .func (PySem.W.fnOf "is_row" "is_row" (defArgs st_is_row) (defBody st_is_row) (defScope st_is_row) .none kV11 dc11 pm11 an11 cd11 ct11), sl11⟩) (c11 : PySem.W.codeIn K cd11 "is_row" = true) (k11 : PySem.W.keepIn K (.ref f11) = true)
    (a12 : PySem.W.findIn K (.ref C26) "__init__" = some (some (.ref f12))) (i12 : PySem.W.isFn K (.ref f12) = true)
    (l12 : K.lookup f12 = some ⟨oc12, od12, .func (PySem.W.fnOf "__init__" "Custom.__init__" (defArgs st_Custom___init__) (defBody st_Custom___init__) (defScope st_Custom___init__) .none kV12 dc12 pm12 an12 cd12 ct12), sl12⟩) (c12 : PySem.W.codeIn K cd12 "Custom.__init__" = true) (k12 : PySem.W.keepIn K (.ref f12) = true)
    (a13 : PySem.W.nsIn K mainGlobals "_law_made" = some (some (.ref f13)))
    (l13 : K.lookup f13 = some ⟨oc13, od13, .func (PySem.W.fnOf "_law_made" "_law_made" (defArgs st__law_made) (defBody st__law_made) (defScope st__law_made) .none kV13 dc13 pm13 an13 cd13 ct13), sl13⟩) (c13 : PySem.W.codeIn K cd13 "_law_made" = true) (k13 : PySem.W.keepIn K (.ref f13) = true)
    (a14 : PySem.W.nsIn K mainGlobals "_law_same" = some (some (.ref f14)))
    (l14 : K.lookup f14 = some ⟨oc14, od14, .func (PySem.W.fnOf "_law_same" "_law_same" (defArgs st__law_same) (defBody st__law_same) (defScope st__law_same) .none kV14 dc14 pm14 an14 cd14 ct14), sl14⟩) (c14 : PySem.W.codeIn K cd14 "_law_same" = true) (k14 : PySem.W.keepIn K (.ref f14) = true)
    (a15 : PySem.W.findIn K (.ref C26) "starts" = some (some (.ref f15))) (i15 : PySem.W.isFn K (.ref f15) = true)
    (l15 : K.lookup f15 = some ⟨oc15, od15, .func (PySem.W.fnOf "starts" "Custom.starts" (defArgs st_Custom_starts) (defBody st_Custom_starts) (defScope st_Custom_starts) .none kV15 dc15 pm15 an15 cd15 ct15), sl15⟩) (c15 : PySem.W.codeIn K cd15 "Custom.starts" = true) (k15 : PySem.W.keepIn K (.ref f15) = true)
    (a16 : PySem.W.findIn K (.ref C26) "states" = some (some (.ref f16))) (i16 : PySem.W.isFn K (.ref f16) = true)
    (l16 : K.lookup f16 = some ⟨oc16, od16, .func (PySem.W.fnOf "states" "Custom.states" (defArgs st_Custom_states) (defBody st_Custom_states) (defScope st_Custom_states) .none kV16 dc16 pm16 an16 cd16 ct16), sl16⟩) (c16 : PySem.W.codeIn K cd16 "Custom.states" = true) (k16 : PySem.W.keepIn K (.ref f16) = true)
    (a17 : PySem.W.nsIn K mainGlobals "row_text" = some (some (.ref f17)))
    (l17 : K.lookup f17 = some ⟨oc17, od17, .func (PySem.W.fnOf "row_text" "row_text" (defArgs st_row_text) (defBody st_row_text) (defScope st_row_text) .none kV17 dc17 pm17 an17 cd17 ct17), sl17⟩) (c17 : PySem.W.codeIn K cd17 "row_text" = true) (k17 : PySem.W.keepIn K (.ref f17) = true)
    (a18 : PySem.W.nsIn K mainGlobals "custom_text" = some (some (.ref f18)))
    (l18 : K.lookup f18 = some ⟨oc18, od18, .func (PySem.W.fnOf "custom_text" "custom_text" (defArgs st_custom_text) (defBody st_custom_text) (defScope st_custom_text) .none kV18 dc18 pm18 an18 cd18 ct18), sl18⟩) (c18 : PySem.W.codeIn K cd18 "custom_text" = true) (k18 : PySem.W.keepIn K (.ref f18) = true)
    (a19 : PySem.W.nsIn K mainGlobals "number_in" = some (some (.ref f19)))
    (l19 : K.lookup f19 = some ⟨oc19, od19, .func (PySem.W.fnOf "number_in" "number_in" (defArgs st_number_in) (defBody st_number_in) (defScope st_number_in) .none kV19 dc19 pm19 an19 cd19 ct19), sl19⟩) (c19 : PySem.W.codeIn K cd19 "number_in" = true) (k19 : PySem.W.keepIn K (.ref f19) = true)
    (a20 : PySem.W.nsIn K mainGlobals "numbers_in" = some (some (.ref f20)))
    (l20 : K.lookup f20 = some ⟨oc20, od20, .func (PySem.W.fnOf "numbers_in" "numbers_in" (defArgs st_numbers_in) (defBody st_numbers_in) (defScope st_numbers_in) .none kV20 dc20 pm20 an20 cd20 ct20), sl20⟩) (c20 : PySem.W.codeIn K cd20 "numbers_in" = true) (k20 : PySem.W.keepIn K (.ref f20) = true)
    (a21 : PySem.W.nsIn K mainGlobals "starts_in" = some (some (.ref f21)))
    (l21 : K.lookup f21 = some ⟨oc21, od21, .func (PySem.W.fnOf "starts_in" "starts_in" (defArgs st_starts_in) (defBody st_starts_in) (defScope st_starts_in) .none kV21 dc21 pm21 an21 cd21 ct21), sl21⟩) (c21 : PySem.W.codeIn K cd21 "starts_in" = true) (k21 : PySem.W.keepIn K (.ref f21) = true)
    (a22 : PySem.W.nsIn K mainGlobals "state_in" = some (some (.ref f22)))
    (l22 : K.lookup f22 = some ⟨oc22, od22, .func (PySem.W.fnOf "state_in" "state_in" (defArgs st_state_in) (defBody st_state_in) (defScope st_state_in) .none kV22 dc22 pm22 an22 cd22 ct22), sl22⟩) (c22 : PySem.W.codeIn K cd22 "state_in" = true) (k22 : PySem.W.keepIn K (.ref f22) = true)
    (a23 : PySem.W.nsIn K mainGlobals "read_custom" = some (some (.ref f23)))
    (l23 : K.lookup f23 = some ⟨oc23, od23, .func (PySem.W.fnOf "read_custom" "read_custom" (defArgs st_read_custom) (defBody st_read_custom) (defScope st_read_custom) .none kV23 dc23 pm23 an23 cd23 ct23), sl23⟩) (c23 : PySem.W.codeIn K cd23 "read_custom" = true) (k23 : PySem.W.keepIn K (.ref f23) = true)
    (a24 : PySem.W.findIn K (.ref C26) "__eq__" = some (some (.ref f24))) (i24 : PySem.W.isFn K (.ref f24) = true)
    (l24 : K.lookup f24 = some ⟨oc24, od24, .func (PySem.W.fnOf "__eq__" "Custom.__eq__" (defArgs st_Custom___eq__) (defBody st_Custom___eq__) (defScope st_Custom___eq__) .none kV24 dc24 pm24 an24 cd24 ct24), sl24⟩) (c24 : PySem.W.codeIn K cd24 "Custom.__eq__" = true) (k24 : PySem.W.keepIn K (.ref f24) = true)
    (a25 : PySem.W.nsIn K mainGlobals "_law_custom_so" = some (some (.ref f25)))
    (l25 : K.lookup f25 = some ⟨oc25, od25, .func (PySem.W.fnOf "_law_custom_so" "_law_custom_so" (defArgs st__law_custom_so) (defBody st__law_custom_so) (defScope st__law_custom_so) .none kV25 dc25 pm25 an25 cd25 ct25), sl25⟩) (c25 : PySem.W.codeIn K cd25 "_law_custom_so" = true) (k25 : PySem.W.keepIn K (.ref f25) = true)
    (a26 : PySem.W.nsIn K mainGlobals "_law_rule" = some (some (.ref f26)))
    (l26 : K.lookup f26 = some ⟨oc26, od26, .func (PySem.W.fnOf "_law_rule" "_law_rule" (defArgs st__law_rule) (defBody st__law_rule) (defScope st__law_rule) .none kV26 dc26 pm26 an26 cd26 ct26), sl26⟩) (c26 : PySem.W.codeIn K cd26 "_law_rule" = true) (k26 : PySem.W.keepIn K (.ref f26) = true)
    (a27 : PySem.W.nsIn K mainGlobals "is_pair" = some (some (.ref f27)))
    (l27 : K.lookup f27 = some ⟨oc27, od27, .func (PySem.W.fnOf "is_pair" "is_pair" (defArgs st_is_pair) (defBody st_is_pair) (defScope st_is_pair) .none kV27 dc27 pm27 an27 cd27 ct27), sl27⟩) (c27 : PySem.W.codeIn K cd27 "is_pair" = true) (k27 : PySem.W.keepIn K (.ref f27) = true)
    (a28 : PySem.W.nsIn K mainGlobals "ordered" = some (some (.ref f28)))
    (l28 : K.lookup f28 = some ⟨oc28, od28, .func (PySem.W.fnOf "ordered" "ordered" (defArgs st_ordered) (defBody st_ordered) (defScope st_ordered) .none kV28 dc28 pm28 an28 cd28 ct28), sl28⟩) (c28 : PySem.W.codeIn K cd28 "ordered" = true) (k28 : PySem.W.keepIn K (.ref f28) = true)
    (a29 : PySem.W.findIn K (.ref C27) "__init__" = some (some (.ref f29))) (i29 : PySem.W.isFn K (.ref f29) = true)
    (l29 : K.lookup f29 = some ⟨oc29, od29, .func (PySem.W.fnOf "__init__" "Rule.__init__" (defArgs st_Rule___init__) (defBody st_Rule___init__) (defScope st_Rule___init__) .none kV29 dc29 pm29 an29 cd29 ct29), sl29⟩) (c29 : PySem.W.codeIn K cd29 "Rule.__init__" = true) (k29 : PySem.W.keepIn K (.ref f29) = true)
    (a30 : PySem.W.findIn K (.ref C27) "__add__" = some (some (.ref f30))) (i30 : PySem.W.isFn K (.ref f30) = true)
    (l30 : K.lookup f30 = some ⟨oc30, od30, .func (PySem.W.fnOf "__add__" "Rule.__add__" (defArgs st_Rule___add__) (defBody st_Rule___add__) (defScope st_Rule___add__) .none kV30 dc30 pm30 an30 cd30 ct30), sl30⟩) (c30 : PySem.W.codeIn K cd30 "Rule.__add__" = true) (k30 : PySem.W.keepIn K (.ref f30) = true)
    (a31 : PySem.W.nsIn K mainGlobals "_law_rule_made" = some (some (.ref f31)))
    (l31 : K.lookup f31 = some ⟨oc31, od31, .func (PySem.W.fnOf "_law_rule_made" "_law_rule_made" (defArgs st__law_rule_made) (defBody st__law_rule_made) (defScope st__law_rule_made) .none kV31 dc31 pm31 an31 cd31 ct31), sl31⟩) (c31 : PySem.W.codeIn K cd31 "_law_rule_made" = true) (k31 : PySem.W.keepIn K (.ref f31) = true)
    (a32 : PySem.W.nsIn K mainGlobals "_law_rule_text" = some (some (.ref f32)))
    (l32 : K.lookup f32 = some ⟨oc32, od32, .func (PySem.W.fnOf "_law_rule_text" "_law_rule_text" (defArgs st__law_rule_text) (defBody st__law_rule_text) (defScope st__law_rule_text) .none kV32 dc32 pm32 an32 cd32 ct32), sl32⟩) (c32 : PySem.W.codeIn K cd32 "_law_rule_text" = true) (k32 : PySem.W.keepIn K (.ref f32) = true)
    (a33 : PySem.W.findIn K (.ref C27) "pairs" = some (some (.ref f33))) (i33 : PySem.W.isFn K (.ref f33) = true)
    (l33 : K.lookup f33 = some ⟨oc33, od33, .func (PySem.W.fnOf "pairs" "Rule.pairs" (defArgs st_Rule_pairs) (defBody st_Rule_pairs) (defScope st_Rule_pairs) .none kV33 dc33 pm33 an33 cd33 ct33), sl33⟩) (c33 : PySem.W.codeIn K cd33 "Rule.pairs" = true) (k33 : PySem.W.keepIn K (.ref f33) = true)
    (a34 : PySem.W.nsIn K mainGlobals "read_rule" = some (some (.ref f34)))
    (l34 : K.lookup f34 = some ⟨oc34, od34, .func (PySem.W.fnOf "read_rule" "read_rule" (defArgs st_read_rule) (defBody st_read_rule) (defScope st_read_rule) .none kV34 dc34 pm34 an34 cd34 ct34), sl34⟩) (c34 : PySem.W.codeIn K cd34 "read_rule" = true) (k34 : PySem.W.keepIn K (.ref f34) = true)
    (a35 : PySem.W.findIn K (.ref C27) "__bool__" = some (some (.ref f35))) (i35 : PySem.W.isFn K (.ref f35) = true)
    (l35 : K.lookup f35 = some ⟨oc35, od35, .func (PySem.W.fnOf "__bool__" "Rule.__bool__" (defArgs st_Rule___bool__) (defBody st_Rule___bool__) (defScope st_Rule___bool__) .none kV35 dc35 pm35 an35 cd35 ct35), sl35⟩) (c35 : PySem.W.codeIn K cd35 "Rule.__bool__" = true) (k35 : PySem.W.keepIn K (.ref f35) = true)
    (a36 : PySem.W.nsIn K mainGlobals "rule_text" = some (some (.ref f36)))
    (l36 : K.lookup f36 = some ⟨oc36, od36, .func (PySem.W.fnOf "rule_text" "rule_text" (defArgs st_rule_text) (defBody st_rule_text) (defScope st_rule_text) .none kV36 dc36 pm36 an36 cd36 ct36), sl36⟩) (c36 : PySem.W.codeIn K cd36 "rule_text" = true) (k36 : PySem.W.keepIn K (.ref f36) = true)
    (a37 : PySem.W.findIn K (.ref C27) "__eq__" = some (some (.ref f37))) (i37 : PySem.W.isFn K (.ref f37) = true)
    (l37 : K.lookup f37 = some ⟨oc37, od37, .func (PySem.W.fnOf "__eq__" "Rule.__eq__" (defArgs st_Rule___eq__) (defBody st_Rule___eq__) (defScope st_Rule___eq__) .none kV37 dc37 pm37 an37 cd37 ct37), sl37⟩) (c37 : PySem.W.codeIn K cd37 "Rule.__eq__" = true) (k37 : PySem.W.keepIn K (.ref f37) = true)
    (a38 : PySem.W.nsIn K mainGlobals "law" = some (some (.ref f38)))
    (l38 : K.lookup f38 = some ⟨oc38, od38, .func (PySem.W.fnOf "law" "law" (defArgs st_law) (defBody st_law) (defScope st_law) .none kV38 dc38 pm38 an38 cd38 ct38), sl38⟩) (c38 : PySem.W.codeIn K cd38 "law" = true) (k38 : PySem.W.keepIn K (.ref f38) = true)
    (pg_Custom : PySem.W.plainGet K C26 Str.empty = true) (hd_Custom : PySem.W.hasDictIn K C26 = true) (po_Custom : PySem.W.plainOver K C26 = true) (sa_Custom : PySem.W.findIn K (.ref C26) "__setattr__" = some (some (.builtin "object.__setattr__"))) (mk_Custom : PySem.W.makesIn K C26 = true) (kc_Custom : PySem.W.keepIn K (.ref C26) = true)
    (pg_Rule : PySem.W.plainGet K C27 Str.empty = true) (hd_Rule : PySem.W.hasDictIn K C27 = true) (po_Rule : PySem.W.plainOver K C27 = true) (sa_Rule : PySem.W.findIn K (.ref C27) "__setattr__" = some (some (.builtin "object.__setattr__"))) (mk_Rule : PySem.W.makesIn K C27 = true) (kc_Rule : PySem.W.keepIn K (.ref C27) = true)
    (ia_Custom : PySem.W.findIn K (.ref C26) "__class__" = some (some (.builtin "object.__class__"))) (ib_Custom : PySem.W.specialIn K (.builtin "object.__class__") "__get__" = some (some (.builtin "getset_descriptor.__get__"))) (ic_Custom : PySem.W.takesIn K (.builtin "object.__class__") = some true) (id_Custom : PySem.W.mroIn K C26 (.type "object") = some true) (ie_Custom : PySem.W.kitOne K (.ref C26) (.ref C26) = some true)
    (ikNoneType_Custom : PySem.W.kitOne K (.type "NoneType") (.ref C26) = some false)
    (ikbool_Custom : PySem.W.kitOne K (.type "bool") (.ref C26) = some false)
    (ikint_Custom : PySem.W.kitOne K (.type "int") (.ref C26) = some false)
    (ikstr_Custom : PySem.W.kitOne K (.type "str") (.ref C26) = some false)
    (iktuple_Custom : PySem.W.kitOne K (.type "tuple") (.ref C26) = some false)
    (iklist_Custom : PySem.W.kitOne K (.type "list") (.ref C26) = some false)
    (ia_Rule : PySem.W.findIn K (.ref C27) "__class__" = some (some (.builtin "object.__class__"))) (ib_Rule : PySem.W.specialIn K (.builtin "object.__class__") "__get__" = some (some (.builtin "getset_descriptor.__get__"))) (ic_Rule : PySem.W.takesIn K (.builtin "object.__class__") = some true) (id_Rule : PySem.W.mroIn K C27 (.type "object") = some true) (ie_Rule : PySem.W.kitOne K (.ref C27) (.ref C27) = some true)
    (ikNoneType_Rule : PySem.W.kitOne K (.type "NoneType") (.ref C27) = some false)
    (ikbool_Rule : PySem.W.kitOne K (.type "bool") (.ref C27) = some false)
    (ikint_Rule : PySem.W.kitOne K (.type "int") (.ref C27) = some false)
    (ikstr_Rule : PySem.W.kitOne K (.type "str") (.ref C27) = some false)
    (iktuple_Rule : PySem.W.kitOne K (.type "tuple") (.ref C27) = some false)
    (iklist_Rule : PySem.W.kitOne K (.type "list") (.ref C27) = some false)
    (nf_Custom : PySem.W.notFirst K C26 (.type "int") = true)
    (nf_Rule : PySem.W.notFirst K C27 (.type "int") = true)
    (ne_Custom : PySem.W.findIn K (.ref C26) "__ne__" = some (some (.builtin "object.__ne__")))
    (ne_Rule : PySem.W.findIn K (.ref C27) "__ne__" = some (some (.builtin "object.__ne__")))
    (ada_Rule : PySem.W.selfFirst K C27 = true) (adb_Rule : PySem.W.findIn K (.ref C27) (PySem.dunderR "add") = some none) (adt1_Rule : PySem.W.findIn K (.type "tuple") (PySem.dunder "add") = some (some (.builtin "tuple.__add__"))) (adt2_Rule : PySem.W.findIn K (.type "tuple") (PySem.dunderR "add") = some none) (adt3_Rule : PySem.W.subIn K (.type "tuple") (.ref C27) = some false) (adl1_Rule : PySem.W.findIn K (.type "list") (PySem.dunder "add") = some (some (.builtin "list.__add__"))) (adl2_Rule : PySem.W.findIn K (.type "list") (PySem.dunderR "add") = some none) (adl3_Rule : PySem.W.subIn K (.type "list") (.ref C27) = some false)
    (na_Custom_begins : PySem.W.findIn K (.ref C26) "begins" = some none)
    (na_Custom_rows : PySem.W.findIn K (.ref C26) "rows" = some none)
    (na_Rule_rows : PySem.W.findIn K (.ref C27) "rows" = some none)
    (rd_Custom_MOST_NEXTS : PySem.W.readsIn K C26 (.type "type") = true) (ga_Custom_MOST_NEXTS : PySem.W.specialIn K (.ref C26) "__getattribute__" = some (some (.builtin "type.__getattribute__"))) (fc_Custom_MOST_NEXTS : PySem.W.findCls K (.ref C26) (.type "type") "MOST_NEXTS" = some (.val (.int 6 t_Custom_MOST_NEXTS)))
    (rd_Custom_MOST_STATES : PySem.W.readsIn K C26 (.type "type") = true) (ga_Custom_MOST_STATES : PySem.W.specialIn K (.ref C26) "__getattribute__" = some (some (.builtin "type.__getattribute__"))) (fc_Custom_MOST_STATES : PySem.W.findCls K (.ref C26) (.type "type") "MOST_STATES" = some (.val (.int 240 t_Custom_MOST_STATES)))
    (xi_WrongCount : PySem.W.findIn K (.ref C5) "__init__" = some (some (.ref fx5))) (xl_WrongCount : K.lookup fx5 = some ⟨ocx5, odx5, .func (fnOfX "__init__" "WrongCount.__init__" st_WrongCount cc5 kVx5 dcx5 pmx5 anx5 (.ref cx5) ctx5), slx5⟩) (xb_WrongCount : xfaB K l.prog.main.file C5 fx5 cc5 cx5 "ValueError" "ValueError.__new__" "ValueError.__init__" [.type "ValueError", .type "Exception", .type "BaseException", .type "object"] "WrongCount.__init__" ["word", "what"] = true) (xk_WrongCount : PySem.W.keepIn K (.ref C5) = true)
    (xi_InvalidState : PySem.W.findIn K (.ref C6) "__init__" = some (some (.ref fx6))) (xl_InvalidState : K.lookup fx6 = some ⟨ocx6, odx6, .func (fnOfX "__init__" "InvalidState.__init__" st_InvalidState cc6 kVx6 dcx6 pmx6 anx6 (.ref cx6) ctx6), slx6⟩) (xb_InvalidState : xfaB K l.prog.main.file C6 fx6 cc6 cx6 "ValueError" "ValueError.__new__" "ValueError.__init__" [.type "ValueError", .type "Exception", .type "BaseException", .type "object"] "InvalidState.__init__" ["word", "at"] = true) (xk_InvalidState : PySem.W.keepIn K (.ref C6) = true)
    (xi_InvalidStart : PySem.W.findIn K (.ref C7) "__init__" = some (some (.ref fx7))) (xl_InvalidStart : K.lookup fx7 = some ⟨ocx7, odx7, .func (fnOfX "__init__" "InvalidStart.__init__" st_InvalidStart cc7 kVx7 dcx7 pmx7 anx7 (.ref cx7) ctx7), slx7⟩) (xb_InvalidStart : xfaB K l.prog.main.file C7 fx7 cc7 cx7 "ValueError" "ValueError.__new__" "ValueError.__init__" [.type "ValueError", .type "Exception", .type "BaseException", .type "object"] "InvalidStart.__init__" ["word", "given"] = true) (xk_InvalidStart : PySem.W.keepIn K (.ref C7) = true)
    (xi_InvalidPair : PySem.W.findIn K (.ref C9) "__init__" = some (some (.ref fx9))) (xl_InvalidPair : K.lookup fx9 = some ⟨ocx9, odx9, .func (fnOfX "__init__" "InvalidPair.__init__" st_InvalidPair cc9 kVx9 dcx9 pmx9 anx9 (.ref cx9) ctx9), slx9⟩) (xb_InvalidPair : xfaB K l.prog.main.file C9 fx9 cc9 cx9 "ValueError" "ValueError.__new__" "ValueError.__init__" [.type "ValueError", .type "Exception", .type "BaseException", .type "object"] "InvalidPair.__init__" ["word", "at"] = true) (xk_InvalidPair : PySem.W.keepIn K (.ref C9) = true)
    (xi_InvalidText : PySem.W.findIn K (.ref C16) "__init__" = some (some (.ref fx16))) (xl_InvalidText : K.lookup fx16 = some ⟨ocx16, odx16, .func (fnOfX "__init__" "InvalidText.__init__" st_InvalidText cc16 kVx16 dcx16 pmx16 anx16 (.ref cx16) ctx16), slx16⟩) (xb_InvalidText : xfaB K l.prog.main.file C16 fx16 cc16 cx16 "ValueError" "ValueError.__new__" "ValueError.__init__" [.type "ValueError", .type "Exception", .type "BaseException", .type "object"] "InvalidText.__init__" ["word", "line"] = true) (xk_InvalidText : PySem.W.keepIn K (.ref C16) = true)
    (xtop : (l.prog.main.scope.names.lookup ("super" : Str)).isSome = false)
    (zb_all : PySem.W.nsIn K mainGlobals "all" = some none)
    (zb_bool : PySem.W.nsIn K mainGlobals "bool" = some none)
    (zb_enumerate : PySem.W.nsIn K mainGlobals "enumerate" = some none)
    (zb_int : PySem.W.nsIn K mainGlobals "int" = some none)
    (zb_isinstance : PySem.W.nsIn K mainGlobals "isinstance" = some none)
    (zb_len : PySem.W.nsIn K mainGlobals "len" = some none)
    (zb_list : PySem.W.nsIn K mainGlobals "list" = some none)
    (zb_max : PySem.W.nsIn K mainGlobals "max" = some none)
    (zb_min : PySem.W.nsIn K mainGlobals "min" = some none)
    (zb_range : PySem.W.nsIn K mainGlobals "range" = some none)
    (zb_repr : PySem.W.nsIn K mainGlobals "repr" = some none)
    (zb_set : PySem.W.nsIn K mainGlobals "set" = some none)
    (zb_sorted : PySem.W.nsIn K mainGlobals "sorted" = some none)
    (zb_str : PySem.W.nsIn K mainGlobals "str" = some none)
    (zb_super : PySem.W.nsIn K mainGlobals "super" = some none)
    (zb_tuple : PySem.W.nsIn K mainGlobals "tuple" = some none)
    (zb_zip : PySem.W.nsIn K mainGlobals "zip" = some none)
    (zc_DIGITS : PySem.W.nsIn K mainGlobals "DIGITS" = some (some (.str "0123456789" t_DIGITS)))
    (zc_LETTERS : PySem.W.nsIn K mainGlobals "LETTERS" = some (some (.str "abcdefghijklmnopqrstuvwxyz" t_LETTERS)))
    (zc_MOST_DIGITS : PySem.W.nsIn K mainGlobals "MOST_DIGITS" = some (some (.int 6 t_MOST_DIGITS)))
    (zc_MOST_SIGNS : PySem.W.nsIn K mainGlobals "MOST_SIGNS" = some (some (.int 8 t_MOST_SIGNS)))
    : LawAtG l w K 8 63 "_law_script" mg fa h := by
  have e := hfa.symm.trans (PySem.W.mg_of X G a38)
  cases e
  let T : Tx l.prog K mg (clsOf [0, 0, 0, 0, 0, C5, C6, C7, 0, C9, 0, 0, 0, 0, 0, 0, C16, 0, 0, 0, 0, 0, 0, 0, 0, 0, C26, C27, 0, 0, 0, 0, 0, 0, 0, 0, 0]) := ⟨dn_mk X G a0 l0 c0 k0 (fun _ _ _ _ _ _ us hl => match us, hl with | [_], _ => rfl),
    dn_mk X G a1 l1 c1 k1 (fun _ _ _ _ _ _ us hl => match us, hl with | [_, _], _ => rfl),
    dn_mk X G a2 l2 c2 k2 (fun _ _ _ _ _ _ us hl => match us, hl with | [_, _], _ => rfl),
    dn_mk X G a3 l3 c3 k3 (fun _ _ _ _ _ _ us hl => match us, hl with | [_, _], _ => rfl),
    dn_mk X G a4 l4 c4 k4 (fun _ _ _ _ _ _ us hl => match us, hl with | [_, _], _ => rfl),
    dn_mk X G a5 l5 c5 k5 (fun _ _ _ _ _ _ us hl => match us, hl with | [_, _], _ => rfl),
    dn_mk X G a6 l6 c6 k6 (fun _ _ _ _ _ _ us hl => match us, hl with | [_, _, _], _ => rfl),
    dn_mk X G a7 l7 c7 k7 (fun _ _ _ _ _ _ us hl => match us, hl with | [_], _ => rfl),
    dn_mk X G a8 l8 c8 k8 (fun _ _ _ _ _ _ us hl => match us, hl with | [_], _ => rfl),
    dn_mk X G a9 l9 c9 k9 (fun _ _ _ _ _ _ us hl => match us, hl with | [_], _ => rfl),
    dn_mk X G a10 l10 c10 k10 (fun _ _ _ _ _ _ us hl => match us, hl with | [_], _ => rfl),
    dn_mk X G a11 l11 c11 k11 (fun _ _ _ _ _ _ us hl => match us, hl with | [_, _, _, _], _ => rfl),
    dm_mk a12 i12 l12 c12 k12 (fun _ _ _ _ _ _ us hl => match us, hl with | [_, _, _], _ => rfl),
    dn_mk X G a13 l13 c13 k13 (fun _ _ _ _ _ _ us hl => match us, hl with | [_], _ => rfl),
    dn_mk X G a14 l14 c14 k14 (fun _ _ _ _ _ _ us hl => match us, hl with | [_, _], _ => rfl),
    dm_mk a15 i15 l15 c15 k15 (fun _ _ _ _ _ _ us hl => match us, hl with | [_], _ => rfl),
    dm_mk a16 i16 l16 c16 k16 (fun _ _ _ _ _ _ us hl => match us, hl with | [_], _ => rfl),
    dn_mk X G a17 l17 c17 k17 (fun _ _ _ _ _ _ us hl => match us, hl with | [_], _ => rfl),
    dn_mk X G a18 l18 c18 k18 (fun _ _ _ _ _ _ us hl => match us, hl with | [_], _ => rfl),
    dn_mk X G a19 l19 c19 k19 (fun _ _ _ _ _ _ us hl => match us, hl with | [_], _ => rfl),
    dn_mk X G a20 l20 c20 k20 (fun _ _ _ _ _ _ us hl => match us, hl with | [_], _ => rfl),
    dn_mk X G a21 l21 c21 k21 (fun _ _ _ _ _ _ us hl => match us, hl with | [_], _ => rfl),
    dn_mk X G a22 l22 c22 k22 (fun _ _ _ _ _ _ us hl => match us, hl with | [_], _ => rfl),
    dn_mk X G a23 l23 c23 k23 (fun _ _ _ _ _ _ us hl => match us, hl with | [_], _ => rfl),
    dm_mk a24 i24 l24 c24 k24 (fun _ _ _ _ _ _ us hl => match us, hl with | [_, _], _ => rfl),
    dn_mk X G a25 l25 c25 k25 (fun _ _ _ _ _ _ us hl => match us, hl with | [_, _], _ => rfl),
    dn_mk X G a26 l26 c26 k26 (fun _ _ _ _ _ _ us hl => match us, hl with | [_, _], _ => rfl),
    dn_mk X G a27 l27 c27 k27 (fun _ _ _ _ _ _ us hl => match us, hl with | [_], _ => rfl),
    dn_mk X G a28 l28 c28 k28 (fun _ _ _ _ _ _ us hl => match us, hl with | [_], _ => rfl),
    ⟨_, _, fun_mk l29 c29 k29, a29, i29⟩,
    dm_mk a30 i30 l30 c30 k30 (fun _ _ _ _ _ _ us hl => match us, hl with | [_, _], _ => rfl),
    dn_mk X G a31 l31 c31 k31 (fun _ _ _ _ _ _ us hl => match us, hl with | [_], _ => rfl),
    dn_mk X G a32 l32 c32 k32 (fun _ _ _ _ _ _ us hl => match us, hl with | [_], _ => rfl),
    dm_mk a33 i33 l33 c33 k33 (fun _ _ _ _ _ _ us hl => match us, hl with | [_], _ => rfl),
    dn_mk X G a34 l34 c34 k34 (fun _ _ _ _ _ _ us hl => match us, hl with | [_], _ => rfl),
    dm_mk a35 i35 l35 c35 k35 (fun _ _ _ _ _ _ us hl => match us, hl with | [_], _ => rfl),
    dn_mk X G a36 l36 c36 k36 (fun _ _ _ _ _ _ us hl => match us, hl with | [_], _ => rfl),
    dm_mk a37 i37 l37 c37 k37 (fun _ _ _ _ _ _ us hl => match us, hl with | [_, _], _ => rfl),
    dn_mk X G a38 l38 c38 k38 (fun _ _ _ _ _ _ us hl => match us, hl with | [_], _ => rfl),
    ⟨PySem.W.mg_of X G zm_Custom, ⟨pg_Custom, hd_Custom, po_Custom, sa_Custom⟩, mk_Custom, kc_Custom⟩,
    ⟨PySem.W.mg_of X G zm_Rule, ⟨pg_Rule, hd_Rule, po_Rule, sa_Rule⟩, mk_Rule, kc_Rule⟩,
    ⟨⟨pg_Custom, hd_Custom, po_Custom, sa_Custom⟩, ia_Custom, ib_Custom, ic_Custom, id_Custom, ie_Custom, ikNoneType_Custom, ikbool_Custom, ikint_Custom, ikstr_Custom, iktuple_Custom, iklist_Custom⟩,
    ⟨⟨pg_Rule, hd_Rule, po_Rule, sa_Rule⟩, ia_Rule, ib_Rule, ic_Rule, id_Rule, ie_Rule, ikNoneType_Rule, ikbool_Rule, ikint_Rule, ikstr_Rule, iktuple_Rule, iklist_Rule⟩,
    nf_Custom,
    nf_Rule,
    ne_Custom,
    ne_Rule,
    ⟨ada_Rule, adb_Rule, adt1_Rule, adt2_Rule, adt3_Rule, adl1_Rule, adl2_Rule, adl3_Rule⟩,
    na_Custom_begins,
    na_Custom_rows,
    na_Rule_rows,
    ⟨rd_Custom_MOST_NEXTS, ga_Custom_MOST_NEXTS, _, fc_Custom_MOST_NEXTS⟩,
    ⟨rd_Custom_MOST_STATES, ga_Custom_MOST_STATES, _, fc_Custom_MOST_STATES⟩,
    PySem.W.mg_of X G zm_WrongCount,
    xk_WrongCount,
    xcl_mk ["self", "what"] [⟨"word", .str "WrongCount" _ _, _, _, _⟩, ⟨"what", .nam "what" _, _, _, _⟩] PySem.F.excBase_ValueError PySem.F.store_ValueError PySem.W.kxs_ValueError xi_WrongCount xl_WrongCount xb_WrongCount xtop (hbd := rfl) ⟨_, fun _ => rfl⟩ rfl rfl rfl (by decide +kernel) ⟨_, rfl, rfl⟩ rfl (by decide +kernel) (by decide +kernel) rfl rfl (fun s us hl => .of_eq (match us, hl with | [_, _], _ => rfl)) (by decide) (by decide +kernel) rfl (by simp) (by decide),
    PySem.W.mg_of X G zm_InvalidState,
    xk_InvalidState,
    xcl_mk ["self", "at"] [⟨"word", .str "InvalidState" _ _, _, _, _⟩, ⟨"at", .nam "at" _, _, _, _⟩] PySem.F.excBase_ValueError PySem.F.store_ValueError PySem.W.kxs_ValueError xi_InvalidState xl_InvalidState xb_InvalidState xtop (hbd := rfl) ⟨_, fun _ => rfl⟩ rfl rfl rfl (by decide +kernel) ⟨_, rfl, rfl⟩ rfl (by decide +kernel) (by decide +kernel) rfl rfl (fun s us hl => .of_eq (match us, hl with | [_, _], _ => rfl)) (by decide) (by decide +kernel) rfl (by simp) (by decide),
    PySem.W.mg_of X G zm_InvalidStart,
    xk_InvalidStart,
    xcl_mk ["self", "given"] [⟨"word", .str "InvalidStart" _ _, _, _, _⟩, ⟨"given", .nam "given" _, _, _, _⟩] PySem.F.excBase_ValueError PySem.F.store_ValueError PySem.W.kxs_ValueError xi_InvalidStart xl_InvalidStart xb_InvalidStart xtop (hbd := rfl) ⟨_, fun _ => rfl⟩ rfl rfl rfl (by decide +kernel) ⟨_, rfl, rfl⟩ rfl (by decide +kernel) (by decide +kernel) rfl rfl (fun s us hl => .of_eq (match us, hl with | [_, _], _ => rfl)) (by decide) (by decide +kernel) rfl (by simp) (by decide),
    PySem.W.mg_of X G zm_InvalidPair,
    xk_InvalidPair,
    xcl_mk ["self", "at"] [⟨"word", .str "InvalidPair" _ _, _, _, _⟩, ⟨"at", .nam "at" _, _, _, _⟩] PySem.F.excBase_ValueError PySem.F.store_ValueError PySem.W.kxs_ValueError xi_InvalidPair xl_InvalidPair xb_InvalidPair xtop (hbd := rfl) ⟨_, fun _ => rfl⟩ rfl rfl rfl (by decide +kernel) ⟨_, rfl, rfl⟩ rfl (by decide +kernel) (by decide +kernel) rfl rfl (fun s us hl => .of_eq (match us, hl with | [_, _], _ => rfl)) (by decide) (by decide +kernel) rfl (by simp) (by decide),
    PySem.W.mg_of X G zm_InvalidText,
    xk_InvalidText,
    xcl_mk ["self", "line"] [⟨"word", .str "InvalidText" _ _, _, _, _⟩, ⟨"line", .nam "line" _, _, _, _⟩] PySem.F.excBase_ValueError PySem.F.store_ValueError PySem.W.kxs_ValueError xi_InvalidText xl_InvalidText xb_InvalidText xtop (hbd := rfl) ⟨_, fun _ => rfl⟩ rfl rfl rfl (by decide +kernel) ⟨_, rfl, rfl⟩ rfl (by decide +kernel) (by decide +kernel) rfl rfl (fun s us hl => .of_eq (match us, hl with | [_, _], _ => rfl)) (by decide) (by decide +kernel) rfl (by simp) (by decide),
    PySem.W.mg_none_of X G zb_all,
    PySem.W.mg_none_of X G zb_bool,
    PySem.W.mg_none_of X G zb_enumerate,
    PySem.W.mg_none_of X G zb_int,
    PySem.W.mg_none_of X G zb_isinstance,
    PySem.W.mg_none_of X G zb_len,
    PySem.W.mg_none_of X G zb_list,
    PySem.W.mg_none_of X G zb_max,
    PySem.W.mg_none_of X G zb_min,
    PySem.W.mg_none_of X G zb_range,
    PySem.W.mg_none_of X G zb_repr,
    PySem.W.mg_none_of X G zb_set,
    PySem.W.mg_none_of X G zb_sorted,
    PySem.W.mg_none_of X G zb_str,
    PySem.W.mg_none_of X G zb_super,
    PySem.W.mg_none_of X G zb_tuple,
    PySem.W.mg_none_of X G zb_zip,
    ⟨_, PySem.W.mg_of X G zc_DIGITS⟩,
    ⟨_, PySem.W.mg_of X G zc_LETTERS⟩,
    ⟨_, PySem.W.mg_of X G zc_MOST_DIGITS⟩,
    ⟨_, PySem.W.mg_of X G zc_MOST_SIGNS⟩⟩
  refine ⟨_, [], spD ⟨K, (clsOf [0, 0, 0, 0, 0, C5, C6, C7, 0, C9, 0, 0, 0, 0, 0, 0, C16, 0, 0, 0, 0, 0, 0, 0, 0, 0, C26, C27, 0, 0, 0, 0, 0, 0, 0, 0, 0]), []⟩ 1 F_law, (fun _ h => nomatch h), (fun _ h => nomatch h), (fun _ h => nomatch h), fun s v => .of_eq rfl, fun H R a ns hl h1 h2 h3 => law_spT ((fun _ h => nomatch h)) (hF ns hl) h2 h3, fun base _ _ TB => ok_law T⟩
end K47
open PySem PySem.W PyProof.Rows
set_option maxHeartbeats 0 in
theorem PySem.Challenge.cw_noughtwire_k47_texts_of_customs_holds : PySem.Challenge.rw_noughtwire_k47_texts_of_customs.Holds := by
  w_on; o_law; k_head; (case hw => w_witness2)
  k_fill
  refine NW.walk_ofGT (l := PySem.Challenge.rw_noughtwire_k47_texts_of_customs) (n := 63) (k := 8) (x := "_law_script") rfl (by decide) rfl ⟨rfl, by decide, by decide⟩ (fun w h Y => PySem.W.kIn_of Y) ?F
  case F =>
    intro w mg fa h Y KX G hmg
    refine' K47.all_mk KX G hmg K47.law_true ?zm_WrongCount ?zm_InvalidState ?zm_InvalidStart ?zm_InvalidPair ?zm_InvalidText ?zm_Custom ?zm_Rule ?a0 ?l0 ?c0 ?k0 ?a1 ?l1 ?c1 ?k1 ?a2 ?l2 ?c2 ?k2 ?a3 ?l3 ?c3 ?k3 ?a4 ?l4 ?c4 ?k4 ?a5 ?l5 ?c5 ?k5 ?a6 ?l6 ?c6 ?k6 ?a7 ?l7 ?c7 ?k7 ?a8 ?l8 ?c8 ?k8 ?a9 ?l9 ?c9 ?k9 ?a10 ?l10 ?c10 ?k10 ?a11 ?l11 ?c11 ?k11 ?a12 ?i12 ?l12 ?c12 ?k12 ?a13 ?l13 ?c13 ?k13 ?a14 ?l14 ?c14 ?k14 ?a15 ?i15 ?l15 ?c15 ?k15 ?a16 ?i16 ?l16 ?c16 ?k16 ?a17 ?l17 ?c17 ?k17 ?a18 ?l18 ?c18 ?k18 ?a19 ?l19 ?c19 ?k19 ?a20 ?l20 ?c20 ?k20 ?a21 ?l21 ?c21 ?k21 ?a22 ?l22 ?c22 ?k22 ?a23 ?l23 ?c23 ?k23 ?a24 ?i24 ?l24 ?c24 ?k24 ?a25 ?l25 ?c25 ?k25 ?a26 ?l26 ?c26 ?k26 ?a27 ?l27 ?c27 ?k27 ?a28 ?l28 ?c28 ?k28 ?a29 ?i29 ?l29 ?c29 ?k29 ?a30 ?i30 ?l30 ?c30 ?k30 ?a31 ?l31 ?c31 ?k31 ?a32 ?l32 ?c32 ?k32 ?a33 ?i33 ?l33 ?c33 ?k33 ?a34 ?l34 ?c34 ?k34 ?a35 ?i35 ?l35 ?c35 ?k35 ?a36 ?l36 ?c36 ?k36 ?a37 ?i37 ?l37 ?c37 ?k37 ?a38 ?l38 ?c38 ?k38 ?pg_Custom ?hd_Custom ?po_Custom ?sa_Custom ?mk_Custom ?kc_Custom ?pg_Rule ?hd_Rule ?po_Rule ?sa_Rule ?mk_Rule ?kc_Rule ?ia_Custom ?ib_Custom ?ic_Custom ?id_Custom ?ie_Custom ?ikNoneType_Custom ?ikbool_Custom ?ikint_Custom ?ikstr_Custom ?iktuple_Custom ?iklist_Custom ?ia_Rule ?ib_Rule ?ic_Rule ?id_Rule ?ie_Rule ?ikNoneType_Rule ?ikbool_Rule ?ikint_Rule ?ikstr_Rule ?iktuple_Rule ?iklist_Rule ?nf_Custom ?nf_Rule ?ne_Custom ?ne_Rule ?ada_Rule ?adb_Rule ?adt1_Rule ?adt2_Rule ?adt3_Rule ?adl1_Rule ?adl2_Rule ?adl3_Rule ?na_Custom_begins ?na_Custom_rows ?na_Rule_rows ?rd_Custom_MOST_NEXTS ?ga_Custom_MOST_NEXTS ?fc_Custom_MOST_NEXTS ?rd_Custom_MOST_STATES ?ga_Custom_MOST_STATES ?fc_Custom_MOST_STATES ?xi_WrongCount ?xl_WrongCount ?xb_WrongCount ?xk_WrongCount ?xi_InvalidState ?xl_InvalidState ?xb_InvalidState ?xk_InvalidState ?xi_InvalidStart ?xl_InvalidStart ?xb_InvalidStart ?xk_InvalidStart ?xi_InvalidPair ?xl_InvalidPair ?xb_InvalidPair ?xk_InvalidPair ?xi_InvalidText ?xl_InvalidText ?xb_InvalidText ?xk_InvalidText ?xtop ?zb_all ?zb_bool ?zb_enumerate ?zb_int ?zb_isinstance ?zb_len ?zb_list ?zb_max ?zb_min ?zb_range ?zb_repr ?zb_set ?zb_sorted ?zb_str ?zb_super ?zb_tuple ?zb_zip ?zc_DIGITS ?zc_LETTERS ?zc_MOST_DIGITS ?zc_MOST_SIGNS
    (case zm_WrongCount => k_is); (case zm_InvalidState => k_is); (case zm_InvalidStart => k_is); (case zm_InvalidPair => k_is); (case zm_InvalidText => k_is); (case zm_Custom => k_is)
    (case zm_Rule => k_is); (case a0 => k_is); (case l0 => k_is); (case c0 => k_is); (case k0 => k_is); (case a1 => k_is)
    (case l1 => k_is); (case c1 => k_is); (case k1 => k_is); (case a2 => k_is); (case l2 => k_is); (case c2 => k_is)
    (case k2 => k_is); (case a3 => k_is); (case l3 => k_is); (case c3 => k_is); (case k3 => k_is); (case a4 => k_is)
    (case l4 => k_is); (case c4 => k_is); (case k4 => k_is); (case a5 => k_is); (case l5 => k_is); (case c5 => k_is)
    (case k5 => k_is); (case a6 => k_is); (case l6 => k_is); (case c6 => k_is); (case k6 => k_is); (case a7 => k_is)
    (case l7 => k_is); (case c7 => k_is); (case k7 => k_is); (case a8 => k_is); (case l8 => k_is); (case c8 => k_is)
    (case k8 => k_is); (case a9 => k_is); (case l9 => k_is); (case c9 => k_is); (case k9 => k_is); (case a10 => k_is)
    (case l10 => k_is); (case c10 => k_is); (case k10 => k_is); (case a11 => k_is); (case l11 => k_is); (case c11 => k_is)
    (case k11 => k_is); (case a12 => k_is); (case i12 => k_is); (case l12 => k_is); (case c12 => k_is); (case k12 => k_is)
    (case a13 => k_is); (case l13 => k_is); (case c13 => k_is); (case k13 => k_is); (case a14 => k_is); (case l14 => k_is)
    (case c14 => k_is); (case k14 => k_is); (case a15 => k_is); (case i15 => k_is); (case l15 => k_is); (case c15 => k_is)
    (case k15 => k_is); (case a16 => k_is); (case i16 => k_is); (case l16 => k_is); (case c16 => k_is); (case k16 => k_is)
    (case a17 => k_is); (case l17 => k_is); (case c17 => k_is); (case k17 => k_is); (case a18 => k_is); (case l18 => k_is)
    (case c18 => k_is); (case k18 => k_is); (case a19 => k_is); (case l19 => k_is); (case c19 => k_is); (case k19 => k_is)
    (case a20 => k_is); (case l20 => k_is); (case c20 => k_is); (case k20 => k_is); (case a21 => k_is); (case l21 => k_is)
    (case c21 => k_is); (case k21 => k_is); (case a22 => k_is); (case l22 => k_is); (case c22 => k_is); (case k22 => k_is)
    (case a23 => k_is); (case l23 => k_is); (case c23 => k_is); (case k23 => k_is); (case a24 => k_is); (case i24 => k_is)
    (case l24 => k_is); (case c24 => k_is); (case k24 => k_is); (case a25 => k_is); (case l25 => k_is); (case c25 => k_is)
    (case k25 => k_is); (case a26 => k_is); (case l26 => k_is); (case c26 => k_is); (case k26 => k_is); (case a27 => k_is)
    (case l27 => k_is); (case c27 => k_is); (case k27 => k_is); (case a28 => k_is); (case l28 => k_is); (case c28 => k_is)
    (case k28 => k_is); (case a29 => k_is); (case i29 => k_is); (case l29 => k_is); (case c29 => k_is); (case k29 => k_is)
    (case a30 => k_is); (case i30 => k_is); (case l30 => k_is); (case c30 => k_is); (case k30 => k_is); (case a31 => k_is)
    (case l31 => k_is); (case c31 => k_is); (case k31 => k_is); (case a32 => k_is); (case l32 => k_is); (case c32 => k_is)
    (case k32 => k_is); (case a33 => k_is); (case i33 => k_is); (case l33 => k_is); (case c33 => k_is); (case k33 => k_is)
    (case a34 => k_is); (case l34 => k_is); (case c34 => k_is); (case k34 => k_is); (case a35 => k_is); (case i35 => k_is)
    (case l35 => k_is); (case c35 => k_is); (case k35 => k_is); (case a36 => k_is); (case l36 => k_is); (case c36 => k_is)
    (case k36 => k_is); (case a37 => k_is); (case i37 => k_is); (case l37 => k_is); (case c37 => k_is); (case k37 => k_is)
    (case a38 => k_is); (case l38 => k_is); (case c38 => k_is); (case k38 => k_is); (case pg_Custom => k_is); (case hd_Custom => k_is)
    (case po_Custom => k_is); (case sa_Custom => k_is); (case mk_Custom => k_is); (case kc_Custom => k_is); (case pg_Rule => k_is); (case hd_Rule => k_is)
    (case po_Rule => k_is); (case sa_Rule => k_is); (case mk_Rule => k_is); (case kc_Rule => k_is); (case ia_Custom => k_is); (case ib_Custom => k_is)
    (case ic_Custom => k_is); (case id_Custom => k_is); (case ie_Custom => kernel_rfl); (case ikNoneType_Custom => kernel_rfl); (case ikbool_Custom => kernel_rfl); (case ikint_Custom => kernel_rfl)
    (case ikstr_Custom => kernel_rfl); (case iktuple_Custom => kernel_rfl); (case iklist_Custom => kernel_rfl); (case ia_Rule => k_is); (case ib_Rule => k_is); (case ic_Rule => k_is)
    (case id_Rule => k_is); (case ie_Rule => kernel_rfl); (case ikNoneType_Rule => kernel_rfl); (case ikbool_Rule => kernel_rfl); (case ikint_Rule => kernel_rfl); (case ikstr_Rule => kernel_rfl)
    (case iktuple_Rule => kernel_rfl); (case iklist_Rule => kernel_rfl); (case nf_Custom => kernel_rfl); (case nf_Rule => kernel_rfl); (case ne_Custom => k_is); (case ne_Rule => k_is)
    (case ada_Rule => k_is); (case adb_Rule => k_is); (case adt1_Rule => kernel_rfl); (case adt2_Rule => kernel_rfl); (case adt3_Rule => kernel_rfl); (case adl1_Rule => kernel_rfl)
    (case adl2_Rule => kernel_rfl); (case adl3_Rule => kernel_rfl); (case na_Custom_begins => k_is); (case na_Custom_rows => k_is); (case na_Rule_rows => k_is); (case rd_Custom_MOST_NEXTS => k_is)
    (case ga_Custom_MOST_NEXTS => k_is); (case fc_Custom_MOST_NEXTS => k_is); (case rd_Custom_MOST_STATES => k_is); (case ga_Custom_MOST_STATES => k_is); (case fc_Custom_MOST_STATES => k_is); (case xi_WrongCount => k_is)
    (case xl_WrongCount => k_is); (case xb_WrongCount => kernel_rfl); (case xk_WrongCount => k_is); (case xi_InvalidState => k_is); (case xl_InvalidState => k_is); (case xb_InvalidState => kernel_rfl)
    (case xk_InvalidState => k_is); (case xi_InvalidStart => k_is); (case xl_InvalidStart => k_is); (case xb_InvalidStart => kernel_rfl); (case xk_InvalidStart => k_is); (case xi_InvalidPair => k_is)
    (case xl_InvalidPair => k_is); (case xb_InvalidPair => kernel_rfl); (case xk_InvalidPair => k_is); (case xi_InvalidText => k_is); (case xl_InvalidText => k_is); (case xb_InvalidText => kernel_rfl)
    (case xk_InvalidText => k_is); (case xtop => kernel_rfl); (case zb_all => k_is); (case zb_bool => k_is); (case zb_enumerate => k_is); (case zb_int => k_is)
    (case zb_isinstance => k_is); (case zb_len => k_is); (case zb_list => k_is); (case zb_max => k_is); (case zb_min => k_is); (case zb_range => k_is)
    (case zb_repr => k_is); (case zb_set => k_is); (case zb_sorted => k_is); (case zb_str => k_is); (case zb_super => k_is); (case zb_tuple => k_is)
    (case zb_zip => k_is); (case zc_DIGITS => k_is); (case zc_LETTERS => k_is); (case zc_MOST_DIGITS => k_is); (case zc_MOST_SIGNS => k_is)
