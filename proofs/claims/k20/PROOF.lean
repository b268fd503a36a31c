import PyProof.Rows.All
import Wide.All
import OpenK.AllK
import Wide.FinOn
import KE.KStateDown
import HandS.ForMost
import HandS.Exc
import HandS.ExcOwn
import HandS.WordsExc
import HandS.Wide
import HandS.IsInst
import HandS.Property
import HandS.Star
import HandS.TryOnly
import HandS.Lambda
import HandS.Conv
import HandS.Style
import HandS.SortInts
import HandS.Defaults
import HandS.ExcField
import HandS.Head0
import HandS.Head1
import HandS.Head2
import HandS.HeadEnd
import HandS.HeadHook1
import HandS.HeadHook2
import HandS.HeadNt
import HandS.SortRule
import HandS.TryMany
import HandS.Comp
import HandS.More
import KE.KOpsOwn
import HandS.MethStar
import HandS.ExcIs
import PyProof.TwoTypes
import PyProof.StrReplace2
import HandS.NamedTupGet
import HandS.OwnEq
import KE.DatumOrd
import HandS.SortKw
import HandS.CallSlots
import KE.KDictZip
import KE.GoesZip
import KE.GoesMore
import KE.GoesEnum
import HandS.Iter
import KE.IntBitsLaws
import KE.KExcIs
import PyProof.MaxThree
import PyProof.NeKinds
import HandS.ExcInit
import PyProof.P3Eq
import PySem.Challenge.RW_nailstrings_k20_lots_that_do_not_fit
set_option Elab.async false
set_option linter.all false
set_option maxRecDepth 100000
set_option maxHeartbeats 4000000
namespace DL
open PySem PySem.Spec PyProof.Rows L2

inductive D where
  | non | bl (b : Bool) | int (i : Int) | str (x : Str)
  | tup (l : List D) | lst (l : List D) | ins (C : Addr) (fs : List (Str × D)) | scr (l : List Int) | ref (a : Addr)

def Fixd : HO → Prop
  | .lst _ => False
  | .ins _ _ _ => False
  | .tbl _ => False
  | _ => True
def Keeps (A : Addr → Prop) (H H' : Hp) : Prop := ∀ a o, H a = some o → (A a ∨ Fixd o) → H' a = some o
theorem Keeps.refl {A : Addr → Prop} {H : Hp} : Keeps A H H := fun _ _ h _ => h
theorem Keeps.trans {A : Addr → Prop} {H H1 H2 : Hp} (a : Keeps A H H1) (b : Keeps A H1 H2) : Keeps A H H2 := fun x o h q => b x o (a x o h q) q
theorem Keeps.mono {A B : Addr → Prop} {H H' : Hp} (k : Keeps B H H') (s : ∀ a, A a → B a) : Keeps A H H' := fun x o h q => k x o h (q.imp (s x) id)
theorem Keeps.same {A : Addr → Prop} {H H' : Hp} (s : Same H H') : Keeps A H H' := fun x o h _ => s x o h
theorem Keeps.new {A : Addr → Prop} {H : Hp} {p : Addr} {o : HO} (n : H p = none) : Keeps A H (upd H p o) := fun x u h _ => by
  rw [upd_ne (ne_of_none h n)]
  exact h
theorem Keeps.put {A : Addr → Prop} {H : Hp} {p : Addr} {o u : HO} (n : ¬ A p) (e : H p = some u) (f : ¬ Fixd u) : Keeps A H (upd H p o) := fun x v h q => by
  have ne : x ≠ p := fun z => by
    subst z
    rw [e] at h
    cases h
    exact q.elim n f
  rw [upd_ne ne]
  exact h

def SqS (K : PySem.W.Frag) (H : Hp) (a : Addr) (xs : List V) : Prop :=
  (∃ o, H a = some (.frz o (.lst xs))) ∨
    ∃ (o : Obj) (its : Array Value) (n : Nat), K.lookup a = some o ∧ o.cls = .type "list" ∧ o.dict = none ∧ o.data = .seq its n ∧ its.size ≤ sizeLine ∧ Vals xs its.toList
theorem SqS.sq {K : PySem.W.Frag} {H : Hp} {a : Addr} {xs : List V} (h : SqS K H a xs) : SqL K H a xs := by
  rcases h with ⟨o, h⟩ | h
  · exact .inl (.inr ⟨o, h⟩)
  · exact .inr h

mutual
def Rp (K : PySem.W.Frag) (A : Addr → Prop) (H : Hp) : D → V → Prop
  | .non, v => v = .non
  | .bl b, v => v = .bl b
  | .int i, v => v = .int i
  | .str x, v => v = .str x
  | .tup l, v => ∃ a xs, v = .ref a ∧ H a = some (.tup xs) ∧ RpL K A H l xs
  | .lst l, v => ∃ a xs, v = .ref a ∧ A a ∧ H a = some (.lst xs) ∧ RpL K A H l xs
  | .ins C fs, v => ∃ a dx vs, v = .ref a ∧ A a ∧ H a = some (.ins C dx vs) ∧ RpF K A H fs vs
  | .scr l, v => ∃ a, v = .ref a ∧ SqS K H a (l.map V.int)
  | .ref a, v => v = .ref a
def RpL (K : PySem.W.Frag) (A : Addr → Prop) (H : Hp) : List D → List V → Prop
  | [], xs => xs = []
  | d :: ds, xs => ∃ x r, xs = x :: r ∧ Rp K A H d x ∧ RpL K A H ds r
def RpF (K : PySem.W.Frag) (A : Addr → Prop) (H : Hp) : List (Str × D) → List (Str × V) → Prop
  | [], xs => xs = []
  | d :: ds, xs => ∃ x r, xs = (d.1, x) :: r ∧ Rp K A H d.2 x ∧ RpF K A H ds r
end

section
variable {K : PySem.W.Frag} {A A' : Addr → Prop} {H H' : Hp}
theorem sqs_keeps {a : Addr} {xs : List V} (k : Keeps A H H') (h : SqS K H a xs) : SqS K H' a xs := by
  rcases h with ⟨o, h⟩ | h
  · exact .inl ⟨o, k _ _ h (.inr trivial)⟩
  · exact .inr h
mutual
theorem Rp.mono (s : ∀ a, A a → A' a) (k : Keeps A H H') : ∀ (d : D) (v : V), Rp K A H d v → Rp K A' H' d v
  | .non, _, h => h
  | .bl _, _, h => h
  | .int _, _, h => h
  | .str _, _, h => h
  | .tup l, v, h => by
    unfold Rp at h ⊢
    obtain ⟨a, xs, e, q, r⟩ := h
    exact ⟨a, xs, e, k _ _ q (.inr trivial), RpL.mono s k l xs r⟩
  | .lst l, v, h => by
    unfold Rp at h ⊢
    obtain ⟨a, xs, e, q, z, r⟩ := h
    exact ⟨a, xs, e, s a q, k _ _ z (.inl q), RpL.mono s k l xs r⟩
  | .ins C fs, v, h => by
    unfold Rp at h ⊢
    obtain ⟨a, dx, vs, e, q, z, r⟩ := h
    exact ⟨a, dx, vs, e, s a q, k _ _ z (.inl q), RpF.mono s k fs vs r⟩
  | .scr l, v, h => by
    unfold Rp at h ⊢
    obtain ⟨a, e, q⟩ := h
    exact ⟨a, e, sqs_keeps k q⟩
  | .ref _, _, h => h
theorem RpL.mono (s : ∀ a, A a → A' a) (k : Keeps A H H') : ∀ (l : List D) (xs : List V), RpL K A H l xs → RpL K A' H' l xs
  | [], _, h => h
  | d :: ds, xs, h => by
    unfold RpL at h ⊢
    obtain ⟨x, r, e, q, z⟩ := h
    exact ⟨x, r, e, Rp.mono s k d x q, RpL.mono s k ds r z⟩
theorem RpF.mono (s : ∀ a, A a → A' a) (k : Keeps A H H') : ∀ (l : List (Str × D)) (xs : List (Str × V)), RpF K A H l xs → RpF K A' H' l xs
  | [], _, h => h
  | (f, d) :: ds, xs, h => by
    unfold RpF at h ⊢
    obtain ⟨x, r, e, q, z⟩ := h
    exact ⟨x, r, e, Rp.mono s k d x q, RpF.mono s k ds r z⟩
end
theorem Rp.keep (k : Keeps A H H') {d : D} {v : V} (h : Rp K A H d v) : Rp K A H' d v := Rp.mono (fun _ h => h) k d v h
theorem RpL.keep (k : Keeps A H H') {d : List D} {v : List V} (h : RpL K A H d v) : RpL K A H' d v := RpL.mono (fun _ h => h) k d v h
theorem RpF.keep (k : Keeps A H H') {d : List (Str × D)} {v : List (Str × V)} (h : RpF K A H d v) : RpF K A H' d v := RpF.mono (fun _ h => h) k d v h
theorem RpL.len : ∀ {l : List D} {xs : List V}, RpL K A H l xs → xs.length = l.length
  | [], _, h => by
    unfold RpL at h
    rw [h]
    rfl
  | _ :: _, _, h => by
    unfold RpL at h
    obtain ⟨x, r, e, _, z⟩ := h
    rw [e, List.length_cons, List.length_cons, RpL.len z]
theorem RpL.get : ∀ {l : List D} {xs : List V} {i : Nat} {d : D}, RpL K A H l xs → l[i]? = some d → ∃ v, xs[i]? = some v ∧ Rp K A H d v
  | [], _, i, d, _, e => by simp at e
  | c :: ds, _, 0, d, h, e => by
    unfold RpL at h
    obtain ⟨x, r, rfl, q, z⟩ := h
    have e1 : c = d := Option.some.inj e
    subst e1
    exact ⟨x, rfl, q⟩
  | c :: ds, _, i + 1, d, h, e => by
    unfold RpL at h
    obtain ⟨x, r, rfl, q, z⟩ := h
    exact RpL.get (i := i) z (by simpa using e)
theorem RpL.get' : ∀ {l : List D} {xs : List V} {i : Nat} {v : V}, RpL K A H l xs → xs[i]? = some v → ∃ d, l[i]? = some d ∧ Rp K A H d v
  | [], _, i, v, h, e => by
    unfold RpL at h
    subst h
    simp at e
  | c :: ds, _, 0, v, h, e => by
    unfold RpL at h
    obtain ⟨x, r, rfl, q, z⟩ := h
    have e1 : x = v := Option.some.inj e
    subst e1
    exact ⟨c, rfl, q⟩
  | c :: ds, _, i + 1, v, h, e => by
    unfold RpL at h
    obtain ⟨x, r, rfl, q, z⟩ := h
    exact RpL.get' (i := i) z (by simpa using e)
theorem RpL.append : ∀ {l m : List D} {xs ys : List V}, RpL K A H l xs → RpL K A H m ys → RpL K A H (l ++ m) (xs ++ ys)
  | [], _, _, _, h, h2 => by
    unfold RpL at h
    subst h
    exact h2
  | _ :: _, _, _, _, h, h2 => by
    unfold RpL at h
    obtain ⟨x, r, rfl, q, z⟩ := h
    show RpL K A H (_ :: (_ ++ _)) (x :: (r ++ _))
    unfold RpL
    exact ⟨x, _, rfl, q, RpL.append z h2⟩
theorem RpL.one {d : D} {v : V} (h : Rp K A H d v) : RpL K A H [d] [v] := by
  unfold RpL
  exact ⟨v, [], rfl, h, by unfold RpL; rfl⟩
theorem RpL.nil : RpL K A H [] [] := by
  unfold RpL
  rfl
theorem RpL.cons {d : D} {v : V} {ds : List D} {vs : List V} (h : Rp K A H d v) (h2 : RpL K A H ds vs) : RpL K A H (d :: ds) (v :: vs) := by
  unfold RpL
  exact ⟨v, vs, rfl, h, h2⟩
theorem RpL.take : ∀ {l : List D} {xs : List V} (n : Nat), RpL K A H l xs → RpL K A H (l.take n) (xs.take n)
  | _, _, 0, _ => by
    rw [List.take_zero, List.take_zero]
    exact RpL.nil
  | [], _, n + 1, h => by
    unfold RpL at h
    subst h
    exact RpL.nil
  | _ :: _, _, n + 1, h => by
    unfold RpL at h
    obtain ⟨x, r, rfl, q, z⟩ := h
    exact RpL.cons q (RpL.take n z)
theorem RpL.drop : ∀ {l : List D} {xs : List V} (n : Nat), RpL K A H l xs → RpL K A H (l.drop n) (xs.drop n)
  | _, _, 0, h => h
  | [], _, n + 1, h => by
    unfold RpL at h
    subst h
    exact RpL.nil
  | _ :: _, _, n + 1, h => by
    unfold RpL at h
    obtain ⟨x, r, rfl, q, z⟩ := h
    exact RpL.drop n z
theorem RpL.set : ∀ {l : List D} {xs : List V} {d : D} {v : V} (n : Nat), RpL K A H l xs → Rp K A H d v → RpL K A H (l.set n d) (xs.set n v)
  | [], _, _, _, _, h, _ => by
    unfold RpL at h
    subst h
    exact RpL.nil
  | _ :: _, _, _, _, 0, h, h2 => by
    unfold RpL at h
    obtain ⟨x, r, rfl, q, z⟩ := h
    exact RpL.cons h2 z
  | _ :: _, _, _, _, n + 1, h, h2 => by
    unfold RpL at h
    obtain ⟨x, r, rfl, q, z⟩ := h
    exact RpL.cons q (RpL.set n z h2)
theorem RpL.ints : ∀ {l : List Int} {xs : List V}, RpL K A H (l.map D.int) xs → xs = l.map V.int
  | [], _, h => by
    unfold RpL at h
    exact h
  | i :: r, _, h => by
    have h' : RpL K A H (D.int i :: r.map D.int) _ := h
    unfold RpL at h'
    obtain ⟨x, s, rfl, q, z⟩ := h'
    unfold Rp at q
    rw [q, RpL.ints z]
    rfl
theorem look_eq {α : Type} {f g : Str} {x : α} {l : List (Str × α)} (h : (f == g) = true) : List.lookup f ((g, x) :: l) = some x := by
  rw [List.lookup_cons, h]
theorem look_ne {α : Type} {f g : Str} {x : α} {l : List (Str × α)} (h : (f == g) = false) : List.lookup f ((g, x) :: l) = List.lookup f l := by
  rw [List.lookup_cons, h]
theorem RpF.look {f : Str} {d : D} : ∀ {l : List (Str × D)} {xs : List (Str × V)}, RpF K A H l xs → l.lookup f = some d → ∃ v, xs.lookup f = some v ∧ Rp K A H d v
  | [], _, _, e => by cases e
  | (g, c) :: ds, _, h, e => by
    unfold RpF at h
    obtain ⟨x, r, rfl, q, z⟩ := h
    cases hb : (f == g) with
    | true =>
      rw [look_eq hb] at e
      have e1 : c = d := Option.some.inj e
      subst e1
      exact ⟨x, look_eq hb, q⟩
    | false =>
      rw [look_ne hb] at e
      obtain ⟨v, e2, r2⟩ := RpF.look z e
      exact ⟨v, (look_ne hb).trans e2, r2⟩
theorem RpF.none {f : Str} : ∀ {l : List (Str × D)} {xs : List (Str × V)}, RpF K A H l xs → l.lookup f = Option.none → xs.lookup f = Option.none
  | [], _, h, _ => by
    unfold RpF at h
    subst h
    rfl
  | (g, c) :: ds, _, h, e => by
    unfold RpF at h
    obtain ⟨x, r, rfl, q, z⟩ := h
    cases hb : (f == g) with
    | true =>
      rw [look_eq hb] at e
      cases e
    | false =>
      rw [look_ne hb] at e
      exact (look_ne hb).trans (RpF.none z e)
end

class Is where
  l : List (Addr × Addr × List (Str × D))
instance isNil : Is := ⟨[]⟩
structure S where
  δ : List (Option D)
  ω : List (Addr × List D)
  [ι : Is]
def OwL (K : PySem.W.Frag) (A : Addr → Prop) (H : Hp) (p : Addr) (ds : List D) : Prop := ∃ xs, H p = some (.lst xs) ∧ RpL K A H ds xs
def OwI (K : PySem.W.Frag) (A : Addr → Prop) (H : Hp) (p C : Addr) (fs : List (Str × D)) : Prop := ∃ dx vs, H p = some (.ins C dx vs) ∧ RpF K A H fs vs

structure En (K : PySem.W.Frag) (A : Addr → Prop) (σ : List (Option V)) (H : Hp) (s : S) (τ : List (V × D)) : Prop where
  slots : ∀ (i : Nat) (d : D), s.δ[i]? = some (some d) → ∃ v, σ[i]? = some (some v) ∧ Rp K A H d v
  len : σ.length = s.δ.length
  own : ∀ p ds, (p, ds) ∈ s.ω → (∃ xs, H p = some (.lst xs) ∧ RpL K A H ds xs) ∧ ¬ A p
  nd : (s.ω.map (·.1)).Nodup
  tmp : ∀ v d, (v, d) ∈ τ → Rp K A H d v
  dom : ∀ a, A a → ∃ o, H a = some o
  ins : ∀ p C fs, (p, C, fs) ∈ s.ι.l → OwI K A H p C fs ∧ ¬ A p
  ndi : (s.ι.l.map (·.1)).Nodup

structure Cc where
  H0 : Hp
  A0 : Addr → Prop
  O0 : List Addr
  ρ : List (Addr × List D)
  T : List (Addr × Str)
def Tb (c : Cc) (H : Hp) : Prop := ∀ x ∈ c.T, x.1 ∈ c.O0 ∧ LamX.TabS H x.1 x.2
theorem tabS_step {H H' : Hp} {P : Addr} {q : Str} (t : LamX.TabS H P q) (k : ∀ a o, H a = some o → (Fixd o ∨ ∃ ps, o = .tbl ps) → H' a = some o) : LamX.TabS H' P q := by
  obtain ⟨ps, h1, h2, h3⟩ := t
  refine ⟨ps, k _ _ h1 (.inr ⟨_, rfl⟩), h2, fun pos cv hc => ?_⟩
  obtain ⟨b, e1, e2⟩ := h3 pos cv hc
  exact ⟨b, e1, k _ _ e2 (.inl trivial)⟩
theorem Tb.step {c : Cc} {H H' : Hp} (t : Tb c H) (k : ∀ a o, H a = some o → (Fixd o ∨ ∃ ps, o = .tbl ps) → H' a = some o) : Tb c H' := fun x hx => ⟨(t x hx).1, tabS_step (t x hx).2 k⟩
theorem Tb.new {c : Cc} {H : Hp} {p : Addr} {o : HO} (t : Tb c H) (n : H p = none) : Tb c (upd H p o) := t.step fun a u h _ => by
  rw [upd_ne (ne_of_none h n)]
  exact h
theorem Tb.put {c : Cc} {H : Hp} {p : Addr} {o u : HO} (t : Tb c H) (e : H p = some u) (f : ¬ Fixd u) (g : ∀ ps, u ≠ .tbl ps) : Tb c (upd H p o) := t.step fun a v h q => by
  have ne : a ≠ p := fun z => by
    subst z
    rw [e] at h
    cases h
    rcases q with q | ⟨ps, q⟩
    · exact f q
    · exact g ps q
  rw [upd_ne ne]
  exact h
structure Rel (K : PySem.W.Frag) (c : Cc) (A : Addr → Prop) (H : Hp) (ω : List (Addr × List D)) (ι : Is) : Prop where
  sub : ∀ a, c.A0 a → A a
  up : ∀ a, A a → c.A0 a ∨ c.H0 a = none
  keep : ∀ a o, c.H0 a = some o → a ∉ c.O0 → H a = some o
  own : ∀ p ds, (p, ds) ∈ ω → p ∈ c.O0 ∨ c.H0 p = none
  there : ∀ p, p ∈ c.O0 → ∃ o, H p = some o
  nA : ∀ p, p ∈ c.O0 → ¬ A p
  o0 : ∀ p, p ∈ c.O0 → ∃ o, c.H0 p = some o ∧ ¬ Fixd o
  ro : ∀ p l, (p, l) ∈ c.ρ → p ∉ c.O0 ∧ ∃ xs, c.H0 p = some (.lst xs) ∧ RpL K c.A0 c.H0 l xs
  ins : ∀ p C fs, (p, C, fs) ∈ ι.l → p ∈ c.O0 ∨ c.H0 p = none
  tab : Tb c H
theorem Rel.keeps {K : PySem.W.Frag} {c : Cc} {A : Addr → Prop} {H : Hp} {ω : List (Addr × List D)} {ι : Is} (r : Rel K c A H ω ι) : Keeps c.A0 c.H0 H := fun a o h q => r.keep a o h fun z => by
  obtain ⟨u, e, f⟩ := r.o0 a z
  rw [h] at e
  cases e
  exact q.elim (fun q => r.nA a z (r.sub a q)) fun q => f q
theorem Rel.read {K : PySem.W.Frag} {c : Cc} {A : Addr → Prop} {H : Hp} {ω : List (Addr × List D)} {ι : Is} (r : Rel K c A H ω ι) {p : Addr} {l : List D} (h : (p, l) ∈ c.ρ) : ∃ xs, H p = some (.lst xs) ∧ RpL K A H l xs := by
  obtain ⟨h1, xs, h2, h3⟩ := r.ro p l h
  exact ⟨xs, r.keep p _ h2 h1, RpL.mono r.sub r.keeps _ _ h3⟩
def SE (K : PySem.W.Frag) (c : Cc) (σ : List (Option V)) (H : Hp) (s : S) (τ : List (V × D)) : Prop := ∃ A, En K A σ H s τ ∧ Rel K c A H s.ω s.ι
theorem OwI.mono {K : PySem.W.Frag} {A A' : Addr → Prop} {H H' : Hp} {p C : Addr} {fs : List (Str × D)} (s : ∀ a, A a → A' a) (k : Keeps A H H') (h : OwI K A H p C fs) (e : H' p = H p) : OwI K A' H' p C fs :=
  let ⟨dx, vs, h1, h2⟩ := h; ⟨dx, vs, e.trans h1, RpF.mono s k _ _ h2⟩

section
variable {K : PySem.W.Frag} {c : Cc} {A : Addr → Prop} {σ : List (Option V)} {H H' : Hp} {s : S} {τ τ' : List (V × D)} {v : V} {d : D}
theorem En.sub (e : En K A σ H s τ) (h : ∀ x ∈ τ', x ∈ τ) : En K A σ H s τ' := ⟨e.slots, e.len, e.own, e.nd, fun v d q => e.tmp v d (h _ q), e.dom, e.ins, e.ndi⟩
theorem SE.sub (e : SE K c σ H s τ) (h : ∀ x ∈ τ', x ∈ τ) : SE K c σ H s τ' := let ⟨A, e1, r⟩ := e; ⟨A, e1.sub h, r⟩
theorem SE.pop (e : SE K c σ H s ((v, d) :: τ)) : SE K c σ H s τ := e.sub fun _ h => List.mem_cons_of_mem _ h
theorem En.push (e : En K A σ H s τ) (h : Rp K A H d v) : En K A σ H s ((v, d) :: τ) := ⟨e.slots, e.len, e.own, e.nd, fun w f q => by
  rcases List.mem_cons.mp q with q | q
  · cases q
    exact h
  · exact e.tmp w f q, e.dom, e.ins, e.ndi⟩
def Atom : D → V → Prop
  | .non, v => v = .non
  | .bl b, v => v = .bl b
  | .int i, v => v = .int i
  | .str x, v => v = .str x
  | .ref a, v => v = .ref a
  | _, _ => False
theorem Atom.rp {A : Addr → Prop} {H : Hp} (h : Atom d v) : Rp K A H d v := by
  cases d <;> first | exact h.elim | (unfold Rp; exact h)
theorem SE.atom (e : SE K c σ H s τ) (h : Atom d v) : SE K c σ H s ((v, d) :: τ) := let ⟨A, e1, r⟩ := e; ⟨A, e1.push h.rp, r⟩
end
end DL

namespace DL
open PySem PySem.Spec PyProof.Rows L2

abbrev XD := Option (List (Str × D))
def XR (K : PySem.W.Frag) (H : Hp) : XD → Option Addr → Prop
  | none, d => d = none
  | some fs, d => ∃ dd vs, d = some dd ∧ H dd = some (.xd vs) ∧ RpF K (fun _ => False) H fs vs
abbrev PX := Value → XD → S → Prop
def tW (K : PySem.W.Frag) (c : Cc) (W : WX) (s : S) (Φ : D → S → Prop) (Ξ : PX) : TE := fun σ H Q => ∃ τ, SE K c σ H s τ ∧
  (∀ v d s' H', Φ d s' → SE K c σ H' s' ((v, d) :: τ) → Q v H') ∧ (∀ cls x dd s' H', Ξ cls x s' → SE K c σ H' s' τ → XR K H' x dd → W cls dd σ H')
def tB2 (K : PySem.W.Frag) (c : Cc) (W : WX) (s : S) (Φ : Bool → S → Prop) (Ξ : PX) : TT := fun σ H Q => ∃ τ, SE K c σ H s τ ∧
  (∀ b s' H', Φ b s' → SE K c σ H' s' τ → Q b H') ∧ (∀ cls x dd s' H', Ξ cls x s' → SE K c σ H' s' τ → XR K H' x dd → W cls dd σ H')
def tA2 (K : PySem.W.Frag) (c : Cc) (W : WX) (s : S) (Φ : List D → S → Prop) (Ξ : PX) : TA := fun σ H Q => ∃ τ, SE K c σ H s τ ∧
  (∀ vs ds s' H' τ', Φ ds s' → SE K c σ H' s' τ' → (∀ x ∈ τ, x ∈ τ') → Paired (fun v d => (v, d) ∈ τ') vs ds → Q vs H') ∧ (∀ cls x dd s' H', Ξ cls x s' → SE K c σ H' s' τ → XR K H' x dd → W cls dd σ H')

def EW (X : Cx) (c : Cc) (W : WX) (s : S) (Φ : D → S → Prop) (Ξ : PX) (e : Expr) : Prop := PE X e (tW X.K c W s Φ Ξ)
def BW (X : Cx) (c : Cc) (W : WX) (s : S) (Φ : Bool → S → Prop) (Ξ : PX) (e : Expr) : Prop := PT X e (tB2 X.K c W s Φ Ξ)
def WW (X : Cx) (c : Cc) (W : WX) (s : S) (Φ : Bool → S → Prop) (Ξ : PX) (e : Expr) : Prop := PW X e (tB2 X.K c W s Φ Ξ)
def AW (X : Cx) (c : Cc) (W : WX) (s : S) (Φ : List D → S → Prop) (Ξ : PX) (es : List Expr) : Prop := PA X es (tA2 X.K c W s Φ Ξ)

def tAny (X : Cx) (e : Expr) : TE := fun σ H Q => ∃ t, PE X e t ∧ t σ H Q
def bAny (X : Cx) (e : Expr) : TT := fun σ H Q => ∃ t, PT X e t ∧ t σ H Q
def wAny (X : Cx) (e : Expr) : TT := fun σ H Q => ∃ t, PW X e t ∧ t σ H Q
def aAny (X : Cx) (es : List Expr) : TA := fun σ H Q => ∃ t, PA X es t ∧ t σ H Q

section
variable {X : Cx} {c : Cc} {W : WX} {s : S} {Φ : D → S → Prop} {Φb : Bool → S → Prop} {Φa : List D → S → Prop} {Ξ : PX} {e a b : Expr} {es : List Expr} {pos : Pos} {σ : L2.St} {H : Hp}
theorem PE.mono {t t' : TE} (h : PE X e t) (m : ∀ σ H Q, t' σ H Q → t σ H Q) : PE X e t' := ⟨fun pins s σ H Q I q => h.run pins s σ H Q I (m _ _ _ q)⟩
theorem PT.mono {t t' : TT} (h : PT X e t) (m : ∀ σ H Q, t' σ H Q → t σ H Q) : PT X e t' := ⟨fun pins s σ H Q I q => h.run pins s σ H Q I (m _ _ _ q)⟩
theorem PW.mono {t t' : TT} (h : PW X e t) (m : ∀ σ H Q, t' σ H Q → t σ H Q) : PW X e t' := ⟨fun w pins s σ H Q I q => h.run w pins s σ H Q I (m _ _ _ q)⟩
theorem PA.mono {t t' : TA} (h : PA X es t) (m : ∀ σ H Q, t' σ H Q → t σ H Q) : PA X es t' := ⟨fun pos pins s σ H Q I q => h.run pos pins s σ H Q I (m _ _ _ q)⟩
theorem pe_any : PE X e (tAny X e) := ⟨fun pins s σ H Q I ⟨t, h, q⟩ => h.run pins s σ H Q I q⟩
theorem pt_any : PT X e (bAny X e) := ⟨fun pins s σ H Q I ⟨t, h, q⟩ => h.run pins s σ H Q I q⟩
theorem pw_any : PW X e (wAny X e) := ⟨fun w pins s σ H Q I ⟨t, h, q⟩ => h.run w pins s σ H Q I q⟩
theorem pa_any : PA X es (aAny X es) := ⟨fun pos pins s σ H Q I ⟨t, h, q⟩ => h.run pos pins s σ H Q I q⟩
theorem PE.any {t : TE} (h : PE X e t) {Q : VK} (q : t σ H Q) : tAny X e σ H Q := ⟨t, h, q⟩

theorem EW.use {τ : List (V × D)} {Q : VK} (h : EW X c W s Φ Ξ e) (e0 : SE X.K c σ H s τ) (k : ∀ v d s' H', Φ d s' → SE X.K c σ H' s' ((v, d) :: τ) → Q v H')
    (hx : ∀ cls x dd s' H', Ξ cls x s' → SE X.K c σ H' s' τ → XR X.K H' x dd → W cls dd σ H') : tAny X e σ H Q := ⟨_, h, τ, e0, k, hx⟩
theorem BW.use {τ : List (V × D)} {Q : Bool → Hp → Prop} (h : BW X c W s Φb Ξ e) (e0 : SE X.K c σ H s τ) (k : ∀ b s' H', Φb b s' → SE X.K c σ H' s' τ → Q b H')
    (hx : ∀ cls x dd s' H', Ξ cls x s' → SE X.K c σ H' s' τ → XR X.K H' x dd → W cls dd σ H') : bAny X e σ H Q := ⟨_, h, τ, e0, k, hx⟩
theorem AW.use {τ : List (V × D)} {Q : List V → Hp → Prop} (h : AW X c W s Φa Ξ es) (e0 : SE X.K c σ H s τ) (k : ∀ vs ds s' H' τ', Φa ds s' → SE X.K c σ H' s' τ' → (∀ x ∈ τ, x ∈ τ') → Paired (fun v d => (v, d) ∈ τ') vs ds → Q vs H')
    (hx : ∀ cls x dd s' H', Ξ cls x s' → SE X.K c σ H' s' τ → XR X.K H' x dd → W cls dd σ H') : aAny X es σ H Q := ⟨_, h, τ, e0, k, hx⟩

theorem EW.imp {Φ' : D → S → Prop} (h : EW X c W s Φ' Ξ e) (m : ∀ d s', Φ' d s' → Φ d s') : EW X c W s Φ Ξ e := PE.mono h fun σ H Q ⟨τ, e0, k, hx⟩ => ⟨τ, e0, fun v d s' H' p q => k v d s' H' (m d s' p) q, hx⟩

inductive At {α : Type} : List α → Nat → α → Prop
  | z {a : α} {l : List α} : At (a :: l) 0 a
  | s {a b : α} {l : List α} {i : Nat} (h : At l i a) : At (b :: l) (i + 1) a
theorem At.get {α : Type} {l : List α} {i : Nat} {a : α} (h : At l i a) : l[i]? = some a := by
  induction h with
  | z => rfl
  | s _ ih => simpa using ih
inductive Pt {α : Type} : List α → Nat → α → List α → Prop
  | z {a b : α} {l : List α} : Pt (b :: l) 0 a (a :: l)
  | s {a b : α} {l l' : List α} {i : Nat} (h : Pt l i a l') : Pt (b :: l) (i + 1) a (b :: l')
theorem Pt.eq {α : Type} {l l' : List α} {i : Nat} {a : α} (h : Pt l i a l') : l' = l.set i a := by
  induction h with
  | z => rfl
  | s _ ih => rw [ih]; rfl
inductive Mem {α : Type} : List α → α → Prop
  | z {a : α} {l : List α} : Mem (a :: l) a
  | s {a b : α} {l : List α} (h : Mem l a) : Mem (b :: l) a
theorem Mem.mem {α : Type} {l : List α} {a : α} (h : Mem l a) : a ∈ l := by
  induction h with
  | z => exact List.mem_cons_self
  | s _ ih => exact List.mem_cons_of_mem _ ih

theorem ew_name {i : Nat} {x : Str} {d : D} (hd : At s.δ i (some d)) (k : Φ d s) (hN : X.N[i]? = some x := by rfl) (hv : Vis X.env.scope x := by first | exact Or.inl rfl | exact Or.inr (Or.inl rfl) | exact Or.inr (Or.inr rfl))
    (hdb : (x == ("__debug__" : Str)) = false := by decide) (hcd : (x == ("__classdict__" : Str)) = false := by decide) : EW X c W s Φ Ξ (.Name x pos) :=
  PE.mono (pe_var hN hv hdb hcd) fun σ H Q ⟨τ, ⟨A, e0, r⟩, q, _⟩ => by
    obtain ⟨v, hv, hr⟩ := e0.slots i d hd.get
    exact ⟨v, hv, q v d s H k ⟨A, e0.push hr, r⟩⟩
theorem ew_int {i : Int} {j : Nat} (k : Φ (.int i) s) : EW X c W s Φ Ξ (.Constant (.int i) j pos) := PE.mono pe_int fun σ H Q ⟨τ, e0, q, _⟩ => q _ _ s H k (e0.atom rfl)
theorem ew_bl {b : Bool} {j : Nat} (k : Φ (.bl b) s) : EW X c W s Φ Ξ (.Constant (.bool b) j pos) := PE.mono pe_bl fun σ H Q ⟨τ, e0, q, _⟩ => q _ _ s H k (e0.atom rfl)
theorem ew_non {j : Nat} (k : Φ .non s) : EW X c W s Φ Ξ (.Constant .none j pos) := PE.mono pe_non fun σ H Q ⟨τ, e0, q, _⟩ => q _ _ s H k (e0.atom rfl)
theorem ew_str {x : Str} {j : Nat} (k : Φ (.str x) s) : EW X c W s Φ Ξ (.Constant (.str x) j pos) := PE.mono pe_str fun σ H Q ⟨τ, e0, q, _⟩ => q _ _ s H k (e0.atom rfl)
theorem ew_gint {x : Str} {i : Int} {t : Tok} (hm : X.mg x = some (.int i t)) (k : Φ (.int i) s) (hg : Gl X x := by rfl) (hdb : (x == ("__debug__" : Str)) = false := by decide) : EW X c W s Φ Ξ (.Name x pos) :=
  PE.mono (pe_glob (v := V.int i) hg hm ⟨t, rfl⟩ hdb) fun σ H Q ⟨τ, e0, q, _⟩ => q _ _ s H k (e0.atom rfl)

inductive Src (c : Cc) (s : S) : D → List D → Prop
  | lst {l : List D} : Src c s (.lst l) l
  | own {p : Addr} {l : List D} (h : Mem s.ω (p, l)) : Src c s (.ref p) l
  | ro {p : Addr} {l : List D} (h : Mem c.ρ (p, l)) : Src c s (.ref p) l
theorem Src.rd {K : PySem.W.Frag} {A : Addr → Prop} {σ : L2.St} {H : Hp} {τ : List (V × D)} {d : D} {l : List D} {v : V} (h : Src c s d l) (e : En K A σ H s τ) (rl : Rel K c A H s.ω s.ι) (r : Rp K A H d v) : ∃ p xs, v = .ref p ∧ H p = some (.lst xs) ∧ RpL K A H l xs := by
  cases h with
  | lst =>
    unfold Rp at r
    obtain ⟨p, xs, e1, _, e2, r2⟩ := r
    exact ⟨p, xs, e1, e2, r2⟩
  | @own p l h =>
    unfold Rp at r
    obtain ⟨⟨xs, e1, e2⟩, _⟩ := e.own p l h.mem
    exact ⟨p, xs, r, e1, e2⟩
  | @ro p l h =>
    unfold Rp at r
    obtain ⟨xs, e1, e2⟩ := rl.read h.mem
    exact ⟨p, xs, r, e1, e2⟩

theorem SE.newL {K : PySem.W.Frag} {H : Hp} {σ : List (Option V)} {τ : List (V × D)} {p : Addr} {xs : List V} {l : List D} {A : Addr → Prop} (e : En K A σ H s τ) (r : Rel K c A H s.ω s.ι) (n : H p = none) (h : RpL K A H l xs) :
    SE K c σ (upd H p (.lst xs)) (@S.mk s.δ ((p, l) :: s.ω) s.ι) ((.ref p, .ref p) :: τ) := by
  have k : Keeps A H (upd H p (.lst xs)) := Keeps.new n
  have nA : ¬ A p := fun z => by
    obtain ⟨o, q⟩ := e.dom p z
    rw [n] at q
    cases q
  have nO : ∀ q ds, (q, ds) ∈ s.ω → q ≠ p := fun q ds hq z => by
    obtain ⟨⟨ys, e1, _⟩, _⟩ := e.own q ds hq
    rw [z, n] at e1
    cases e1
  refine ⟨A, ⟨fun i d hd => ?_, e.len, fun q ds hq => ?_, ?_, fun v d hv => ?_, fun a ha => ?_, fun q C fs hq => ?_, e.ndi⟩, ⟨r.sub, r.up, fun a o ha no => ?_, fun q ds hq => ?_, fun q hq => ?_, r.nA, r.o0, r.ro, r.ins, r.tab.new n⟩⟩
  · obtain ⟨v, hv, hr⟩ := e.slots i d hd
    exact ⟨v, hv, hr.keep k⟩
  · rcases List.mem_cons.mp hq with hq | hq
    · cases hq
      exact ⟨⟨xs, upd_same, h.keep k⟩, nA⟩
    · obtain ⟨⟨ys, e1, e2⟩, e3⟩ := e.own q ds hq
      exact ⟨⟨ys, by rw [upd_ne (nO q ds hq)]; exact e1, e2.keep k⟩, e3⟩
  · show ((p :: s.ω.map (·.1)) : List Addr).Nodup
    refine List.nodup_cons.mpr ⟨fun z => ?_, e.nd⟩
    obtain ⟨⟨q, ds⟩, h1, h2⟩ := List.mem_map.mp z
    exact nO q ds h1 h2
  · rcases List.mem_cons.mp hv with hv | hv
    · cases hv
      unfold Rp
      rfl
    · exact (e.tmp v d hv).keep k
  · obtain ⟨o, q⟩ := e.dom a ha
    exact ⟨o, by rw [upd_ne (ne_of_none q n)]; exact q⟩
  · obtain ⟨⟨dx, vs, q1, q2⟩, q3⟩ := e.ins q C fs hq
    exact ⟨⟨dx, vs, by rw [upd_ne (ne_of_none q1 n)]; exact q1, q2.keep k⟩, q3⟩
  · have q := r.keep a o ha no
    rw [upd_ne (ne_of_none q n)]
    exact q
  · rcases List.mem_cons.mp hq with hq | hq
    · cases hq
      cases z : c.H0 p with
      | none => exact .inr rfl
      | some o =>
        by_cases hp : p ∈ c.O0
        · exact .inl hp
        · have q := r.keep p o z hp
          rw [n] at q
          cases q
    · exact r.own q ds hq
  · obtain ⟨ys, q1⟩ := r.there q hq
    exact ⟨ys, by rw [upd_ne (ne_of_none q1 n)]; exact q1⟩
theorem SE.newT {K : PySem.W.Frag} {H : Hp} {σ : List (Option V)} {τ : List (V × D)} {p : Addr} {xs : List V} {l : List D} {A : Addr → Prop} (e : En K A σ H s τ) (r : Rel K c A H s.ω s.ι) (n : H p = none) (h : RpL K A H l xs) :
    SE K c σ (upd H p (.tup xs)) s ((.ref p, .tup l) :: τ) := by
  have k : Keeps A H (upd H p (.tup xs)) := Keeps.new n
  refine ⟨A, ⟨fun i d hd => ?_, e.len, fun q ds hq => ?_, e.nd, fun v d hv => ?_, fun a ha => ?_, fun q C fs hq => ?_, e.ndi⟩, ⟨r.sub, r.up, fun a o ha no => ?_, r.own, fun q hq => ?_, r.nA, r.o0, r.ro, r.ins, r.tab.new n⟩⟩
  · obtain ⟨v, hv, hr⟩ := e.slots i d hd
    exact ⟨v, hv, hr.keep k⟩
  · obtain ⟨⟨ys, e1, e2⟩, e3⟩ := e.own q ds hq
    exact ⟨⟨ys, by rw [upd_ne (ne_of_none e1 n)]; exact e1, e2.keep k⟩, e3⟩
  · rcases List.mem_cons.mp hv with hv | hv
    · cases hv
      unfold Rp
      exact ⟨p, xs, rfl, upd_same, h.keep k⟩
    · exact (e.tmp v d hv).keep k
  · obtain ⟨o, q⟩ := e.dom a ha
    exact ⟨o, by rw [upd_ne (ne_of_none q n)]; exact q⟩
  · obtain ⟨⟨dx, vs, q1, q2⟩, q3⟩ := e.ins q C fs hq
    exact ⟨⟨dx, vs, by rw [upd_ne (ne_of_none q1 n)]; exact q1, q2.keep k⟩, q3⟩
  · have q := r.keep a o ha no
    rw [upd_ne (ne_of_none q n)]
    exact q
  · obtain ⟨ys, q1⟩ := r.there q hq
    exact ⟨ys, by rw [upd_ne (ne_of_none q1 n)]; exact q1⟩
theorem SE.frz {K : PySem.W.Frag} {H : Hp} {σ : List (Option V)} {τ : List (V × D)} {p : Addr} {l : List D} {ω : List (Addr × List D)} {v : V} (h : SE K c σ H (@S.mk s.δ ((p, l) :: ω) s.ι) ((v, .ref p) :: τ)) (np : p ∉ c.O0) : SE K c σ H (@S.mk s.δ ω s.ι) ((v, .lst l) :: τ) := by
  obtain ⟨A, e, r⟩ := h
  obtain ⟨⟨xs, e1, e2⟩, e3⟩ := e.own p l List.mem_cons_self
  have sb : ∀ a, A a → (A a ∨ a = p) := fun a h => .inl h
  have up : ∀ {d : D} {v : V}, Rp K A H d v → Rp K (fun a => A a ∨ a = p) H d v := fun h => Rp.mono sb Keeps.refl _ _ h
  have upL : ∀ {d : List D} {v : List V}, RpL K A H d v → RpL K (fun a => A a ∨ a = p) H d v := fun h => RpL.mono sb Keeps.refl _ _ h
  have nd : p ∉ ω.map (·.1) ∧ (ω.map (·.1)).Nodup := List.nodup_cons.mp e.nd
  have vp : v = .ref p := by
    have q := e.tmp v _ List.mem_cons_self
    unfold Rp at q
    exact q
  refine ⟨fun a => A a ∨ a = p, ⟨fun i d hd => ?_, e.len, fun q ds hq => ?_, nd.2, fun w d hv => ?_, fun a ha => ?_, fun q C fs hq => ?_, e.ndi⟩, ⟨fun a h => .inl (r.sub a h), fun a ha => ?_, r.keep, fun q ds hq => r.own q ds (List.mem_cons_of_mem _ hq), r.there, fun q hq z => ?_, r.o0, r.ro, r.ins, r.tab⟩⟩
  · obtain ⟨v, hv, hr⟩ := e.slots i d hd
    exact ⟨v, hv, up hr⟩
  · obtain ⟨⟨ys, q1, q2⟩, q3⟩ := e.own q ds (List.mem_cons_of_mem _ hq)
    refine ⟨⟨ys, q1, upL q2⟩, fun z => z.elim q3 fun z => ?_⟩
    subst z
    exact nd.1 (List.mem_map.mpr ⟨(q, ds), hq, rfl⟩)
  · rcases List.mem_cons.mp hv with hv | hv
    · cases hv
      subst vp
      unfold Rp
      exact ⟨p, xs, rfl, .inr rfl, e1, upL e2⟩
    · exact up (e.tmp w d (List.mem_cons_of_mem _ hv))
  · rcases ha with ha | ha
    · exact e.dom a ha
    · exact ⟨_, ha ▸ e1⟩
  · obtain ⟨⟨dx, vs, q1, q2⟩, q3⟩ := e.ins q C fs hq
    refine ⟨⟨dx, vs, q1, RpF.mono sb Keeps.refl _ _ q2⟩, fun z => z.elim q3 fun z => ?_⟩
    rw [z, e1] at q1
    cases q1
  · rcases ha with ha | ha
    · exact r.up a ha
    · subst ha
      exact (r.own a l List.mem_cons_self).elim (fun z => absurd z np) .inr
  · rcases z with z | z
    · exact r.nA q hq z
    · subst z
      exact np hq

theorem ew_frz (h : EW X c W s (fun d s' => ∃ p l ω, d = .ref p ∧ p ∉ c.O0 ∧ s'.ω = (p, l) :: ω ∧ Φ (.lst l) (@S.mk s'.δ ω s'.ι)) Ξ e) : EW X c W s Φ Ξ e :=
  PE.mono h fun σ H Q ⟨τ, e0, k, hx⟩ => ⟨τ, e0, fun v d s' H' ⟨p, l, ω, ed, np, eo, q⟩ z => by
    obtain ⟨δ, o⟩ := s'
    dsimp only at eo
    subst eo ed
    exact k v _ _ H' q (SE.frz (s := @S.mk δ ω _) z np), hx⟩

def OpD (K : PySem.W.Frag) (c : Cc) (r : R2) (R : D → D → S → (D → S → Prop) → Prop) : Prop := ∀ (σ : List (Option V)) (H : Hp) (s : S) (τ : List (V × D)) (v1 v2 : V) (d1 d2 : D) (Φ : D → S → Prop) (Q : VK),
  SE K c σ H s ((v2, d2) :: (v1, d1) :: τ) → R d1 d2 s Φ → (∀ v d s' H', Φ d s' → SE K c σ H' s' ((v, d) :: τ) → Q v H') → r v1 v2 H Q
theorem ew_bin {op : Operator} {r : R2} {R : D → D → S → (D → S → Prop) → Prop} (ho : OpR X (binaryOp op) r) (hd : OpD X.K c r R) (h : EW X c W s (fun d1 s1 => EW X c W s1 (fun d2 s2 => R d1 d2 s2 Φ) Ξ b) Ξ a) : EW X c W s Φ Ξ (.BinOp a op b pos) :=
  PE.mono (pe_op ho pe_any pe_any) fun σ H Q ⟨τ, e0, k, hx⟩ => h.use e0 (fun v1 d1 s1 H1 h1 e1 => h1.use e1 (fun v2 d2 s2 H2 h2 e2 => hd σ H2 s2 τ v1 v2 d1 d2 Φ Q e2 h2 k) fun cls x dd s' H' p q => hx cls x dd s' H' p q.pop) hx
theorem ew_cmp {op : CmpOp} {r : R2} {R : D → D → S → (D → S → Prop) → Prop} (ho : OpR X (compareOp op) r) (hd : OpD X.K c r R) (hm : behindInMarks op b = false) (h : EW X c W s (fun d1 s1 => EW X c W s1 (fun d2 s2 => R d1 d2 s2 Φ) Ξ b) Ξ a) : EW X c W s Φ Ξ (.Compare a [op] [b] pos) :=
  PE.mono (pe_cmpR ho pe_any pe_any hm) fun σ H Q ⟨τ, e0, k, hx⟩ => h.use e0 (fun v1 d1 s1 H1 h1 e1 => h1.use e1 (fun v2 d2 s2 H2 h2 e2 => hd σ H2 s2 τ v1 v2 d1 d2 Φ Q e2 h2 k) fun cls x dd s' H' p q => hx cls x dd s' H' p q.pop) hx
theorem bw_cmp {op : CmpOp} {r : R2} {R : D → D → S → (D → S → Prop) → Prop} (ho : OpR X (compareOp op) r) (hd : OpD X.K c r R) (hm : behindInMarks op b = false) (h : EW X c W s (fun d1 s1 => EW X c W s1 (fun d2 s2 => R d1 d2 s2 fun d s3 => ∃ b, d = .bl b ∧ Φb b s3) Ξ b) Ξ a) :
    BW X c W s Φb Ξ (.Compare a [op] [b] pos) :=
  PT.mono (pt_cmpR ho pe_any pe_any hm) fun σ H Q ⟨τ, e0, k, hx⟩ => h.use e0 (fun v1 d1 s1 H1 h1 e1 => h1.use e1 (fun v2 d2 s2 H2 h2 e2 => hd σ H2 s2 τ v1 v2 d1 d2 _ _ e2 h2 fun v d s' H' ⟨b, ed, q⟩ z => by
    subst ed
    obtain ⟨A, z1, z2⟩ := id z
    have q1 := z1.tmp v _ List.mem_cons_self
    unfold Rp at q1
    exact ⟨b, q1, k b s' H' q z.pop⟩) fun cls x dd s' H' p q => hx cls x dd s' H' p q.pop) hx

theorem Rp.int_ {K : PySem.W.Frag} {A : Addr → Prop} {H : Hp} {i : Int} {v : V} (h : Rp K A H (.int i) v) : v = .int i := by
  unfold Rp at h
  exact h
theorem Rp.bl_ {K : PySem.W.Frag} {A : Addr → Prop} {H : Hp} {i : Bool} {v : V} (h : Rp K A H (.bl i) v) : v = .bl i := by
  unfold Rp at h
  exact h
theorem Rp.str_ {K : PySem.W.Frag} {A : Addr → Prop} {H : Hp} {i : Str} {v : V} (h : Rp K A H (.str i) v) : v = .str i := by
  unfold Rp at h
  exact h
theorem Rp.non_ {K : PySem.W.Frag} {A : Addr → Prop} {H : Hp} {v : V} (h : Rp K A H .non v) : v = .non := by
  unfold Rp at h
  exact h
theorem SE.top {K : PySem.W.Frag} {σ : List (Option V)} {τ : List (V × D)} {v : V} {d : D} (e : SE K c σ H s ((v, d) :: τ)) : ∃ A, Rp K A H d v := let ⟨A, e1, _⟩ := e; ⟨A, e1.tmp v d List.mem_cons_self⟩
theorem SE.top2 {K : PySem.W.Frag} {σ : List (Option V)} {τ : List (V × D)} {v w : V} {d f : D} (e : SE K c σ H s ((w, f) :: (v, d) :: τ)) : ∃ A, Rp K A H d v := e.pop.top
theorem SE.drop2 {K : PySem.W.Frag} {σ : List (Option V)} {τ : List (V × D)} {v w : V} {d f : D} (e : SE K c σ H s ((w, f) :: (v, d) :: τ)) : SE K c σ H s τ := e.pop.pop

inductive I2 (C : Int → Int → Prop) (g : Int → Int → D) : D → D → S → (D → S → Prop) → Prop
  | mk {i j : Int} {s : S} {Φ : D → S → Prop} (h : C i j) (k : Φ (g i j) s) : I2 C g (.int i) (.int j) s Φ
theorem od_int {K : PySem.W.Frag} {C : Int → Int → Prop} {g : Int → Int → V} {g' : Int → Int → D} (h : ∀ i j, Atom (g' i j) (g i j)) : OpD K c (rI C g) (I2 C g') := fun σ H s τ v1 v2 d1 d2 Φ Q e r k => by
  cases r with
  | @mk i j s Φ hc q =>
    obtain ⟨A, r1⟩ := e.top2
    obtain ⟨B, r2⟩ := e.top
    exact ⟨i, j, r1.int_, r2.int_, hc, k _ _ s H q (e.drop2.atom (h i j))⟩
inductive I0 (g : Int → Int → D) : D → D → S → (D → S → Prop) → Prop
  | mk {i j : Int} {s : S} {Φ : D → S → Prop} (k : Φ (g i j) s) : I0 g (.int i) (.int j) s Φ
theorem od_int0 {K : PySem.W.Frag} {g : Int → Int → V} {g' : Int → Int → D} (h : ∀ i j, Atom (g' i j) (g i j)) : OpD K c (rI0 g) (I0 g') := fun σ H s τ v1 v2 d1 d2 Φ Q e r k => by
  cases r with
  | @mk i j s Φ q =>
    obtain ⟨A, r1⟩ := e.top2
    obtain ⟨B, r2⟩ := e.top
    exact ⟨i, j, r1.int_, r2.int_, k _ _ s H q (e.drop2.atom (h i j))⟩
theorem op_mulA : OpR X (binaryOp .Mult) (rI IntMulOk fun i j => .int (i * j)) := opI fun _ _ _ _ _ _ _ hc q => mul_int q hc
theorem opr_or {f : Value → Value → Sem Value} {r1 r2 : R2} (h1 : OpR X f r1) (h2 : OpR X f r2) : OpR X f (fun x y H Q => r1 x y H Q ∨ r2 x y H Q) := fun pins s σ H x y v u Q I rx ry h => h.elim (h1 pins s σ H x y v u Q I rx ry) (h2 pins s σ H x y v u Q I rx ry)
theorem od_or {K : PySem.W.Frag} {r1 r2 : R2} {R1 R2' : D → D → S → (D → S → Prop) → Prop} (h1 : OpD K c r1 R1) (h2 : OpD K c r2 R2') : OpD K c (fun x y H Q => r1 x y H Q ∨ r2 x y H Q) (fun d1 d2 s Φ => R1 d1 d2 s Φ ∨ R2' d1 d2 s Φ) := fun σ H s τ v1 v2 d1 d2 Φ Q e r k =>
  r.imp (fun r => h1 σ H s τ v1 v2 d1 d2 Φ Q e r k) fun r => h2 σ H s τ v1 v2 d1 d2 Φ Q e r k
end
end DL

namespace DL
open PySem PySem.Spec PyProof.Rows L2

section
variable {X : Cx} {c : Cc} {W : WX} {s : S} {Φ : D → S → Prop} {Φb : Bool → S → Prop} {Φa : List D → S → Prop} {Ξ : PX} {e a b : Expr} {es : List Expr} {pos p0 : Pos} {σ : L2.St} {H : Hp}
theorem aw_nil (k : Φa [] s) : AW X c W s Φa Ξ [] := PA.mono pa_nil fun σ H Q ⟨τ, e0, q, _⟩ => q [] [] s H τ k e0 (fun _ h => h) .nil
theorem aw_cons (h : EW X c W s (fun d s1 => AW X c W s1 (fun ds s2 => Φa (d :: ds) s2) Ξ es) Ξ e) (hs : starEach (e :: es) X.env = (false, eval e X.env) :: starEach es X.env := by rfl) : AW X c W s Φa Ξ (e :: es) :=
  PA.mono (pa_cons pe_any pa_any hs) fun σ H Q ⟨τ, e0, k, hx⟩ => h.use e0 (fun v d s1 H1 h1 e1 => h1.use e1 (fun vs ds s2 H2 τ2 h2 e2 sb pr => k (v :: vs) (d :: ds) s2 H2 τ2 h2 e2 (fun x hx => sb x (List.mem_cons_of_mem _ hx)) (.cons (sb _ List.mem_cons_self) pr))
    fun cls x dd s' H' p q => hx cls x dd s' H' p q.pop) hx
theorem Paired.toR {K : PySem.W.Frag} {A : Addr → Prop} {τ : List (V × D)} : ∀ {vs : List V} {ds : List D}, Paired (fun v d => (v, d) ∈ τ) vs ds → En K A σ H s τ → RpL K A H ds vs
  | _, _, .nil, _ => RpL.nil
  | _, _, .cons h t, e => RpL.cons (e.tmp _ _ h) (Paired.toR t e)

theorem ew_tup {x1} (h : AW X c W s (fun ds s1 => ds.length ≤ 1000 ∧ Φ (.tup ds) s1) Ξ es) : EW X c W s Φ Ξ (.Tuple es x1 pos) :=
  PE.mono (pe_tup pa_any) fun σ H Q ⟨τ, e0, k, hx⟩ => h.use e0 (fun vs ds s1 H1 τ1 ⟨hl, h1⟩ ⟨A, e1, r1⟩ sb pr => by
    have rp := Paired.toR pr e1
    refine ⟨by rw [RpL.len rp, sizeLine_eq]; omega, fun p n => ?_⟩
    exact k _ _ s1 _ h1 ((SE.newT e1 r1 n rp).sub fun x hx => (List.mem_cons.mp hx).elim (fun z => z ▸ List.mem_cons_self) fun z => List.mem_cons_of_mem _ (sb x z))) hx
theorem ew_lstO (h : AW X c W s (fun ds s1 => ds.length ≤ 1000 ∧ ∀ p, p ∉ c.O0 → Φ (.ref p) (@S.mk s1.δ ((p, ds) :: s1.ω) s1.ι)) Ξ es) : EW X c W s Φ Ξ (.List es pos) :=
  PE.mono (pe_lst pa_any) fun σ H Q ⟨τ, e0, k, hx⟩ => h.use e0 (fun vs ds s1 H1 τ1 ⟨hl, h1⟩ ⟨A, e1, r1⟩ sb pr => by
    have rp := Paired.toR pr e1
    refine ⟨by rw [RpL.len rp, sizeLine_eq]; omega, fun p n => ?_⟩
    have np : p ∉ c.O0 := fun z => by
      obtain ⟨xs, q⟩ := r1.there p z
      rw [n] at q
      cases q
    exact k _ _ _ _ (h1 p np) ((SE.newL e1 r1 n rp).sub fun x hx => (List.mem_cons.mp hx).elim (fun z => z ▸ List.mem_cons_self) fun z => List.mem_cons_of_mem _ (sb x z))) hx
theorem ew_lst (h : AW X c W s (fun ds s1 => ds.length ≤ 1000 ∧ Φ (.lst ds) s1) Ξ es) : EW X c W s Φ Ξ (.List es pos) :=
  ew_frz (ew_lstO (PA.mono h fun σ H Q ⟨τ, e0, k, hx⟩ => ⟨τ, e0, fun vs ds s' H' τ' ⟨hl, q⟩ => k vs ds s' H' τ' ⟨hl, fun p np => ⟨p, ds, s'.ω, rfl, np, rfl, q⟩⟩, hx⟩))

inductive CatR (c : Cc) : D → D → S → (D → S → Prop) → Prop
  | mk {d1 d2 : D} {l m : List D} {s : S} {Φ : D → S → Prop} (h1 : Src c s d1 l) (h2 : Src c s d2 m) (hl : l.length + m.length ≤ 16777216) (k : ∀ p, p ∉ c.O0 → Φ (.ref p) (@S.mk s.δ ((p, l ++ m) :: s.ω) s.ι)) : CatR c d1 d2 s Φ
theorem od_cat {K : PySem.W.Frag} : OpD K c rCat (CatR c) := fun σ H s τ v1 v2 d1 d2 Φ Q e r k => by
  cases r with
  | mk h1 h2 hl q =>
    obtain ⟨A, e1, r1⟩ := e
    obtain ⟨p1, xs, rfl, hx, rx⟩ := h1.rd e1 r1 (e1.tmp _ _ (List.mem_cons_of_mem _ List.mem_cons_self))
    obtain ⟨p2, ys, rfl, hy, ry⟩ := h2.rd e1 r1 (e1.tmp _ _ List.mem_cons_self)
    refine ⟨p1, p2, xs, ys, rfl, rfl, hx, hy, by rw [RpL.len rx, RpL.len ry, sizeLine_eq]; exact hl, fun p n => ?_⟩
    have np : p ∉ c.O0 := fun z => by
      obtain ⟨xs, q⟩ := r1.there p z
      rw [n] at q
      cases q
    exact k _ _ _ _ (q p np) ((SE.newL e1 r1 n (rx.append ry)).sub fun x hx => (List.mem_cons.mp hx).elim (fun z => z ▸ List.mem_cons_self) fun z => List.mem_cons_of_mem _ (List.mem_cons_of_mem _ (List.mem_cons_of_mem _ z)))
abbrev AddI := I0 fun i j => D.int (i + j)
theorem ew_add (h : EW X c W s (fun d1 s1 => EW X c W s1 (fun d2 s2 => AddI d1 d2 s2 Φ ∨ CatR c d1 d2 s2 Φ) Ξ b) Ξ a) : EW X c W s Φ Ξ (.BinOp a .Add b pos) :=
  ew_bin (opr_or op_add op_cat) (od_or (od_int0 (g' := fun i j => D.int (i + j)) fun _ _ => rfl) od_cat) h
theorem ew_sub (h : EW X c W s (fun d1 s1 => EW X c W s1 (fun d2 s2 => I0 (fun i j => D.int (i - j)) d1 d2 s2 Φ) Ξ b) Ξ a) : EW X c W s Φ Ξ (.BinOp a .Sub b pos) := ew_bin op_sub (od_int0 (g' := fun i j => D.int (i - j)) fun _ _ => rfl) h
theorem ew_mul (h : EW X c W s (fun d1 s1 => EW X c W s1 (fun d2 s2 => I2 IntMulOk (fun i j => D.int (i * j)) d1 d2 s2 Φ) Ξ b) Ξ a) : EW X c W s Φ Ξ (.BinOp a .Mult b pos) := ew_bin op_mulA (od_int (g' := fun i j => D.int (i * j)) fun _ _ => rfl) h
theorem ew_fdiv (h : EW X c W s (fun d1 s1 => EW X c W s1 (fun d2 s2 => I2 CDivW (fun i j => D.int (i / j)) d1 d2 s2 Φ) Ξ b) Ξ a) : EW X c W s Φ Ξ (.BinOp a .FloorDiv b pos) := ew_bin op_fdivW (od_int (g' := fun i j => D.int (i / j)) fun _ _ => rfl) h
theorem ew_mod (h : EW X c W s (fun d1 s1 => EW X c W s1 (fun d2 s2 => I2 (fun _ j => 0 < j) (fun i j => D.int (i % j)) d1 d2 s2 Φ) Ξ b) Ξ a) : EW X c W s Φ Ξ (.BinOp a .Mod b pos) := ew_bin op_mod (od_int (g' := fun i j => D.int (i % j)) fun _ _ => rfl) h
theorem ew_pow (h : EW X c W s (fun d1 s1 => EW X c W s1 (fun d2 s2 => I2 CPow (fun i j => D.int (i ^ j.toNat)) d1 d2 s2 Φ) Ξ b) Ξ a) : EW X c W s Φ Ξ (.BinOp a .Pow b pos) := ew_bin op_pow (od_int (g' := fun i j => D.int (i ^ j.toNat)) fun _ _ => rfl) h
theorem ew_shl (h : EW X c W s (fun d1 s1 => EW X c W s1 (fun d2 s2 => I2 CPow (fun i j => D.int (i * 2 ^ j.toNat)) d1 d2 s2 Φ) Ξ b) Ξ a) : EW X c W s Φ Ξ (.BinOp a .LShift b pos) := ew_bin op_shl (od_int (g' := fun i j => D.int (i * 2 ^ j.toNat)) fun _ _ => rfl) h
theorem ew_neg (h : EW X c W s (fun d s1 => ∃ i, d = .int i ∧ Φ (.int (-i)) s1) Ξ a) : EW X c W s Φ Ξ (.UnaryOp .USub a pos) :=
  PE.mono (pe_un un_neg pe_any) fun σ H Q ⟨τ, e0, k, hx⟩ => h.use e0 (fun v d s1 H1 ⟨i, ed, q⟩ e1 => by
    subst ed
    obtain ⟨A, r⟩ := e1.top
    exact ⟨i, r.int_, k _ _ s1 H1 q (e1.pop.atom rfl)⟩) hx
abbrev LtI := I0 fun i j => D.bl (decide (i < j))
abbrev LeI := I0 fun i j => D.bl (decide (i ≤ j))
abbrev GtI := I0 fun i j => D.bl (decide (j < i))
abbrev GeI := I0 fun i j => D.bl (decide (j ≤ i))
theorem ew_lt (h : EW X c W s (fun d1 s1 => EW X c W s1 (fun d2 s2 => LtI d1 d2 s2 Φ) Ξ b) Ξ a) (hm : behindInMarks .Lt b = false := by first | exact nomark _ | rfl) : EW X c W s Φ Ξ (.Compare a [.Lt] [b] pos) := ew_cmp op_lt (od_int0 (g' := fun i j => D.bl (decide (i < j))) fun _ _ => rfl) hm h
theorem ew_le (h : EW X c W s (fun d1 s1 => EW X c W s1 (fun d2 s2 => LeI d1 d2 s2 Φ) Ξ b) Ξ a) (hm : behindInMarks .LtE b = false := by first | exact nomark _ | rfl) : EW X c W s Φ Ξ (.Compare a [.LtE] [b] pos) := ew_cmp op_le (od_int0 (g' := fun i j => D.bl (decide (i ≤ j))) fun _ _ => rfl) hm h
theorem ew_gt (h : EW X c W s (fun d1 s1 => EW X c W s1 (fun d2 s2 => GtI d1 d2 s2 Φ) Ξ b) Ξ a) (hm : behindInMarks .Gt b = false := by first | exact nomark _ | rfl) : EW X c W s Φ Ξ (.Compare a [.Gt] [b] pos) := ew_cmp op_gt (od_int0 (g' := fun i j => D.bl (decide (j < i))) fun _ _ => rfl) hm h
theorem ew_ge (h : EW X c W s (fun d1 s1 => EW X c W s1 (fun d2 s2 => GeI d1 d2 s2 Φ) Ξ b) Ξ a) (hm : behindInMarks .GtE b = false := by first | exact nomark _ | rfl) : EW X c W s Φ Ξ (.Compare a [.GtE] [b] pos) := ew_cmp op_ge (od_int0 (g' := fun i j => D.bl (decide (j ≤ i))) fun _ _ => rfl) hm h
theorem bw_lt (h : EW X c W s (fun d1 s1 => EW X c W s1 (fun d2 s2 => LtI d1 d2 s2 fun d s3 => ∃ b, d = .bl b ∧ Φb b s3) Ξ b) Ξ a) (hm : behindInMarks .Lt b = false := by first | exact nomark _ | rfl) : BW X c W s Φb Ξ (.Compare a [.Lt] [b] pos) := bw_cmp op_lt (od_int0 (g' := fun i j => D.bl (decide (i < j))) fun _ _ => rfl) hm h
theorem bw_le (h : EW X c W s (fun d1 s1 => EW X c W s1 (fun d2 s2 => LeI d1 d2 s2 fun d s3 => ∃ b, d = .bl b ∧ Φb b s3) Ξ b) Ξ a) (hm : behindInMarks .LtE b = false := by first | exact nomark _ | rfl) : BW X c W s Φb Ξ (.Compare a [.LtE] [b] pos) := bw_cmp op_le (od_int0 (g' := fun i j => D.bl (decide (i ≤ j))) fun _ _ => rfl) hm h
theorem bw_gt (h : EW X c W s (fun d1 s1 => EW X c W s1 (fun d2 s2 => GtI d1 d2 s2 fun d s3 => ∃ b, d = .bl b ∧ Φb b s3) Ξ b) Ξ a) (hm : behindInMarks .Gt b = false := by first | exact nomark _ | rfl) : BW X c W s Φb Ξ (.Compare a [.Gt] [b] pos) := bw_cmp op_gt (od_int0 (g' := fun i j => D.bl (decide (j < i))) fun _ _ => rfl) hm h
theorem bw_ge (h : EW X c W s (fun d1 s1 => EW X c W s1 (fun d2 s2 => GeI d1 d2 s2 fun d s3 => ∃ b, d = .bl b ∧ Φb b s3) Ξ b) Ξ a) (hm : behindInMarks .GtE b = false := by first | exact nomark _ | rfl) : BW X c W s Φb Ξ (.Compare a [.GtE] [b] pos) := bw_cmp op_ge (od_int0 (g' := fun i j => D.bl (decide (j ≤ i))) fun _ _ => rfl) hm h
theorem ew_chain {op op' : CmpOp} {p q : Int → Int → Bool} {cc : Expr} (ho : OpR X (compareOp op) (rI0 fun i j => .bl (p i j))) (ho' : OpR X (compareOp op') (rI0 fun i j => .bl (q i j))) (hm : lastMarks [op, op'] [b, cc] = false)
    (h : EW X c W s (fun d1 s1 => EW X c W s1 (fun d2 s2 => ∃ i j, d1 = .int i ∧ d2 = .int j ∧ (p i j = true → EW X c W s2 (fun d3 s3 => ∃ k, d3 = .int k ∧ Φ (.bl (q j k)) s3) Ξ cc) ∧ (p i j = false → Φ (.bl false) s2)) Ξ b) Ξ a) : EW X c W s Φ Ξ (.Compare a [op, op'] [b, cc] pos) :=
  PE.mono (pe_chain ho ho' pe_any pe_any pe_any hm) fun σ H Q ⟨τ, e0, k, hx⟩ => h.use e0 (fun v1 d1 s1 H1 h1 e1 => h1.use e1 (fun v2 d2 s2 H2 ⟨i, j, ea, eb, hT, hF⟩ e2 => by
    subst ea eb
    obtain ⟨A, r1⟩ := e2.top2
    obtain ⟨B, r2⟩ := e2.top
    refine ⟨i, j, r1.int_, r2.int_, p i j, rfl, ?_⟩
    cases z : p i j with
    | true =>
      rw [if_pos rfl]
      exact (hT z).use e2 (fun v3 d3 s3 H3 ⟨k3, e3, q3⟩ z3 => by
        subst e3
        obtain ⟨C, r3⟩ := z3.top
        exact ⟨j, k3, r2.int_, r3.int_, k _ _ s3 H3 q3 (z3.pop.pop.pop.atom rfl)⟩) fun cls x dd s' H' p q => hx cls x dd s' H' p q.pop.pop
    | false =>
      rw [if_neg Bool.false_ne_true]
      exact k _ _ s2 H2 (hF z) (e2.pop.pop.atom rfl)) fun cls x dd s' H' p q => hx cls x dd s' H' p q.pop) hx
theorem bw_chain {op op' : CmpOp} {p q : Int → Int → Bool} {cc : Expr} (ho : OpR X (compareOp op) (rI0 fun i j => .bl (p i j))) (ho' : OpR X (compareOp op') (rI0 fun i j => .bl (q i j))) (hm : lastMarks [op, op'] [b, cc] = false)
    (h : EW X c W s (fun d1 s1 => EW X c W s1 (fun d2 s2 => ∃ i j, d1 = .int i ∧ d2 = .int j ∧ (p i j = true → EW X c W s2 (fun d3 s3 => ∃ k, d3 = .int k ∧ Φb (q j k) s3) Ξ cc) ∧ (p i j = false → Φb false s2)) Ξ b) Ξ a) : BW X c W s Φb Ξ (.Compare a [op, op'] [b, cc] pos) :=
  PT.mono (pt_chain ho ho' pe_any pe_any pe_any hm) fun σ H Q ⟨τ, e0, k, hx⟩ => h.use e0 (fun v1 d1 s1 H1 h1 e1 => h1.use e1 (fun v2 d2 s2 H2 ⟨i, j, ea, eb, hT, hF⟩ e2 => by
    subst ea eb
    obtain ⟨A, r1⟩ := e2.top2
    obtain ⟨B, r2⟩ := e2.top
    refine ⟨i, j, r1.int_, r2.int_, p i j, rfl, ?_⟩
    cases z : p i j with
    | true =>
      rw [if_pos rfl]
      exact (hT z).use e2 (fun v3 d3 s3 H3 ⟨k3, e3, q3⟩ z3 => by
        subst e3
        obtain ⟨C, r3⟩ := z3.top
        exact ⟨j, k3, r2.int_, r3.int_, _, rfl, k _ s3 H3 q3 z3.pop.pop.pop⟩) fun cls x dd s' H' p q => hx cls x dd s' H' p q.pop.pop
    | false =>
      rw [if_neg Bool.false_ne_true]
      exact ⟨false, rfl, k _ s2 H2 (hF z) e2.pop.pop⟩) fun cls x dd s' H' p q => hx cls x dd s' H' p q.pop) hx

mutual
def py : D → PyData
  | .non => .none
  | .bl b => .bool b
  | .int i => .int i
  | .str x => .str x
  | .tup l => .tuple (pyL l)
  | .lst l => .list (pyL l)
  | _ => .none
def pyL : List D → List PyData
  | [] => []
  | d :: ds => py d :: pyL ds
end
mutual
def dok : Nat → D → Bool
  | _, .non => true
  | _, .bl _ => true
  | _, .int _ => true
  | _, .str x => PyData.strOk x
  | 0, _ => false
  | n + 1, .tup l => dokL n l
  | n + 1, .lst l => dokL n l
  | _ + 1, _ => false
def dokL : Nat → List D → Bool
  | _, [] => true
  | n, d :: ds => dok n d && dokL n ds
end
mutual
theorem dok_lay : ∀ (n : Nat) (d : D), dok n d = true → (py d).canLay0 = true ∧ (py d).depth ≤ n
  | n, .non, _ => by
    unfold py PyData.canLay0 PyData.depth
    exact ⟨rfl, Nat.zero_le _⟩
  | n, .bl b, _ => by
    unfold py PyData.canLay0 PyData.depth
    exact ⟨rfl, Nat.zero_le _⟩
  | n, .int b, _ => by
    unfold py PyData.canLay0 PyData.depth
    exact ⟨rfl, Nat.zero_le _⟩
  | n, .str b, h => by
    have h' : PyData.strOk b = true := by
      cases n <;> (unfold dok at h; exact h)
    unfold py PyData.canLay0 PyData.depth
    exact ⟨h', Nat.zero_le _⟩
  | 0, .tup l, h => by
    unfold dok at h
    cases h
  | 0, .lst l, h => by
    unfold dok at h
    cases h
  | n + 1, .tup l, h => by
    unfold dok at h
    have q := dok_layL n l h
    unfold py PyData.canLay0 PyData.depth
    exact ⟨q.1, Nat.succ_le_succ q.2⟩
  | n + 1, .lst l, h => by
    unfold dok at h
    have q := dok_layL n l h
    unfold py PyData.canLay0 PyData.depth
    exact ⟨q.1, Nat.succ_le_succ q.2⟩
  | 0, .ins _ _, h => by
    unfold dok at h
    cases h
  | 0, .scr _, h => by
    unfold dok at h
    cases h
  | 0, .ref _, h => by
    unfold dok at h
    cases h
  | n + 1, .ins _ _, h => by
    unfold dok at h
    cases h
  | n + 1, .scr _, h => by
    unfold dok at h
    cases h
  | n + 1, .ref _, h => by
    unfold dok at h
    cases h
theorem dok_layL : ∀ (n : Nat) (l : List D), dokL n l = true → PyData.canLayAll0 (pyL l) = true ∧ PyData.depthAll (pyL l) ≤ n
  | n, [], _ => by
    unfold pyL PyData.canLayAll0 PyData.depthAll
    exact ⟨rfl, Nat.zero_le _⟩
  | n, d :: ds, h => by
    unfold dokL at h
    obtain ⟨h1, h2⟩ := Bool.and_eq_true_iff.mp h
    have q1 := dok_lay n d h1
    have q2 := dok_layL n ds h2
    unfold pyL PyData.canLayAll0 PyData.depthAll
    exact ⟨Bool.and_eq_true_iff.mpr ⟨q1.1, q2.1⟩, Nat.max_le.mpr ⟨q1.2, q2.2⟩⟩
end
theorem dok_shaped {n : Nat} {d : D} (h : dok n d = true) (hn : n ≤ 64) : SeqAt.shaped (py d) = true := by
  obtain ⟨h1, h2⟩ := dok_lay n d h
  exact Bool.and_eq_true_iff.mpr ⟨h1, decide_eq_true (Nat.le_trans h2 hn)⟩
mutual
theorem Rp.dp {K : PySem.W.Frag} {A : Addr → Prop} : ∀ (n : Nat) (d : D) (v : V), dok n d = true → Rp K A H d v → Dp K H v (py d)
  | _, .non, v, _, h => by
    rw [h.non_]
    unfold py
    exact .non
  | _, .bl b, v, _, h => by
    rw [h.bl_]
    unfold py
    exact .bl b
  | _, .int b, v, _, h => by
    rw [h.int_]
    unfold py
    exact .int b
  | _, .str b, v, _, h => by
    rw [h.str_]
    unfold py
    exact .str b
  | n + 1, .tup l, v, o, h => by
    unfold Rp at h
    unfold dok at o
    obtain ⟨a, xs, rfl, h1, h2⟩ := h
    unfold py
    exact .tup (SqT.of h1) (RpL.dp n l xs o h2)
  | n + 1, .lst l, v, o, h => by
    unfold Rp at h
    unfold dok at o
    obtain ⟨a, xs, rfl, _, h1, h2⟩ := h
    unfold py
    exact .lst (.inl (.inl h1)) (RpL.dp n l xs o h2)
  | 0, .tup l, v, o, _ => by
    unfold dok at o
    cases o
  | 0, .lst l, v, o, _ => by
    unfold dok at o
    cases o
  | n, .ins _ _, v, o, _ => by
    cases n <;> (unfold dok at o; cases o)
  | n, .scr _, v, o, _ => by
    cases n <;> (unfold dok at o; cases o)
  | n, .ref _, v, o, _ => by
    cases n <;> (unfold dok at o; cases o)
theorem RpL.dp {K : PySem.W.Frag} {A : Addr → Prop} : ∀ (n : Nat) (l : List D) (xs : List V), dokL n l = true → RpL K A H l xs → DpAll K H xs (pyL l)
  | _, [], _, _, h => by
    unfold RpL at h
    rw [h]
    unfold pyL
    exact .nil
  | n, d :: ds, _, o, h => by
    unfold RpL at h
    unfold dokL at o
    obtain ⟨x, r, rfl, h1, h2⟩ := h
    obtain ⟨o1, o2⟩ := Bool.and_eq_true_iff.mp o
    unfold pyL
    exact .cons (Rp.dp n d x o1 h1) (RpL.dp n ds r o2 h2)
end
inductive Vw (c : Cc) (s : S) : D → D → Prop
  | id {d : D} : Vw c s d d
  | own {p : Addr} {l : List D} (h : Mem s.ω (p, l)) : Vw c s (.ref p) (.lst l)
  | ro {p : Addr} {l : List D} (h : Mem c.ρ (p, l)) : Vw c s (.ref p) (.lst l)
theorem Vw.dp {K : PySem.W.Frag} {A : Addr → Prop} {τ : List (V × D)} {n : Nat} {d d' : D} {v : V} (w : Vw c s d d') (e : En K A σ H s τ) (rl : Rel K c A H s.ω s.ι) (o : dok n d' = true) (r : Rp K A H d v) : Dp K H v (py d') := by
  cases w with
  | id => exact r.dp n _ _ o
  | @own p l h =>
    obtain ⟨⟨xs, h1, h2⟩, _⟩ := e.own p l h.mem
    unfold Rp at r
    subst r
    cases n with
    | zero =>
      unfold dok at o
      cases o
    | succ n =>
      unfold dok at o
      unfold py
      exact .lst (.inl (.inl h1)) (RpL.dp n l xs o h2)
  | @ro p l h =>
    obtain ⟨xs, h1, h2⟩ := rl.read h.mem
    unfold Rp at r
    subst r
    cases n with
    | zero =>
      unfold dok at o
      cases o
    | succ n =>
      unfold dok at o
      unfold py
      exact .lst (.inl (.inl h1)) (RpL.dp n l xs o h2)
def deq (d e : D) : Bool := PyData.eqv (py d) (py e)
inductive EqR (c : Cc) : D → D → S → (D → S → Prop) → Prop
  | mk {d1 d2 e1 e2 : D} {s : S} {Φ : D → S → Prop} (w1 : Vw c s d1 e1) (w2 : Vw c s d2 e2) (o1 : dok 8 e1 = true) (o2 : dok 8 e2 = true) (k : Φ (.bl (deq e1 e2)) s) : EqR c d1 d2 s Φ
inductive NeR (c : Cc) : D → D → S → (D → S → Prop) → Prop
  | mk {d1 d2 e1 e2 : D} {s : S} {Φ : D → S → Prop} (w1 : Vw c s d1 e1) (w2 : Vw c s d2 e2) (o1 : dok 8 e1 = true) (o2 : dok 8 e2 = true) (k : Φ (.bl (!deq e1 e2)) s) : NeR c d1 d2 s Φ
theorem od_eq {K : PySem.W.Frag} : OpD K c (rEqD K) (EqR c) := fun σ H s τ v1 v2 d1 d2 Φ Q e r k => by
  cases r with
  | mk w1 w2 o1 o2 q =>
    obtain ⟨A, z, r1⟩ := id e
    exact ⟨_, _, w1.dp z r1 o1 (z.tmp _ _ (List.mem_cons_of_mem _ List.mem_cons_self)), w2.dp z r1 o2 (z.tmp _ _ List.mem_cons_self), dok_shaped o1 (by decide), dok_shaped o2 (by decide), k _ _ s H q (e.drop2.atom rfl)⟩
theorem od_ne {K : PySem.W.Frag} : OpD K c (rNeD K) (NeR c) := fun σ H s τ v1 v2 d1 d2 Φ Q e r k => by
  cases r with
  | mk w1 w2 o1 o2 q =>
    obtain ⟨A, z, r1⟩ := id e
    exact ⟨_, _, w1.dp z r1 o1 (z.tmp _ _ (List.mem_cons_of_mem _ List.mem_cons_self)), w2.dp z r1 o2 (z.tmp _ _ List.mem_cons_self), dok_shaped o1 (by decide), dok_shaped o2 (by decide), k _ _ s H q (e.drop2.atom rfl)⟩
theorem ew_eq (hu : X.A.units + 64 < cLine) (h : EW X c W s (fun d1 s1 => EW X c W s1 (fun d2 s2 => EqR c d1 d2 s2 Φ) Ξ b) Ξ a) (hm : behindInMarks .Eq b = false := by first | exact nomark _ | rfl) : EW X c W s Φ Ξ (.Compare a [.Eq] [b] pos) := ew_cmp (op_eqD hu) od_eq hm h
theorem ew_ne (hu : X.A.units + 64 < cLine) (h : EW X c W s (fun d1 s1 => EW X c W s1 (fun d2 s2 => NeR c d1 d2 s2 Φ) Ξ b) Ξ a) (hm : behindInMarks .NotEq b = false := by first | exact nomark _ | rfl) : EW X c W s Φ Ξ (.Compare a [.NotEq] [b] pos) := ew_cmp (op_neD hu) od_ne hm h
theorem bw_eq (hu : X.A.units + 64 < cLine) (h : EW X c W s (fun d1 s1 => EW X c W s1 (fun d2 s2 => EqR c d1 d2 s2 fun d s3 => ∃ b, d = .bl b ∧ Φb b s3) Ξ b) Ξ a) (hm : behindInMarks .Eq b = false := by first | exact nomark _ | rfl) : BW X c W s Φb Ξ (.Compare a [.Eq] [b] pos) := bw_cmp (op_eqD hu) od_eq hm h
theorem bw_ne (hu : X.A.units + 64 < cLine) (h : EW X c W s (fun d1 s1 => EW X c W s1 (fun d2 s2 => NeR c d1 d2 s2 fun d s3 => ∃ b, d = .bl b ∧ Φb b s3) Ξ b) Ξ a) (hm : behindInMarks .NotEq b = false := by first | exact nomark _ | rfl) : BW X c W s Φb Ξ (.Compare a [.NotEq] [b] pos) := bw_cmp (op_neD hu) od_ne hm h
def isNon : D → Bool
  | .non => true
  | _ => false
theorem Rp.notNon {K : PySem.W.Frag} {A : Addr → Prop} {d : D} {v : V} (r : Rp K A H d v) : decide (v = .non) = isNon d := by
  cases d <;> unfold Rp at r <;> unfold isNon
  · subst r; rfl
  · subst r; rfl
  · subst r; rfl
  · subst r; rfl
  · obtain ⟨a, _, rfl, _⟩ := r; rfl
  · obtain ⟨a, _, rfl, _⟩ := r; rfl
  · obtain ⟨a, _, _, rfl, _⟩ := r; rfl
  · obtain ⟨a, rfl, _⟩ := r; rfl
  · subst r; rfl
inductive IsR : D → D → S → (D → S → Prop) → Prop
  | non {d : D} {s : S} {Φ : D → S → Prop} (k : Φ (.bl (isNon d)) s) : IsR d .non s Φ
  | bl {a b : Bool} {s : S} {Φ : D → S → Prop} (k : Φ (.bl (a == b)) s) : IsR (.bl a) (.bl b) s Φ
inductive NotR : D → D → S → (D → S → Prop) → Prop
  | non {d : D} {s : S} {Φ : D → S → Prop} (k : Φ (.bl (!isNon d)) s) : NotR d .non s Φ
  | bl {a b : Bool} {s : S} {Φ : D → S → Prop} (k : Φ (.bl (!(a == b))) s) : NotR (.bl a) (.bl b) s Φ
theorem od_is {K : PySem.W.Frag} : OpD K c (fun x y H Q => (y = .non ∧ Q (.bl (decide (x = .non))) H) ∨ rIsB x y H Q) IsR := fun σ H s τ v1 v2 d1 d2 Φ Q e r k => by
  obtain ⟨A, r1⟩ := e.top2
  obtain ⟨B, r2⟩ := e.top
  cases r with
  | non q => exact .inl ⟨r2.non_, by rw [r1.notNon]; exact k _ _ s H q (e.drop2.atom rfl)⟩
  | @bl a b _ _ q => exact .inr ⟨a, b, r1.bl_, r2.bl_, by rw [show decide (a = b) = (a == b) by cases a <;> cases b <;> rfl]; exact k _ _ s H q (e.drop2.atom rfl)⟩
theorem od_not {K : PySem.W.Frag} : OpD K c (fun x y H Q => (y = .non ∧ Q (.bl (!decide (x = .non))) H) ∨ rNotB x y H Q) NotR := fun σ H s τ v1 v2 d1 d2 Φ Q e r k => by
  obtain ⟨A, r1⟩ := e.top2
  obtain ⟨B, r2⟩ := e.top
  cases r with
  | non q => exact .inl ⟨r2.non_, by rw [r1.notNon]; exact k _ _ s H q (e.drop2.atom rfl)⟩
  | @bl a b _ _ q => exact .inr ⟨a, b, r1.bl_, r2.bl_, by rw [show decide (a = b) = (a == b) by cases a <;> cases b <;> rfl]; exact k _ _ s H q (e.drop2.atom rfl)⟩
end
end DL

namespace DL
open PySem PySem.Spec PyProof.Rows L2

section
variable {X : Cx} {c : Cc} {W : WX} {s : S} {Φ : D → S → Prop} {Φb : Bool → S → Prop} {Φa : List D → S → Prop} {Ξ : PX} {e a b : Expr} {es rest : List Expr} {pos p0 : Pos} {σ : L2.St} {H : Hp}
theorem ew_is (h : EW X c W s (fun d1 s1 => EW X c W s1 (fun d2 s2 => IsR d1 d2 s2 Φ) Ξ b) Ξ a) (hm : behindInMarks .Is b = false := by first | exact nomark _ | rfl) : EW X c W s Φ Ξ (.Compare a [.Is] [b] pos) := ew_cmp (opr_or op_isN op_isBl) od_is hm h
theorem ew_isnot (h : EW X c W s (fun d1 s1 => EW X c W s1 (fun d2 s2 => NotR d1 d2 s2 Φ) Ξ b) Ξ a) (hm : behindInMarks .IsNot b = false := by first | exact nomark _ | rfl) : EW X c W s Φ Ξ (.Compare a [.IsNot] [b] pos) := ew_cmp (opr_or op_notN op_notBl) od_not hm h
theorem bw_is (h : EW X c W s (fun d1 s1 => EW X c W s1 (fun d2 s2 => IsR d1 d2 s2 fun d s3 => ∃ b, d = .bl b ∧ Φb b s3) Ξ b) Ξ a) (hm : behindInMarks .Is b = false := by first | exact nomark _ | rfl) : BW X c W s Φb Ξ (.Compare a [.Is] [b] pos) := bw_cmp (opr_or op_isN op_isBl) od_is hm h
theorem bw_isnot (h : EW X c W s (fun d1 s1 => EW X c W s1 (fun d2 s2 => NotR d1 d2 s2 fun d s3 => ∃ b, d = .bl b ∧ Φb b s3) Ξ b) Ξ a) (hm : behindInMarks .IsNot b = false := by first | exact nomark _ | rfl) : BW X c W s Φb Ξ (.Compare a [.IsNot] [b] pos) := bw_cmp (opr_or op_notN op_notBl) od_not hm h

theorem ew_and (h : EW X c W s (fun d s1 => ∃ k, d = .bl k ∧ (k = true → EW X c W s1 Φ Ξ (.BoolOp .And (b :: rest) pos)) ∧ (k = false → Φ (.bl false) s1)) Ξ a) : EW X c W s Φ Ξ (.BoolOp .And (a :: b :: rest) pos) :=
  PE.mono (pe_and pe_any pe_any) fun σ H Q ⟨τ, e0, k, hx⟩ => h.use e0 (fun v d s1 H1 ⟨z, ed, hT, hF⟩ e1 => by
    subst ed
    obtain ⟨A, r⟩ := e1.top
    refine ⟨z, r.bl_, ?_⟩
    cases z with
    | true =>
      rw [if_pos rfl]
      exact (hT rfl).use e1.pop (fun v2 d2 s2 H2 h2 e2 => k v2 d2 s2 H2 h2 e2) hx
    | false =>
      rw [if_neg Bool.false_ne_true]
      exact k _ _ s1 H1 (hF rfl) (e1.pop.atom rfl)) hx
theorem ew_or (h : EW X c W s (fun d s1 => ∃ k, d = .bl k ∧ (k = true → Φ (.bl true) s1) ∧ (k = false → EW X c W s1 Φ Ξ (.BoolOp .Or (b :: rest) pos))) Ξ a) : EW X c W s Φ Ξ (.BoolOp .Or (a :: b :: rest) pos) :=
  PE.mono (pe_or pe_any pe_any) fun σ H Q ⟨τ, e0, k, hx⟩ => h.use e0 (fun v d s1 H1 ⟨z, ed, hT, hF⟩ e1 => by
    subst ed
    obtain ⟨A, r⟩ := e1.top
    refine ⟨z, r.bl_, ?_⟩
    cases z with
    | true =>
      rw [if_pos rfl]
      exact k _ _ s1 H1 (hT rfl) (e1.pop.atom rfl)
    | false =>
      rw [if_neg Bool.false_ne_true]
      exact (hF rfl).use e1.pop (fun v2 d2 s2 H2 h2 e2 => k v2 d2 s2 H2 h2 e2) hx) hx
theorem ew_one {op} (h : EW X c W s Φ Ξ a) : EW X c W s Φ Ξ (.BoolOp op [a] pos) := PE.mono (pe_one pe_any) fun σ H Q ⟨τ, e0, k, hx⟩ => h.use e0 k hx
theorem ew_notV (h : EW X c W s (fun d s1 => ∃ k, d = .bl k ∧ Φ (.bl (!k)) s1) Ξ a) : EW X c W s Φ Ξ (.UnaryOp .Not a pos) :=
  PE.mono (pe_not pe_any) fun σ H Q ⟨τ, e0, k, hx⟩ => h.use e0 (fun v d s1 H1 ⟨z, ed, q⟩ e1 => by
    subst ed
    obtain ⟨A, r⟩ := e1.top
    exact ⟨z, r.bl_, k _ _ s1 H1 q (e1.pop.atom rfl)⟩) hx
theorem ew_if {t : Expr} (h : BW X c W s (fun k s1 => (k = true → EW X c W s1 Φ Ξ a) ∧ (k = false → EW X c W s1 Φ Ξ b)) Ξ t) : EW X c W s Φ Ξ (.IfExp t a b pos) :=
  PE.mono (pe_ifExp pt_any pe_any pe_any) fun σ H Q ⟨τ, e0, k, hx⟩ => h.use e0 (fun z s1 H1 ⟨hT, hF⟩ e1 => by
    cases z with
    | true =>
      rw [if_pos rfl]
      exact (hT rfl).use e1 k hx
    | false =>
      rw [if_neg Bool.false_ne_true]
      exact (hF rfl).use e1 k hx) hx

theorem bw_w (h : WW X c W s Φb Ξ e) : BW X c W s Φb Ξ e := PW.pt h
theorem WW.use {τ : List (V × D)} {Q : Bool → Hp → Prop} (h : WW X c W s Φb Ξ e) (e0 : SE X.K c σ H s τ) (k : ∀ b s' H', Φb b s' → SE X.K c σ H' s' τ → Q b H')
    (hx : ∀ cls x dd s' H', Ξ cls x s' → SE X.K c σ H' s' τ → XR X.K H' x dd → W cls dd σ H') : wAny X e σ H Q := ⟨_, h, τ, e0, k, hx⟩
theorem ww_and (h : BW X c W s (fun k s1 => (k = true → WW X c W s1 Φb Ξ (.BoolOp .And (b :: rest) pos)) ∧ (k = false → Φb false s1)) Ξ a) : WW X c W s Φb Ξ (.BoolOp .And (a :: b :: rest) pos) :=
  PW.mono (pw_and pt_any pw_any) fun σ H Q ⟨τ, e0, k, hx⟩ => h.use e0 (fun z s1 H1 ⟨hT, hF⟩ e1 => by
    cases z with
    | true =>
      rw [if_pos rfl]
      exact (hT rfl).use e1 k hx
    | false =>
      rw [if_neg Bool.false_ne_true]
      exact k _ s1 H1 (hF rfl) e1) hx
theorem ww_or (h : BW X c W s (fun k s1 => (k = true → Φb true s1) ∧ (k = false → WW X c W s1 Φb Ξ (.BoolOp .Or (b :: rest) pos))) Ξ a) : WW X c W s Φb Ξ (.BoolOp .Or (a :: b :: rest) pos) :=
  PW.mono (pw_or pt_any pw_any) fun σ H Q ⟨τ, e0, k, hx⟩ => h.use e0 (fun z s1 H1 ⟨hT, hF⟩ e1 => by
    cases z with
    | true =>
      rw [if_pos rfl]
      exact k _ s1 H1 (hT rfl) e1
    | false =>
      rw [if_neg Bool.false_ne_true]
      exact (hF rfl).use e1 k hx) hx
theorem ww_andL (h : BW X c W s Φb Ξ a) : WW X c W s Φb Ξ (.BoolOp .And [a] pos) := PW.mono (pw_and1 pt_any) fun σ H Q ⟨τ, e0, k, hx⟩ => h.use e0 k hx
theorem ww_orL (h : BW X c W s Φb Ξ a) : WW X c W s Φb Ξ (.BoolOp .Or [a] pos) := PW.mono (pw_or1 pt_any) fun σ H Q ⟨τ, e0, k, hx⟩ => h.use e0 k hx
theorem bw_not (h : BW X c W s (fun k s1 => Φb (!k) s1) Ξ a) : BW X c W s Φb Ξ (.UnaryOp .Not a pos) :=
  PT.mono (pt_not pt_any) fun σ H Q ⟨τ, e0, k, hx⟩ => h.use e0 (fun z s1 H1 q e1 => k _ s1 H1 q e1) hx
theorem bw_val (h : EW X c W s (fun d s1 => ∃ k, d = .bl k ∧ Φb k s1) Ξ e) (he : ∀ whole, isTrue e X.env whole = (do let v ← whole; standAt e.pos; holding [v] (truthy v)) := by intro _; rfl) : BW X c W s Φb Ξ e :=
  PT.mono (pt_val pe_any he) fun σ H Q ⟨τ, e0, k, hx⟩ => h.use e0 (fun v d s1 H1 ⟨z, ed, q⟩ e1 => by
    subst ed
    obtain ⟨A, r⟩ := e1.top
    exact ⟨z, r.bl_, k z s1 H1 q e1.pop⟩) hx

inductive Sq (c : Cc) (s : S) : D → List D → Prop
  | src {d : D} {l : List D} (h : Src c s d l) : Sq c s d l
  | tup {l : List D} : Sq c s (.tup l) l
  | scr {l : List Int} : Sq c s (.scr l) (l.map D.int)
theorem rpl_ints {K : PySem.W.Frag} {A : Addr → Prop} : ∀ l : List Int, RpL K A H (l.map D.int) (l.map V.int)
  | [] => RpL.nil
  | i :: l => RpL.cons (by unfold Rp; rfl) (rpl_ints l)
theorem Sq.rd {K : PySem.W.Frag} {A : Addr → Prop} {σ : List (Option V)} {H : Hp} {τ : List (V × D)} {d : D} {l : List D} {v : V} (h : Sq c s d l) (e : En K A σ H s τ) (rl : Rel K c A H s.ω s.ι) (r : Rp K A H d v) :
    ∃ p xs, v = .ref p ∧ (SqL K H p xs ∨ SqT K H p xs) ∧ RpL K A H l xs := by
  cases h with
  | src h =>
    obtain ⟨p, xs, e1, e2, e3⟩ := h.rd e rl r
    exact ⟨p, xs, e1, .inl (SqL.of e2), e3⟩
  | tup =>
    unfold Rp at r
    obtain ⟨p, xs, e1, e2, e3⟩ := r
    exact ⟨p, xs, e1, .inr (SqT.of e2), e3⟩
  | @scr l =>
    unfold Rp at r
    obtain ⟨p, e1, e2⟩ := r
    exact ⟨p, _, e1, .inl e2.sq, rpl_ints l⟩
theorem at_rp {K : PySem.W.Frag} {A : Addr → Prop} {l : List D} {xs : List V} {i : Int} {d : D} (r : RpL K A H l xs) (h : atI l i = some d) : ∃ v, atI xs i = some v ∧ Rp K A H d v := by
  unfold atI at h ⊢
  rw [RpL.len r]
  cases z : ixN l.length i with
  | none =>
    rw [z] at h
    cases h
  | some j =>
    rw [z] at h
    exact RpL.get (i := j) r h
inductive IxRl (c : Cc) : D → D → S → (D → S → Prop) → Prop
  | mk {d f : D} {l : List D} {i : Int} {s : S} {Φ : D → S → Prop} (h : Sq c s d l) (hi : atI l i = some f) (k : Φ f s) : IxRl c d (.int i) s Φ
  | str {x : Str} {i : Int} {ch : Nat} {s : S} {Φ : D → S → Prop} (hl : x.length ≤ 16777216) (hi : atI x.cps.toList i = some ch) (k : Φ (.str ⟨#[ch]⟩) s) : IxRl c (.str x) (.int i) s Φ
theorem od_ix {K : PySem.W.Frag} : OpD K c (fun x y H Q => rIxL K x y H Q ∨ rIxT K x y H Q ∨ rIxS x y H Q) (IxRl c) := fun σ H s τ v1 v2 d1 d2 Φ Q e r k => by
  obtain ⟨A, e1, rl⟩ := id e
  have r1 := e1.tmp v1 d1 (List.mem_cons_of_mem _ List.mem_cons_self)
  have r2 := e1.tmp v2 d2 List.mem_cons_self
  cases r with
  | @mk _ f l i _ _ h hi q =>
    obtain ⟨p, xs, rfl, sq, rp⟩ := h.rd e1 rl r1
    obtain ⟨v, hv, rv⟩ := at_rp rp hi
    have fin : Q v H := k v f s H q ⟨A, (e1.sub fun x hx => List.mem_cons_of_mem _ (List.mem_cons_of_mem _ hx)).push rv, rl⟩
    rcases sq with sq | sq
    · exact .inl ⟨p, xs, i, v, rfl, r2.int_, sq, hv, fin⟩
    · exact .inr (.inl ⟨p, xs, i, v, rfl, r2.int_, sq, hv, fin⟩)
  | @str x i ch _ _ hl hi q =>
    exact .inr (.inr ⟨x, i, ch, r1.str_, r2.int_, by rw [sizeLine_eq]; exact hl, hi, k _ _ s H q (e.drop2.atom rfl)⟩)
theorem ew_ix (h : EW X c W s (fun d1 s1 => EW X c W s1 (fun d2 s2 => IxRl c d1 d2 s2 Φ) Ξ b) Ξ a) (hs : PlainIx b := by exact fun _ _ => rfl) : EW X c W s Φ Ξ (.Subscript a b pos) :=
  PE.mono (pe_ix (IxR.or ix_list (IxR.or ix_tup ix_str)) pe_any pe_any hs) fun σ H Q ⟨τ, e0, k, hx⟩ => h.use e0 (fun v1 d1 s1 H1 h1 e1 => h1.use e1 (fun v2 d2 s2 H2 h2 e2 => od_ix σ H2 s2 τ v1 v2 d1 d2 Φ Q e2 h2 k) fun cls x dd s' H' p q => hx cls x dd s' H' p q.pop) hx

def cutD (l : List D) (lo hi : Option Int) : List D := (l.drop (HT.sIx l.length 0 lo)).take (HT.sIx l.length l.length hi - HT.sIx l.length 0 lo)
def oAny (X : Cx) (e : Option Expr) : TO := fun σ H Q => ∃ t, PO X e t ∧ t σ H Q
theorem po_any {e : Option Expr} : PO X e (oAny X e) := ⟨fun pins s σ H Q I ⟨t, h, q⟩ => h.run pins s σ H Q I q⟩
def OW (X : Cx) (c : Cc) (W : WX) (s : S) (Φo : Option Int → S → Prop) (Ξ : PX) : Option Expr → Prop
  | none => Φo none s
  | some e => EW X c W s (fun d s1 => ∃ i, d = .int i ∧ Φo (some i) s1) Ξ e
theorem OW.use {τ : List (V × D)} {o : Option Expr} {Φo : Option Int → S → Prop} {Q : Option Int → Hp → Prop} (h : OW X c W s Φo Ξ o) (e0 : SE X.K c σ H s τ) (k : ∀ o s' H', Φo o s' → SE X.K c σ H' s' τ → Q o H')
    (hx : ∀ cls x dd s' H', Ξ cls x s' → SE X.K c σ H' s' τ → XR X.K H' x dd → W cls dd σ H') : oAny X o σ H Q := by
  cases o with
  | none => exact ⟨_, po_none, k none s H h e0⟩
  | some e =>
    refine ⟨_, po_some pe_any, ?_⟩
    exact EW.use h e0 (fun v d s1 H1 ⟨i, ed, q⟩ e1 => by
      subst ed
      obtain ⟨A, r⟩ := e1.top
      exact ⟨i, r.int_, k (some i) s1 H1 q e1.pop⟩) hx
theorem ew_sliceO {lo hi : Option Expr} {p2 : Pos} (h : EW X c W s (fun d s1 => OW X c W s1 (fun i s2 => OW X c W s2 (fun j s3 => ∃ l, Src c s3 d l ∧ ∀ p, p ∉ c.O0 → Φ (.ref p) (@S.mk s3.δ ((p, cutD l i j) :: s3.ω) s3.ι)) Ξ hi) Ξ lo) Ξ a) : EW X c W s Φ Ξ (.Subscript a (.Slice lo hi none p2) pos) :=
  PE.mono (pe_slice sl_list pe_any po_any po_any) fun σ H Q ⟨τ, e0, k, hx⟩ => h.use e0 (fun v1 d1 s1 H1 h1 e1 => h1.use e1 (fun i s2 H2 h2 e2 => h2.use e2 (fun j s3 H3 ⟨l, sr, q⟩ ⟨A, e3, r3⟩ => by
    obtain ⟨p1, xs, rfl, hp, rp⟩ := sr.rd e3 r3 (e3.tmp _ _ List.mem_cons_self)
    refine ⟨p1, xs, rfl, SqL.of hp, fun p n => ?_⟩
    have np : p ∉ c.O0 := fun z => by
      obtain ⟨xs, q⟩ := r3.there p z
      rw [n] at q
      cases q
    have rc : RpL X.K A H3 (cutD l i j) (cutV xs i j) := by
      unfold cutD cutV
      rw [RpL.len rp]
      exact RpL.take _ (RpL.drop _ rp)
    exact k _ _ _ _ (q p np) ((SE.newL e3 r3 n rc).sub fun x hx => (List.mem_cons.mp hx).elim (fun z => z ▸ List.mem_cons_self) fun z => List.mem_cons_of_mem _ (List.mem_cons_of_mem _ z)))
    fun cls x dd s' H' p q => hx cls x dd s' H' p q.pop) fun cls x dd s' H' p q => hx cls x dd s' H' p q.pop) hx

def CallD (K : PySem.W.Frag) (c : Cc) (r : List V → Hp → VK → Prop) (R : List D → S → (D → S → Prop) → Prop) : Prop := ∀ (σ : List (Option V)) (H : Hp) (s : S) (τ τ' : List (V × D)) (vs : List V) (ds : List D) (Φ : D → S → Prop) (Q : VK),
  SE K c σ H s τ' → (∀ x ∈ τ, x ∈ τ') → Paired (fun v d => (v, d) ∈ τ') vs ds → R ds s Φ → (∀ v d s' H', Φ d s' → SE K c σ H' s' ((v, d) :: τ) → Q v H') → r vs H Q
theorem ew_blt {x : Str} {p : Pos} {id : String} {r : List V → Hp → VK → Prop} {R : List D → S → (D → S → Prop) → Prop} (hc : CallR X (.builtin id) r) (hd : CallD X.K c r R) (hm : X.mg x = none) (hv : bootBuiltins x = some (.builtin id))
    (h : AW X c W s (fun ds s1 => R ds s1 Φ) Ξ (e :: es)) (hg : Gl X x := by rfl) (hn : x ≠ "__name__" := by decide) (hdb : (x == ("__debug__" : Str)) = false := by decide)
    (he : starEach (e :: es) X.env = (false, eval e X.env) :: starEach es X.env := by rfl) (hpl : (backTo pos (starEach es X.env)).any (·.1) = false := by rfl) : EW X c W s Φ Ξ (.Call (.Name x p) (e :: es) [] pos) :=
  PE.mono (pe_callB hc hg hm hv pa_any hn hdb he hpl) fun σ H Q ⟨τ, e0, k, hx⟩ => h.use e0 (fun vs ds s1 H1 τ1 h1 e1 sb pr => hd σ H1 s1 τ τ1 vs ds Φ Q e1 sb pr h1 k) hx
theorem ew_bty {x : Str} {p : Pos} {T : String} {r : List V → Hp → VK → Prop} {R : List D → S → (D → S → Prop) → Prop} (hc : CallR X (.type T) r) (hd : CallD X.K c r R) (hm : X.mg x = none) (hv : bootBuiltins x = some (.type T))
    (h : AW X c W s (fun ds s1 => R ds s1 Φ) Ξ (e :: es)) (hg : Gl X x := by rfl) (hn : x ≠ "__name__" := by decide) (hdb : (x == ("__debug__" : Str)) = false := by decide)
    (he : starEach (e :: es) X.env = (false, eval e X.env) :: starEach es X.env := by rfl) (hpl : (backTo pos (starEach es X.env)).any (·.1) = false := by rfl) : EW X c W s Φ Ξ (.Call (.Name x p) (e :: es) [] pos) :=
  PE.mono (pe_callTy hc hg hm hv pa_any hn hdb he hpl) fun σ H Q ⟨τ, e0, k, hx⟩ => h.use e0 (fun vs ds s1 H1 τ1 h1 e1 sb pr => hd σ H1 s1 τ τ1 vs ds Φ Q e1 sb pr h1 k) hx
theorem Paired.one {τ : List (V × D)} {vs : List V} {d : D} (h : Paired (fun v d => (v, d) ∈ τ) vs [d]) : ∃ v, vs = [v] ∧ (v, d) ∈ τ := by
  cases h with
  | cons a t =>
    cases t
    exact ⟨_, rfl, a⟩
theorem Paired.two {τ : List (V × D)} {vs : List V} {d f : D} (h : Paired (fun v d => (v, d) ∈ τ) vs [d, f]) : ∃ v w, vs = [v, w] ∧ (v, d) ∈ τ ∧ (w, f) ∈ τ := by
  cases h with
  | cons a t =>
    cases t with
    | cons b t =>
      cases t
      exact ⟨_, _, rfl, a, b⟩
inductive LenR (c : Cc) : List D → S → (D → S → Prop) → Prop
  | mk {d : D} {l : List D} {s : S} {Φ : D → S → Prop} (h : Sq c s d l) (k : Φ (.int l.length) s) : LenR c [d] s Φ
  | str {x : Str} {s : S} {Φ : D → S → Prop} (hl : x.length ≤ 16777216) (k : Φ (.int x.length) s) : LenR c [.str x] s Φ
theorem cd_len {K : PySem.W.Frag} : CallD K c (fun xs H Q => (∃ p ys, xs = [.ref p] ∧ (SqL K H p ys ∨ SqT K H p ys) ∧ Q (.int ys.length) H) ∨ ∃ z, xs = [.str z] ∧ z.length ≤ sizeLine ∧ Q (.int z.length) H) (LenR c) := fun σ H s τ τ' vs ds Φ Q e sb pr r k => by
  obtain ⟨A, e1, rl⟩ := id e
  cases r with
  | @mk d l _ _ h q =>
    obtain ⟨v, rfl, hv⟩ := Paired.one pr
    obtain ⟨p, xs, rfl, sq, rp⟩ := h.rd e1 rl (e1.tmp _ _ hv)
    exact .inl ⟨p, xs, rfl, sq, by rw [RpL.len rp]; exact k _ _ s H q ((e.sub sb).atom rfl)⟩
  | @str x _ _ hl q =>
    obtain ⟨v, rfl, hv⟩ := Paired.one pr
    have r1 := (e1.tmp _ _ hv).str_
    subst r1
    exact .inr ⟨x, rfl, by rw [sizeLine_eq]; exact hl, k _ _ s H q ((e.sub sb).atom rfl)⟩
theorem ew_len {p : Pos} (hm : X.mg "len" = none) (h : AW X c W s (fun ds s1 => LenR c ds s1 Φ) Ξ (e :: es)) (hg : Gl X "len" := by rfl)
    (he : starEach (e :: es) X.env = (false, eval e X.env) :: starEach es X.env := by rfl) (hpl : (backTo pos (starEach es X.env)).any (·.1) = false := by rfl) : EW X c W s Φ Ξ (.Call (.Name "len" p) (e :: es) [] pos) :=
  ew_blt (CallR.or call_len_seq call_len_str) cd_len hm PySem.boot_len h hg (by decide) (by decide) he hpl
inductive LstR (c : Cc) : List D → S → (D → S → Prop) → Prop
  | mk {d : D} {l : List D} {s : S} {Φ : D → S → Prop} (h : Sq c s d l) (k : ∀ p, p ∉ c.O0 → Φ (.ref p) (@S.mk s.δ ((p, l) :: s.ω) s.ι)) : LstR c [d] s Φ
theorem cd_list {K : PySem.W.Frag} : CallD K c (fun xs H Q => ∃ p ys, xs = [.ref p] ∧ (SqL K H p ys ∨ SqT K H p ys) ∧ ∀ l, H l = none → Q (.ref l) (upd H l (.lst ys))) (LstR c) := fun σ H s τ τ' vs ds Φ Q e sb pr r k => by
  obtain ⟨A, e1, rl⟩ := id e
  cases r with
  | @mk d l _ _ h q =>
    obtain ⟨v, rfl, hv⟩ := Paired.one pr
    obtain ⟨p, xs, rfl, sq, rp⟩ := h.rd e1 rl (e1.tmp _ _ hv)
    refine ⟨p, xs, rfl, sq, fun z n => ?_⟩
    have np : z ∉ c.O0 := fun w => by
      obtain ⟨ys, q⟩ := rl.there z w
      rw [n] at q
      cases q
    exact k _ _ _ _ (q z np) ((SE.newL e1 rl n rp).sub fun x hx => (List.mem_cons.mp hx).elim (fun z => z ▸ List.mem_cons_self) fun z => List.mem_cons_of_mem _ (sb x z))
theorem ew_listO {p : Pos} (hm : X.mg "list" = none) (h : AW X c W s (fun ds s1 => LstR c ds s1 Φ) Ξ (e :: es)) (hg : Gl X "list" := by rfl)
    (he : starEach (e :: es) X.env = (false, eval e X.env) :: starEach es X.env := by rfl) (hpl : (backTo pos (starEach es X.env)).any (·.1) = false := by rfl) : EW X c W s Φ Ξ (.Call (.Name "list" p) (e :: es) [] pos) :=
  ew_bty call_list_of cd_list hm boot_list h hg (by decide) (by decide) he hpl
inductive IntR : List D → S → (D → S → Prop) → Prop
  | int {i : Int} {s : S} {Φ : D → S → Prop} (k : Φ (.int i) s) : IntR [.int i] s Φ
  | bl {b : Bool} {s : S} {Φ : D → S → Prop} (k : Φ (.int (if b then 1 else 0)) s) : IntR [.bl b] s Φ
theorem cd_int {K : PySem.W.Frag} : CallD K c (fun xs H Q => (∃ i, xs = [.int i] ∧ Q (.int i) H) ∨ ∃ k, xs = [.bl k] ∧ Q (.int (if k then 1 else 0)) H) IntR := fun σ H s τ τ' vs ds Φ Q e sb pr r k => by
  obtain ⟨A, e1, rl⟩ := id e
  cases r with
  | @int i _ _ q =>
    obtain ⟨v, rfl, hv⟩ := Paired.one pr
    have r1 := (e1.tmp _ _ hv).int_
    subst r1
    exact .inl ⟨i, rfl, k _ _ s H q ((e.sub sb).atom rfl)⟩
  | @bl b _ _ q =>
    obtain ⟨v, rfl, hv⟩ := Paired.one pr
    have r1 := (e1.tmp _ _ hv).bl_
    subst r1
    exact .inr ⟨b, rfl, k _ _ s H q ((e.sub sb).atom rfl)⟩
theorem ew_toint {p : Pos} (hm : X.mg "int" = none) (h : AW X c W s (fun ds s1 => IntR ds s1 Φ) Ξ (e :: es)) (hg : Gl X "int" := by rfl)
    (he : starEach (e :: es) X.env = (false, eval e X.env) :: starEach es X.env := by rfl) (hpl : (backTo pos (starEach es X.env)).any (·.1) = false := by rfl) : EW X c W s Φ Ξ (.Call (.Name "int" p) (e :: es) [] pos) :=
  ew_bty call_int1 cd_int hm boot_int h hg (by decide) (by decide) he hpl
inductive I1R (g : Int → Int) : List D → S → (D → S → Prop) → Prop
  | mk {i : Int} {s : S} {Φ : D → S → Prop} (k : Φ (.int (g i)) s) : I1R g [.int i] s Φ
inductive I2R (g : Int → Int → Int) : List D → S → (D → S → Prop) → Prop
  | mk {i j : Int} {s : S} {Φ : D → S → Prop} (k : Φ (.int (g i j)) s) : I2R g [.int i, .int j] s Φ
theorem cd_i1 {K : PySem.W.Frag} {g : Int → Int} : CallD K c (fun xs H Q => ∃ i, xs = [.int i] ∧ Q (.int (g i)) H) (I1R g) := fun σ H s τ τ' vs ds Φ Q e sb pr r k => by
  obtain ⟨A, e1, rl⟩ := id e
  cases r with
  | @mk i _ _ q =>
    obtain ⟨v, rfl, hv⟩ := Paired.one pr
    have r1 := (e1.tmp _ _ hv).int_
    subst r1
    exact ⟨i, rfl, k _ _ s H q ((e.sub sb).atom rfl)⟩
theorem cd_i2 {K : PySem.W.Frag} {g : Int → Int → Int} : CallD K c (fun xs H Q => ∃ i j, xs = [.int i, .int j] ∧ Q (.int (g i j)) H) (I2R g) := fun σ H s τ τ' vs ds Φ Q e sb pr r k => by
  obtain ⟨A, e1, rl⟩ := id e
  cases r with
  | @mk i j _ _ q =>
    obtain ⟨v, w, rfl, hv, hw⟩ := Paired.two pr
    have r1 := (e1.tmp _ _ hv).int_
    have r2 := (e1.tmp _ _ hw).int_
    subst r1 r2
    exact ⟨i, j, rfl, k _ _ s H q ((e.sub sb).atom rfl)⟩
theorem ew_max {p : Pos} (hc : X.calm = true) (hm : X.mg "max" = none) (h : AW X c W s (fun ds s1 => I2R (fun i j => if j > i then j else i) ds s1 Φ) Ξ (e :: es)) (hg : Gl X "max" := by rfl)
    (he : starEach (e :: es) X.env = (false, eval e X.env) :: starEach es X.env := by rfl) (hpl : (backTo pos (starEach es X.env)).any (·.1) = false := by rfl) : EW X c W s Φ Ξ (.Call (.Name "max" p) (e :: es) [] pos) :=
  ew_blt (call_max2 hc) (cd_i2 (g := fun i j => if j > i then j else i)) hm boot_max h hg (by decide) (by decide) he hpl
theorem ew_min {p : Pos} (hc : X.calm = true) (hm : X.mg "min" = none) (h : AW X c W s (fun ds s1 => I2R (fun i j => if j < i then j else i) ds s1 Φ) Ξ (e :: es)) (hg : Gl X "min" := by rfl)
    (he : starEach (e :: es) X.env = (false, eval e X.env) :: starEach es X.env := by rfl) (hpl : (backTo pos (starEach es X.env)).any (·.1) = false := by rfl) : EW X c W s Φ Ξ (.Call (.Name "min" p) (e :: es) [] pos) :=
  ew_blt (call_min2 hc) (cd_i2 (g := fun i j => if j < i then j else i)) hm boot_min h hg (by decide) (by decide) he hpl
theorem ew_abs {p : Pos} (hm : X.mg "abs" = none) (h : AW X c W s (fun ds s1 => I1R (fun i => if i < 0 then -i else i) ds s1 Φ) Ξ (e :: es)) (hg : Gl X "abs" := by rfl)
    (he : starEach (e :: es) X.env = (false, eval e X.env) :: starEach es X.env := by rfl) (hpl : (backTo pos (starEach es X.env)).any (·.1) = false := by rfl) : EW X c W s Φ Ξ (.Call (.Name "abs" p) (e :: es) [] pos) :=
  ew_blt call_abs (cd_i1 (g := fun i => if i < 0 then -i else i)) hm boot_abs h hg (by decide) (by decide) he hpl

structure InsTy (K : PySem.W.Frag) (C : Addr) : Prop where
  cl : Cls K C
  ha : PySem.W.findIn K (.ref C) "__class__" = some (some (.builtin "object.__class__"))
  hn : PySem.W.specialIn K (.builtin "object.__class__") "__get__" = some (some (.builtin "getset_descriptor.__get__"))
  ht : PySem.W.takesIn K (.builtin "object.__class__") = some true
  hm : PySem.W.mroIn K C (.type "object") = some true
inductive TyD (K : PySem.W.Frag) (c : Cc) (s : S) : D → Value → Prop
  | non : TyD K c s .non (.type "NoneType")
  | bl {b : Bool} : TyD K c s (.bl b) (.type "bool")
  | int {i : Int} : TyD K c s (.int i) (.type "int")
  | str {x : Str} : TyD K c s (.str x) (.type "str")
  | tup {l : List D} : TyD K c s (.tup l) (.type "tuple")
  | lst {l : List D} : TyD K c s (.lst l) (.type "list")
  | own {p : Addr} {l : List D} (h : Mem s.ω (p, l)) : TyD K c s (.ref p) (.type "list")
  | ro {p : Addr} {l : List D} (h : Mem c.ρ (p, l)) : TyD K c s (.ref p) (.type "list")
  | ins {C : Addr} {fs : List (Str × D)} (h : InsTy K C) : TyD K c s (.ins C fs) (.ref C)
theorem TyD.x {K : PySem.W.Frag} {A : Addr → Prop} {σ : List (Option V)} {τ : List (V × D)} {d : D} {t : Value} {v : V} (h : TyD K c s d t) (e : En K A σ H s τ) (rl : Rel K c A H s.ω s.ι) (r : Rp K A H d v) : TyX K H v t := by
  cases h with
  | non =>
    have r1 := r.non_
    subst r1
    exact .base .non
  | bl =>
    have r1 := r.bl_
    subst r1
    exact .base (.bl _)
  | int =>
    have r1 := r.int_
    subst r1
    exact .base (.int _)
  | str =>
    have r1 := r.str_
    subst r1
    exact .base (.str _)
  | tup =>
    unfold Rp at r
    obtain ⟨p, xs, rfl, h, _⟩ := r
    exact .base (.tup h)
  | lst =>
    unfold Rp at r
    obtain ⟨p, xs, rfl, _, h, _⟩ := r
    exact .base (.lst h)
  | @own p l h =>
    unfold Rp at r
    subst r
    obtain ⟨⟨xs, h1, _⟩, _⟩ := e.own p l h.mem
    exact .base (.lst h1)
  | @ro p l h =>
    unfold Rp at r
    subst r
    obtain ⟨xs, h1, _⟩ := rl.read h.mem
    exact .base (.lst h1)
  | ins h =>
    unfold Rp at r
    obtain ⟨p, dx, vs, rfl, _, h1, _⟩ := r
    exact .base (.ins h1 h.cl h.ha h.hn h.ht h.hm)
theorem ew_isiT {y : Str} {p py' : Pos} {T : String} (hm : X.mg "isinstance" = none) (hy : X.mg y = none) (hv : bootBuiltins y = some (.type T)) (h : EW X c W s (fun d s1 => ∃ t b, TyD X.K c s1 d t ∧ PySem.W.kitOne X.K t (.type T) = some b ∧ Φ (.bl b) s1) Ξ e)
    (hg : Gl X "isinstance" := by rfl) (hgy : Gl X y := by rfl) (hny : y ≠ "__name__" := by decide) (hdy : (y == ("__debug__" : Str)) = false := by decide)
    (he : starEach (e :: [.Name y py']) X.env = (false, eval e X.env) :: starEach [.Name y py'] X.env := by rfl) (he2 : starEach [.Name y py'] X.env = (false, eval (.Name y py') X.env) :: starEach [] X.env := by rfl) (hpl : (backTo pos (starEach [.Name y py'] X.env)).any (·.1) = false := by rfl) :
    EW X c W s Φ Ξ (.Call (.Name "isinstance" p) [e, .Name y py'] [] pos) :=
  PE.mono (pe_callB call_isi hg hm boot_isinstance (pa_cons pe_any (pa_cons (pe_bltn (v := V.ty T) hgy hy hv rfl hny hdy) pa_nil he2) he) (by decide) (by decide) he hpl) fun σ H Q ⟨τ, e0, k, hx⟩ => h.use e0 (fun v d s1 H1 ⟨t, b, ty, kt, q⟩ e1 => by
    obtain ⟨A, z, rl⟩ := id e1
    exact ⟨v, .ty T, t, .type T, b, rfl, .ty T, ty.x z rl (z.tmp _ _ List.mem_cons_self), kt, k _ _ s1 H1 q (e1.pop.atom rfl)⟩) hx
theorem ew_isiC {y : Str} {p py' : Pos} {C : Addr} (hm : X.mg "isinstance" = none) (hy : X.mg y = some (.ref C)) (h : EW X c W s (fun d s1 => ∃ t b, TyD X.K c s1 d t ∧ PySem.W.kitOne X.K t (.ref C) = some b ∧ Φ (.bl b) s1) Ξ e)
    (hg : Gl X "isinstance" := by rfl) (hgy : Gl X y := by rfl) (hdy : (y == ("__debug__" : Str)) = false := by decide)
    (he : starEach (e :: [.Name y py']) X.env = (false, eval e X.env) :: starEach [.Name y py'] X.env := by rfl) (he2 : starEach [.Name y py'] X.env = (false, eval (.Name y py') X.env) :: starEach [] X.env := by rfl) (hpl : (backTo pos (starEach [.Name y py'] X.env)).any (·.1) = false := by rfl) :
    EW X c W s Φ Ξ (.Call (.Name "isinstance" p) [e, .Name y py'] [] pos) :=
  PE.mono (pe_callB call_isi hg hm boot_isinstance (pa_cons pe_any (pa_cons (pe_glob (v := V.ref C) hgy hy rfl hdy) pa_nil he2) he) (by decide) (by decide) he hpl) fun σ H Q ⟨τ, e0, k, hx⟩ => h.use e0 (fun v d s1 H1 ⟨t, b, ty, kt, q⟩ e1 => by
    obtain ⟨A, z, rl⟩ := id e1
    exact ⟨v, .ref C, t, .ref C, b, rfl, .own C, ty.x z rl (z.tmp _ _ List.mem_cons_self), kt, k _ _ s1 H1 q (e1.pop.atom rfl)⟩) hx
end
end DL

namespace DL
open PySem PySem.Spec PyProof.Rows L2

structure Nd where
  nx : S → Prop
  rt : D → S → Prop
  bk : S → Prop := fun _ => False
  ct : S → Prop := fun _ => False
  ex : PX
def sW (K : PySem.W.Frag) (c : Cc) (W : WX) (s : S) (N : Nd) : TS := fun E σ H => ∃ τ, SE K c σ H s τ ∧
  (∀ s' σ' H', N.nx s' → SE K c σ' H' s' τ → E.nx σ' H') ∧ (∀ v d s' σ' H', N.rt d s' → SE K c σ' H' s' ((v, d) :: τ) → E.rt v H') ∧
  (∀ s' σ' H', N.bk s' → SE K c σ' H' s' τ → E.bk σ' H') ∧ (∀ s' σ' H', N.ct s' → SE K c σ' H' s' τ → E.ct σ' H') ∧
  (∀ cls x dd s' σ' H', N.ex cls x s' → SE K c σ' H' s' τ → XR K H' x dd → W cls dd σ' H')
def SW (X : Cx) (c : Cc) (W : WX) (s : S) (N : Nd) (st : Stmt) : Prop := PS X st (sW X.K c W s N)
def LW (X : Cx) (c : Cc) (W : WX) (s : S) (N : Nd) (sts : List Stmt) : Prop := PSs X sts (sW X.K c W s N)
def lAny (X : Cx) (sts : List Stmt) : TS := fun E σ H => ∃ t, PSs X sts t ∧ t E σ H

section
variable {X : Cx} {c : Cc} {W : WX} {s : S} {nx : S → Prop} {rt : D → S → Prop} {bk ct : S → Prop} {ex : PX} {e a b : Expr} {es : List Expr} {st : Stmt} {rest body orelse : List Stmt} {pos p0 : Pos} {σ : L2.St} {H : Hp}
theorem PS.mono {t t' : TS} (h : PS X st t) (m : ∀ E σ H, t' E σ H → t E σ H) : PS X st t' := ⟨fun pins s σ H D I q => h.run pins s σ H D I (m _ _ _ q)⟩
theorem PSs.mono {t t' : TS} (h : PSs X rest t) (m : ∀ E σ H, t' E σ H → t E σ H) : PSs X rest t' := ⟨fun pins s σ H D I q => h.run pins s σ H D I (m _ _ _ q)⟩
theorem pss_any : PSs X rest (lAny X rest) := ⟨fun pins s σ H D I ⟨t, h, q⟩ => h.run pins s σ H D I q⟩
theorem lw_nil (k : nx s) : LW X c W s ⟨nx, rt, bk, ct, ex⟩ [] := PSs.mono pss_nil fun E σ H ⟨τ, e0, h1, _⟩ => h1 s σ H k e0
theorem lw_cons (h : SW X c W s ⟨fun s' => LW X c W s' ⟨nx, rt, bk, ct, ex⟩ rest, rt, bk, ct, ex⟩ st) : LW X c W s ⟨nx, rt, bk, ct, ex⟩ (st :: rest) :=
  PSs.mono (pss_cons h pss_any) fun E σ H ⟨τ, e0, h1, h2, h3, h4, h5⟩ => ⟨τ, e0, fun s' σ' H' q e => ⟨_, q, τ, e, h1, h2, h3, h4, h5⟩, h2, h3, h4, h5⟩
theorem lw_one (h : SW X c W s ⟨nx, rt, bk, ct, ex⟩ st) : LW X c W s ⟨nx, rt, bk, ct, ex⟩ [st] := PSs.mono (pss_one h) fun E σ H q => q
theorem SW.imp {M : Nd} (h : SW X c W s M st) (h1 : ∀ s', M.nx s' → nx s') (h2 : ∀ d s', M.rt d s' → rt d s') (h3 : ∀ s', M.bk s' → bk s') (h4 : ∀ s', M.ct s' → ct s') (h5 : ∀ cl x s', M.ex cl x s' → ex cl x s') : SW X c W s ⟨nx, rt, bk, ct, ex⟩ st :=
  PS.mono h fun E σ H ⟨τ, e0, k1, k2, k3, k4, k5⟩ => ⟨τ, e0, fun s' σ' H' q => k1 s' σ' H' (h1 _ q), fun v d s' σ' H' q => k2 v d s' σ' H' (h2 _ _ q), fun s' σ' H' q => k3 s' σ' H' (h3 _ q), fun s' σ' H' q => k4 s' σ' H' (h4 _ q), fun cl x dd s' σ' H' q => k5 cl x dd s' σ' H' (h5 _ _ _ q)⟩

theorem sw_pass (k : nx s) : SW X c W s ⟨nx, rt, bk, ct, ex⟩ (.Pass pos) := PS.mono ps_pass fun E σ H ⟨τ, e0, h1, _⟩ => h1 s σ H k e0
theorem sw_brk (k : bk s) : SW X c W s ⟨nx, rt, bk, ct, ex⟩ (.Break pos) := PS.mono ps_break fun E σ H ⟨τ, e0, _, _, h3, _⟩ => h3 s σ H k e0
theorem sw_cont (k : ct s) : SW X c W s ⟨nx, rt, bk, ct, ex⟩ (.Continue pos) := PS.mono ps_continue fun E σ H ⟨τ, e0, _, _, _, h4, _⟩ => h4 s σ H k e0
theorem sw_ret (h : EW X c W s rt ex e) : SW X c W s ⟨nx, rt, bk, ct, ex⟩ (.Return (some e) pos) :=
  PS.mono (ps_ret pe_any) fun E σ H ⟨τ, e0, h1, h2, h3, h4, h5⟩ => h.use e0 (fun v d s' H' q e1 => h2 v d s' σ H' q e1) fun cls x dd s' H' q e1 => h5 cls x dd s' σ H' q e1
theorem sw_retN (k : rt .non s) : SW X c W s ⟨nx, rt, bk, ct, ex⟩ (.Return none pos) := PS.mono ps_retN fun E σ H ⟨τ, e0, h1, h2, _⟩ => h2 .non .non s σ H k (e0.atom rfl)
theorem sw_expr (h : EW X c W s (fun _ s1 => nx s1) ex e) (hs : swapsWith e none pos.line X.env = pure false := by rfl) : SW X c W s ⟨nx, rt, bk, ct, ex⟩ (.Expr e pos) :=
  PS.mono (ps_expr pe_any hs) fun E σ H ⟨τ, e0, h1, h2, h3, h4, h5⟩ => h.use e0 (fun v d s' H' q e1 => h1 s' σ H' q e1.pop) fun cls x dd s' H' q e1 => h5 cls x dd s' σ H' q e1
theorem sw_if {t : Expr} (h : BW X c W s (fun k s1 => (k = true → LW X c W s1 ⟨nx, rt, bk, ct, ex⟩ body) ∧ (k = false → LW X c W s1 ⟨nx, rt, bk, ct, ex⟩ orelse)) ex t) : SW X c W s ⟨nx, rt, bk, ct, ex⟩ (.If t body orelse pos) :=
  PS.mono (ps_if pt_any pss_any pss_any) fun E σ H ⟨τ, e0, h1, h2, h3, h4, h5⟩ => h.use e0 (fun z s1 H1 ⟨hT, hF⟩ e1 => by
    cases z with
    | true =>
      rw [if_pos rfl]
      exact ⟨_, hT rfl, τ, e1, h1, h2, h3, h4, h5⟩
    | false =>
      rw [if_neg Bool.false_ne_true]
      exact ⟨_, hF rfl, τ, e1, h1, h2, h3, h4, h5⟩) fun cls x dd s' H' q e1 => h5 cls x dd s' σ H' q e1

theorem SE.put {K : PySem.W.Frag} {σ : List (Option V)} {τ : List (V × D)} {v : V} {d : D} {i : Nat} {δ' : List (Option D)} (e : SE K c σ H s ((v, d) :: τ)) (p : Pt s.δ i (some d) δ') : SE K c (σ.set i (some v)) H (@S.mk δ' s.ω s.ι) τ := by
  obtain ⟨A, z, rl⟩ := e
  have pe := p.eq
  subst pe
  refine ⟨A, ⟨fun j f hf => ?_, by rw [List.length_set, List.length_set]; exact z.len, z.own, z.nd, fun w f hw => z.tmp w f (List.mem_cons_of_mem _ hw), z.dom, z.ins, z.ndi⟩, rl⟩
  have hl := z.len
  by_cases hj : i = j
  · subst hj
    have hlt : i < s.δ.length := by
      rcases Nat.lt_or_ge i s.δ.length with h | h
      · exact h
      · rw [List.getElem?_eq_none (by rw [List.length_set]; exact h)] at hf
        cases hf
    rw [List.getElem?_set_self hlt] at hf
    cases hf
    exact ⟨v, List.getElem?_set_self (by rw [hl]; exact hlt), z.tmp v _ List.mem_cons_self⟩
  · rw [List.getElem?_set_ne hj] at hf
    obtain ⟨w, h1, h2⟩ := z.slots j f hf
    exact ⟨w, (List.getElem?_set_ne hj).trans h1, h2⟩
theorem sw_set {i : Nat} {x : Str} {px : Pos} (hN : X.N.Nodup) (h : EW X c W s (fun d s1 => ∃ δ', Pt s1.δ i (some d) δ' ∧ nx (@S.mk δ' s1.ω s1.ι)) ex e) (hi : X.N[i]? = some x := by rfl) (hx : Loc X.env.scope x := by first | exact .inl rfl | exact .inr rfl)
    (hs : swapsWith e (some (.Name x px)) pos.line X.env = pure false := by rfl) (hf : X.fn x = true ∨ X.env.scope.names.lookup x = some .local := by first | exact .inl rfl | exact .inr rfl) : SW X c W s ⟨nx, rt, bk, ct, ex⟩ (.Assign [.Name x px] e pos) :=
  PS.mono (ps_set hN hi hx pe_any hs hf) fun E σ H ⟨τ, e0, h1, h2, h3, h4, h5⟩ => h.use e0 (fun v d s' H' ⟨δ', p, q⟩ e1 => h1 _ _ H' q (e1.put p)) fun cls x dd s' H' q e1 => h5 cls x dd s' σ H' q e1

def GW (X : Cx) (c : Cc) (vs : List Nat) (tg : Expr) (R : D → S → (S → Prop) → Prop) : Prop := PG X tg (fun v σ H Q => ∃ τ d s Φ, SE X.K c σ H s ((v, d) :: τ) ∧ R d s Φ ∧ ∀ s' σ' H', Φ s' → wipe σ' vs = wipe σ vs → SE X.K c σ' H' s' τ → Q σ' H')
def GWs (X : Cx) (c : Cc) (vs : List Nat) (tgs : List Expr) (R : List D → S → (S → Prop) → Prop) : Prop := PGs X tgs (fun xs σ H Q => ∃ τ τ' ds s Φ, SE X.K c σ H s τ' ∧ (∀ x ∈ τ, x ∈ τ') ∧ Paired (fun v d => (v, d) ∈ τ') xs ds ∧ R ds s Φ ∧ ∀ s' σ' H', Φ s' → wipe σ' vs = wipe σ vs → SE X.K c σ' H' s' τ → Q σ' H')
theorem PG.mono {tg : Expr} {t t' : TG} (h : PG X tg t) (m : ∀ v σ H Q, t' v σ H Q → t v σ H Q) : PG X tg t' := ⟨fun pins s σ H v u Q I r q => h.run pins s σ H v u Q I r (m _ _ _ _ q)⟩
theorem PGs.mono {tgs : List Expr} {t t' : TGs} (h : PGs X tgs t) (m : ∀ v σ H Q, t' v σ H Q → t v σ H Q) : PGs X tgs t' := ⟨fun pins s σ H v u Q I r q => h.run pins s σ H v u Q I r (m _ _ _ _ q)⟩
theorem wipe_set {σ : List (Option V)} {o : Option V} {i : Nat} : ∀ {vs : List Nat}, i ∈ vs → wipe (σ.set i o) vs = wipe σ vs
  | [], h => by cases h
  | v :: vs, h => by
    by_cases hv : i ∈ vs
    · show (wipe (σ.set i o) vs).set v none = (wipe σ vs).set v none
      rw [wipe_set hv]
    · have e : i = v := (List.mem_cons.mp h).elim id fun z => absurd z hv
      subst e
      have key : ∀ (ws : List Nat), i ∉ ws → wipe (σ.set i o) ws = (wipe σ ws).set i o := by
        intro ws
        induction ws with
        | nil => intro _; rfl
        | cons w ws ih =>
          intro hw
          show (wipe (σ.set i o) ws).set w none = ((wipe σ ws).set w none).set i o
          rw [ih fun z => hw (List.mem_cons_of_mem _ z)]
          exact List.set_comm _ _ fun z => hw (z ▸ List.mem_cons_self)
      show (wipe (σ.set i o) vs).set i none = (wipe σ vs).set i none
      rw [key vs hv, List.set_set]
inductive GN (i : Nat) : D → S → (S → Prop) → Prop
  | mk {d : D} {s : S} {Φ : S → Prop} {δ' : List (Option D)} (p : Pt s.δ i (some d) δ') (k : Φ (@S.mk δ' s.ω s.ι)) : GN i d s Φ
theorem gw_name {vs : List Nat} {i : Nat} {x : Str} (hN : X.N.Nodup) (hv : i ∈ vs := by decide) (hi : X.N[i]? = some x := by rfl) (hx : Loc X.env.scope x := by first | exact .inl rfl | exact .inr rfl) (hf : X.fn x = true ∨ X.env.scope.names.lookup x = some .local := by first | exact .inl rfl | exact .inr rfl) : GW X c vs (.Name x pos) (GN i) :=
  PG.mono (pg_name hN hi hx hf) fun v σ H Q ⟨τ, d, s, Φ, e0, r, k⟩ => by
    cases r with
    | mk p q => exact k _ _ H q (wipe_set hv) (e0.put p)
inductive GC (R : D → S → (S → Prop) → Prop) (Rs : List D → S → (S → Prop) → Prop) : List D → S → (S → Prop) → Prop
  | mk {d : D} {ds : List D} {s : S} {Φ : S → Prop} (k : R d s fun s' => Rs ds s' Φ) : GC R Rs (d :: ds) s Φ
inductive GZ : List D → S → (S → Prop) → Prop
  | mk {s : S} {Φ : S → Prop} (k : Φ s) : GZ [] s Φ
theorem gws_nil {vs : List Nat} : GWs X c vs [] GZ := PGs.mono pgs_nil fun xs σ H Q ⟨τ, τ', ds, s, Φ, e0, sb, pr, r, k⟩ => by
  cases r with
  | mk q =>
    cases pr
    exact ⟨rfl, k s σ H q rfl (e0.sub sb)⟩
theorem gws_cons {vs : List Nat} {tg : Expr} {tgs : List Expr} {R : D → S → (S → Prop) → Prop} {Rs : List D → S → (S → Prop) → Prop} (h1 : GW X c vs tg R) (h2 : GWs X c vs tgs Rs) (hs : (assignEach (tg :: tgs) X.env).map (·.2) = assign tg X.env :: (assignEach tgs X.env).map (·.2) := by rfl) : GWs X c vs (tg :: tgs) (GC R Rs) :=
  PGs.mono (pgs_cons h1 h2 hs) fun xs σ H Q ⟨τ, τ', ds, s, Φ, e0, sb, pr, r, k⟩ => by
    cases r with
    | mk q =>
      cases pr with
      | cons hv t =>
        refine ⟨_, _, rfl, τ', _, s, _, e0.sub fun x hx => (List.mem_cons.mp hx).elim (fun z => z ▸ hv) id, q, fun s' σ' H' q2 w2 e2 => ?_⟩
        exact ⟨τ, τ', _, s', Φ, e2, sb, t, q2, fun s3 σ3 H3 q3 w3 e3 => k s3 σ3 H3 q3 (w3.trans w2) e3⟩
inductive GT (n : Nat) (Rs : List D → S → (S → Prop) → Prop) : D → S → (S → Prop) → Prop
  | mk {ds : List D} {s : S} {Φ : S → Prop} (hl : ds.length = n) (k : Rs ds s Φ) : GT n Rs (.tup ds) s Φ
theorem rpl_pair {K : PySem.W.Frag} {A : Addr → Prop} {σ : List (Option V)} : ∀ {ds : List D} {vs : List V} {τ : List (V × D)}, RpL K A H ds vs → En K A σ H s τ → Rel K c A H s.ω s.ι → ∃ τ', SE K c σ H s τ' ∧ (∀ x ∈ τ, x ∈ τ') ∧ Paired (fun v d => (v, d) ∈ τ') vs ds := by
  intro ds vs τ r e rl
  refine ⟨(vs.zip ds) ++ τ, ⟨A, ⟨e.slots, e.len, e.own, e.nd, fun v d hv => ?_, e.dom, e.ins, e.ndi⟩, rl⟩, fun x hx => List.mem_append_right _ hx, ?_⟩
  · rcases List.mem_append.mp hv with hv | hv
    · have key : ∀ (ds : List D) (vs : List V), RpL K A H ds vs → (v, d) ∈ vs.zip ds → Rp K A H d v := by
        intro ds
        induction ds with
        | nil =>
          intro vs r hv
          unfold RpL at r
          subst r
          simp at hv
        | cons d' ds ih =>
          intro vs r hv
          unfold RpL at r
          obtain ⟨x, r', rfl, h1, h2⟩ := r
          rcases List.mem_cons.mp (by simpa using hv : (v, d) ∈ (x, d') :: (r'.zip ds)) with z | z
          · cases z
            exact h1
          · exact ih r' h2 z
      exact key ds vs r hv
    · exact e.tmp v d hv
  · have key : ∀ (ds : List D) (vs : List V), RpL K A H ds vs → ∀ pre : List (V × D), (∀ x ∈ vs.zip ds, x ∈ pre) → Paired (fun v d => (v, d) ∈ pre) vs ds := by
      intro ds
      induction ds with
      | nil =>
        intro vs r pre _
        unfold RpL at r
        subst r
        exact .nil
      | cons d' ds ih =>
        intro vs r pre hp
        unfold RpL at r
        obtain ⟨x, r', rfl, h1, h2⟩ := r
        exact .cons (hp _ (by simp)) (ih r' h2 pre fun y hy => hp y (by simp [hy]))
    exact key ds vs r _ fun x hx => List.mem_append_left _ hx
theorem gw_tup {vs : List Nat} {k n : Nat} {Rs : List D → S → (S → Prop) → Prop} (hc : X.calm = true) (h : GWs X c vs es Rs) (hn : (assignEach es X.env).length = n := by rfl) (hst : (assignEach es X.env).findIdx? (·.1) = none := by rfl) : GW X c vs (.Tuple es k pos) (GT n Rs) :=
  PG.mono (pg_tup hc h hn hst) fun v σ H Q ⟨τ, d, s, Φ, e0, r, kk⟩ => by
    cases r with
    | @mk ds _ _ hl q =>
      obtain ⟨A, z, rl⟩ := e0
      have r1 := z.tmp v _ List.mem_cons_self
      unfold Rp at r1
      obtain ⟨p, xs, rfl, h1, h2⟩ := r1
      obtain ⟨τ', z2, sb, pr⟩ := rpl_pair h2 z rl
      exact ⟨p, xs, rfl, SqT.of h1, by rw [RpL.len h2]; exact hl, τ, τ', ds, s, Φ, z2, fun x hx => sb x (List.mem_cons_of_mem _ hx), pr, q, kk⟩
theorem sw_asg {vs : List Nat} {tg : Expr} {R : D → S → (S → Prop) → Prop} (hg : GW X c vs tg R) (h : EW X c W s (fun d s1 => R d s1 nx) ex e) (hs : swapsWithSole [tg] e pos.line X.env = pure false := by rfl) (hw : swappedStores [tg] e X.env = pure none := by rfl)
    (h1 : (assignEach [tg] X.env).map (·.2) = [assign tg X.env] := by rfl) : SW X c W s ⟨nx, rt, bk, ct, ex⟩ (.Assign [tg] e pos) :=
  PS.mono (ps_asg pe_any hg hs hw h1) fun E σ H ⟨τ, e0, h1, h2, h3, h4, h5⟩ => h.use e0 (fun v d s' H' q e1 => ⟨τ, d, s', _, e1, q, fun s2 σ2 H2 q2 _ => h1 s2 σ2 H2 q2⟩) fun cls x dd s' H' q e1 => h5 cls x dd s' σ H' q e1
theorem sw_par {i j : Nat} {x y : Str} {px py' pt : Pos} {kt k2 pt2} (hc : X.calm = true) (hN : X.N.Nodup) (h : EW X c W s (fun d1 s1 => EW X c W s1 (fun d2 s2 => ∃ δ' δ'', Pt s2.δ i (some d1) δ' ∧ Pt δ' j (some d2) δ'' ∧ nx (@S.mk δ'' s2.ω s2.ι)) ex b) ex a)
    (hij : i ≠ j := by decide) (hi : X.N[i]? = some x := by rfl) (hj : X.N[j]? = some y := by rfl) (hx : X.env.scope.names.lookup x = some .local := by rfl) (hy : X.env.scope.names.lookup y = some .local := by rfl)
    (hw : swappedStores [.Tuple [.Name x px, .Name y py'] kt pt] (.Tuple [a, b] k2 pt2) X.env = pure (some [x, y]) := by rfl) (hs : swapsWithSole [.Tuple [.Name x px, .Name y py'] kt pt] (.Tuple [a, b] k2 pt2) pos.line X.env = pure false := by rfl)
    (hs1 : starEach [a, b] X.env = (false, eval a X.env) :: starEach [b] X.env := by rfl) (hs2 : starEach [b] X.env = (false, eval b X.env) :: starEach [] X.env := by rfl) :
    SW X c W s ⟨nx, rt, bk, ct, ex⟩ (.Assign [.Tuple [.Name x px, .Name y py'] kt pt] (.Tuple [a, b] k2 pt2) pos) :=
  PS.mono (ps_par hc hN hi hj hij hx hy (pa_cons pe_any (pa_cons pe_any pa_nil hs2) hs1) hw hs) fun E σ H ⟨τ, e0, h1, h2, h3, h4, h5⟩ => h.use e0 (fun v d1 s1 H1 q e1 => q.use e1 (fun w f s2 H2 ⟨δ', δ'', p1, p2, k⟩ e2 => by
    refine ⟨v, w, rfl, ?_⟩
    have e3 : SE X.K c (σ.set i (some v)) H2 (@S.mk δ' s2.ω s2.ι) ((w, f) :: τ) := SE.put (s := s2) (v := v) (d := d1) (e2.sub fun x hx => by
      rcases List.mem_cons.mp hx with hx | hx
      · rw [hx]; exact List.mem_cons_of_mem _ List.mem_cons_self
      · rcases List.mem_cons.mp hx with hx | hx
        · rw [hx]; exact List.mem_cons_self
        · exact List.mem_cons_of_mem _ (List.mem_cons_of_mem _ hx)) p1
    exact h1 _ _ H2 k (e3.put p2)) fun cls x dd s' H' q e1 => h5 cls x dd s' σ H' q e1.pop) fun cls x dd s' H' q e1 => h5 cls x dd s' σ H' q e1

theorem SE.setO {K : PySem.W.Frag} {σ : List (Option V)} {τ : List (V × D)} {p : Addr} {l l' : List D} {xs' : List V} {j : Nat} {ω' : List (Addr × List D)} {A : Addr → Prop} (z : En K A σ H s τ) (rl : Rel K c A H s.ω s.ι) (ha : At s.ω j (p, l)) (hp : Pt s.ω j (p, l') ω') (r : RpL K A H l' xs') :
    SE K c σ (upd H p (.lst xs')) (@S.mk s.δ ω' s.ι) τ := by
  have hm : (p, l) ∈ s.ω := List.mem_of_getElem? ha.get
  obtain ⟨⟨xs, h1, _⟩, nA⟩ := z.own p l hm
  have k : Keeps A H (upd H p (.lst xs')) := Keeps.put nA h1 (fun q => q)
  have hlt : j < s.ω.length := (List.getElem?_eq_some_iff.mp ha.get).1
  have es : ω'.map (·.1) = s.ω.map (·.1) := by
    rw [hp.eq, List.map_set]
    have hj : (s.ω.map (·.1))[j]? = some p := by rw [List.getElem?_map, ha.get]; rfl
    apply List.ext_getElem?
    intro n
    by_cases hn : j = n
    · subst hn
      rw [List.getElem?_set_self (by rw [List.length_map]; exact hlt), hj]
    · rw [List.getElem?_set_ne hn]
  have mem : ∀ q ds, (q, ds) ∈ ω' → (q = p ∧ ds = l') ∨ (q ≠ p ∧ (q, ds) ∈ s.ω) := fun q ds hq => by
    rw [hp.eq] at hq
    obtain ⟨n, hn⟩ := List.mem_iff_getElem?.mp hq
    by_cases hj : j = n
    · subst hj
      rw [List.getElem?_set_self hlt] at hn
      cases hn
      exact .inl ⟨rfl, rfl⟩
    · rw [List.getElem?_set_ne hj] at hn
      refine .inr ⟨fun z2 => ?_, List.mem_of_getElem? hn⟩
      subst z2
      have a1 : (s.ω.map (·.1))[n]? = some q := by rw [List.getElem?_map, hn]; rfl
      have a2 : (s.ω.map (·.1))[j]? = some q := by rw [List.getElem?_map, ha.get]; rfl
      exact hj (nd_ix z.nd a2 a1)
  refine ⟨A, ⟨fun i d hd => ?_, z.len, fun q ds hq => ?_, by rw [es]; exact z.nd, fun v d hv => (z.tmp v d hv).keep k, fun a hA => ?_, fun q C fs hq => ?_, z.ndi⟩, ⟨rl.sub, rl.up, fun a o h0 no => ?_, fun q ds hq => ?_, fun q hq => ?_, rl.nA, rl.o0, rl.ro, rl.ins, rl.tab.put h1 (fun z => z) (fun ps z => by cases z)⟩⟩
  · obtain ⟨v, hv, hr⟩ := z.slots i d hd
    exact ⟨v, hv, hr.keep k⟩
  · rcases mem q ds hq with ⟨rfl, rfl⟩ | ⟨hne, hq⟩
    · exact ⟨⟨xs', upd_same, r.keep k⟩, nA⟩
    · obtain ⟨⟨ys, q1, q2⟩, q3⟩ := z.own q ds hq
      exact ⟨⟨ys, by rw [upd_ne hne]; exact q1, q2.keep k⟩, q3⟩
  · by_cases hap : a = p
    · subst hap
      exact absurd hA nA
    · obtain ⟨o, q⟩ := z.dom a hA
      exact ⟨o, by rw [upd_ne hap]; exact q⟩
  · obtain ⟨⟨dx, vs, q1, q2⟩, q3⟩ := z.ins q C fs hq
    have hne : q ≠ p := fun w => by
      rw [w, h1] at q1
      cases q1
    exact ⟨⟨dx, vs, by rw [upd_ne hne]; exact q1, q2.keep k⟩, q3⟩
  · have hap : a ≠ p := fun w => by
      subst w
      rcases rl.own a l hm with w | w
      · exact no w
      · rw [h0] at w
        cases w
    rw [upd_ne hap]
    exact rl.keep a o h0 no
  · rcases mem q ds hq with ⟨rfl, rfl⟩ | ⟨hne, hq⟩
    · exact rl.own q l hm
    · exact rl.own q ds hq
  · by_cases hap : q = p
    · subst hap
      exact ⟨_, upd_same⟩
    · obtain ⟨ys, w⟩ := rl.there q hq
      exact ⟨ys, by rw [upd_ne hap]; exact w⟩
inductive StoR : D → D → D → S → (S → Prop) → Prop
  | mk {p : Addr} {l : List D} {i : Int} {j n : Nat} {d : D} {s : S} {Φ : S → Prop} {ω' : List (Addr × List D)} (ha : At s.ω j (p, l)) (hn : ixN l.length i = some n) (hp : Pt s.ω j (p, l.set n d) ω') (k : Φ (@S.mk s.δ ω' s.ι)) : StoR (.ref p) (.int i) d s Φ
theorem gw_sub {vs : List Nat} {o i : Expr} (ha : ∀ v, assign (.Subscript o i pos) X.env v = (do
      let ov ← holding [v] (eval o X.env)
      let iv ← holding [v, ov] (eval i X.env)
      standAt pos
      holding [v, ov, iv] (setItem ov iv v)
      release [v, ov, iv] []) := by intro _; rfl) : GW X c vs (.Subscript o i pos) (fun d s Φ => EW X c (fun _ _ _ _ => False) s (fun d1 s1 => EW X c (fun _ _ _ _ => False) s1 (fun d2 s2 => StoR d1 d2 d s2 Φ) (fun _ _ _ => False) i) (fun _ _ _ => False) o) :=
  PG.mono (pg_sub pe_any pe_any set_list ha) fun v σ H Q ⟨τ, d, s, Φ, e0, r, kk⟩ => r.use e0 (fun v1 d1 s1 H1 h1 e1 => h1.use e1 (fun v2 d2 s2 H2 h2 e2 => by
    obtain ⟨A, z, rl⟩ := e2
    have r1 := z.tmp v1 d1 (List.mem_cons_of_mem _ List.mem_cons_self)
    have r2 := z.tmp v2 d2 List.mem_cons_self
    have r3 := z.tmp v d (List.mem_cons_of_mem _ (List.mem_cons_of_mem _ List.mem_cons_self))
    cases h2 with
    | @mk p l i j n _ _ _ ω' ha hn hp q =>
      obtain ⟨⟨xs, h1, h2⟩, _⟩ := z.own p l (List.mem_of_getElem? ha.get)
      unfold Rp at r1
      refine ⟨p, xs, i, n, r1, r2.int_, h1, by rw [RpL.len h2]; exact hn, kk _ _ _ q rfl ((SE.setO z rl ha hp (RpL.set n h2 r3)).sub fun x hx => List.mem_cons_of_mem _ (List.mem_cons_of_mem _ (List.mem_cons_of_mem _ hx)))⟩)
    fun _ _ _ _ _ z => z.elim) fun _ _ _ _ _ z => z.elim
inductive AppR : D → D → S → (S → Prop) → Prop
  | mk {p : Addr} {l : List D} {j : Nat} {d : D} {s : S} {Φ : S → Prop} {ω' : List (Addr × List D)} (ha : At s.ω j (p, l)) (hl : l.length < 16777216) (hp : Pt s.ω j (p, l ++ [d]) ω') (k : Φ (@S.mk s.δ ω' s.ι)) : AppR (.ref p) d s Φ
theorem ew_append {o : Expr} {apos : Pos} {Φ : D → S → Prop} {Ξ : PX} (h : EW X c W s (fun d1 s1 => (∃ p l, d1 = .ref p ∧ Mem s1.ω (p, l)) ∧ EW X c W s1 (fun d2 s2 => AppR d1 d2 s2 (Φ .non)) Ξ e) Ξ o)
    (hbase : attributeBase o "append" X.env (eval o X.env) = eval o X.env := by rfl)
    (hfew : ((backTo pos (starEach [e] X.env)).all (fun x => !x.1) && (backToKw pos (keywordEach [] X.env)).all (fun x => x.1.isSome) && decide (([e] : List Expr).length + ([] : List Keyword).length + (if ([] : List Keyword).isEmpty then 0 else 1) < 30)) = true := by rfl)
    (hline : (apos.endLine == pos.line) = true := by rfl) (hs : starEach [e] X.env = (false, eval e X.env) :: starEach [] X.env := by rfl) (hplain : (backTo pos (starEach [] X.env)).any (·.1) = false := by rfl) :
    EW X c W s Φ Ξ (.Call (.Attribute o "append" apos) [e] [] pos) :=
  PE.mono (pe_bm PySem.F.plainAttrs_list PySem.F.slot_list_append PySem.F.type_list_append mt_append pe_any (pa_cons pe_any pa_nil hs) hbase hfew hline hs hplain) fun σ H Q ⟨τ, e0, k, hx⟩ => h.use e0 (fun v1 d1 s1 H1 ⟨⟨p, l, ed, hm⟩, h1⟩ e1 => by
    subst ed
    obtain ⟨A, z, rl⟩ := id e1
    obtain ⟨⟨xs, q1, _⟩, _⟩ := z.own p l hm.mem
    have r1 := z.tmp v1 _ List.mem_cons_self
    unfold Rp at r1
    subst r1
    refine ⟨.inl ⟨rfl, _, SqL.of q1⟩, h1.use e1 (fun v2 d2 s2 H2 h2 e2 => ?_) fun cls x dd s' H' p q => hx cls x dd s' H' p q.pop⟩
    obtain ⟨A, z, rl⟩ := id e2
    have r2 := z.tmp v2 d2 List.mem_cons_self
    cases h2 with
    | @mk _ l j _ _ _ ω' ha hl hp q =>
      obtain ⟨⟨xs, h1, h2⟩, _⟩ := z.own p l (List.mem_of_getElem? ha.get)
      refine ⟨p, xs, v2, rfl, rfl, h1, by rw [RpL.len h2, sizeLine_eq]; exact hl, k _ _ _ _ q (SE.atom ((SE.setO z rl ha hp (h2.append (.one r2))).sub fun x hx => List.mem_cons_of_mem _ (List.mem_cons_of_mem _ hx)) rfl)⟩) hx

theorem sw_while {t : Expr} (hp : PassesOwn (model X.prog X.w) X.A X.env X.xe) (I : Nat → S → Prop) (m0 : Nat) (h0 : I m0 s)
    (hs : ∀ m s, I m s → BW X c W s (fun k s1 => (k = true → LW X c W s1 ⟨fun s' => ∃ m', m' < m ∧ I m' s', rt, nx, fun s' => ∃ m', m' < m ∧ I m' s', ex⟩ body) ∧ (k = false → nx s1)) ex t) : SW X c W s ⟨nx, rt, bk, ct, ex⟩ (.While t body [] pos) :=
  PS.mono (ps_while hp pt_any pss_any) fun E σ H ⟨τ, e0, h1, h2, h3, h4, h5⟩ => by
    refine ⟨fun m σ' H' => ∃ s', I m s' ∧ SE X.K c σ' H' s' τ, ⟨m0, s, h0, e0⟩, fun m σ' H' ⟨s', i, e1⟩ => ?_⟩
    refine (hs m s' i).use e1 (fun z s1 H1 ⟨hT, hF⟩ e2 => ?_) fun cls x dd s' H' q e1 => h5 cls x dd s' σ' H' q e1
    cases z with
    | true =>
      rw [if_pos rfl]
      refine ⟨fun σ2 H2 => ∃ m', m' < m ∧ ∃ s2, I m' s2 ∧ SE X.K c σ2 H2 s2 τ, fun _ _ ⟨m', l, q⟩ => ⟨m', l, q⟩, _, hT rfl, τ, e2, ?_, h2, ?_, ?_, h5⟩
      · exact fun s2 σ2 H2 ⟨m', l, q⟩ e3 => ⟨m', l, s2, q, e3⟩
      · exact fun s2 σ2 H2 q e3 => h1 s2 σ2 H2 q e3
      · exact fun s2 σ2 H2 ⟨m', l, q⟩ e3 => ⟨m', l, s2, q, e3⟩
    | false =>
      rw [if_neg Bool.false_ne_true]
      exact h1 s1 σ' H1 (hF rfl) e2

structure JS (K : PySem.W.Frag) (c : Cc) (l : List D) (C : S → Prop) (τ : List (V × D)) (J : It) : Prop where
  go : ∀ (i : Nat) (σ : List (Option V)) (H : Hp) (s : S), C s → SE K c σ H s τ → i < l.length → J.go i H
  stop : ∀ (i : Nat) (σ : List (Option V)) (H : Hp) (s : S), C s → SE K c σ H s τ → l.length ≤ i → J.stop i H
  yld : ∀ (i : Nat) (x : V) (σ : List (Option V)) (H H' : Hp) (s : S), C s → SE K c σ H s τ → i < l.length → J.yld i H x H' → ∃ d, l[i]? = some d ∧ SE K c σ H' s ((x, d) :: τ)
def iW (K : PySem.W.Frag) (c : Cc) (W : WX) (s : S) (Φ : List D → (S → Prop) → S → Prop) (Ξ : PX) : TI := fun σ H R => ∃ τ, SE K c σ H s τ ∧
  (∀ J l C s' H' τ', Φ l C s' → SE K c σ H' s' τ' → (∀ x ∈ τ, x ∈ τ') → JS K c l C τ' J → R J H') ∧ (∀ cls x dd s' H', Ξ cls x s' → SE K c σ H' s' τ → XR K H' x dd → W cls dd σ H')
def IW (X : Cx) (c : Cc) (W : WX) (s : S) (Φ : List D → (S → Prop) → S → Prop) (Ξ : PX) (tg iter : Expr) : Prop := PI X tg iter (iW X.K c W s Φ Ξ)
theorem PI.mono {tg iter : Expr} {t t' : TI} (h : PI X tg iter t) (m : ∀ σ H R, t' σ H R → t σ H R) : PI X tg iter t' := ⟨fun pins s σ H R I q => h.run pins s σ H R I (m _ _ _ q)⟩
inductive Sl (c : Cc) (s : S) : D → List D → Prop
  | src {d : D} {l : List D} (h : Src c s d l) : Sl c s d l
  | scr {l : List Int} : Sl c s (.scr l) (l.map D.int)
theorem Sl.rd {K : PySem.W.Frag} {A : Addr → Prop} {σ : List (Option V)} {H : Hp} {τ : List (V × D)} {d : D} {l : List D} {v : V} (h : Sl c s d l) (e : En K A σ H s τ) (rl : Rel K c A H s.ω s.ι) (r : Rp K A H d v) :
    ∃ p xs, v = .ref p ∧ SqL K H p xs ∧ RpL K A H l xs := by
  cases h with
  | src h =>
    obtain ⟨p, xs, e1, e2, e3⟩ := h.rd e rl r
    exact ⟨p, xs, e1, SqL.of e2, e3⟩
  | @scr l =>
    unfold Rp at r
    obtain ⟨p, e1, e2⟩ := r
    exact ⟨p, _, e1, e2.sq, rpl_ints l⟩
theorem js_list {K : PySem.W.Frag} {l : List D} {d : D} {p : Addr} {τ : List (V × D)} (hm : (V.ref p, d) ∈ τ) : JS K c l (fun s' => Sl c s' d l) τ (Itl K p) := by
  have key : ∀ {σ : List (Option V)} {H : Hp} {s : S}, Sl c s d l → SE K c σ H s τ → ∃ A xs, En K A σ H s τ ∧ Rel K c A H s.ω s.ι ∧ SqL K H p xs ∧ RpL K A H l xs := fun hC ⟨A, z, rl⟩ => by
    obtain ⟨q, xs, e1, e2, e3⟩ := hC.rd z rl (z.tmp _ _ hm)
    cases e1
    exact ⟨A, xs, z, rl, e2, e3⟩
  refine ⟨fun i σ H s hC e hi => ?_, fun i σ H s hC e hi => ?_, fun i x σ H H' s hC e hi hy => ?_⟩
  · obtain ⟨A, xs, z, rl, h1, h2⟩ := key hC e
    have hi' : i < xs.length := by rw [RpL.len h2]; exact hi
    exact ⟨xs, xs[i], h1, List.getElem?_eq_getElem hi'⟩
  · obtain ⟨A, xs, z, rl, h1, h2⟩ := key hC e
    exact ⟨xs, h1, by rw [RpL.len h2]; exact hi⟩
  · obtain ⟨A, xs, z, rl, h1, h2⟩ := key hC e
    obtain ⟨rfl, hy⟩ := hy
    obtain ⟨d', g1, g2⟩ := RpL.get' h2 (hy xs h1)
    exact ⟨d', g1, A, z.push g2, rl⟩
theorem js_tup {K : PySem.W.Frag} {l : List D} {p : Addr} {τ : List (V × D)} (hm : (V.ref p, D.tup l) ∈ τ) : JS K c l (fun _ => True) τ (Itt K p) := by
  have key : ∀ {σ : List (Option V)} {H : Hp} {s : S}, SE K c σ H s τ → ∃ A xs, En K A σ H s τ ∧ Rel K c A H s.ω s.ι ∧ SqT K H p xs ∧ RpL K A H l xs := fun ⟨A, z, rl⟩ => by
    have q := z.tmp _ _ hm
    unfold Rp at q
    obtain ⟨q, xs, e1, e2, e3⟩ := q
    cases e1
    exact ⟨A, xs, z, rl, SqT.of e2, e3⟩
  refine ⟨fun i σ H s _ e hi => ?_, fun i σ H s _ e hi => ?_, fun i x σ H H' s _ e hi hy => ?_⟩
  · obtain ⟨A, xs, z, rl, h1, h2⟩ := key e
    have hi' : i < xs.length := by rw [RpL.len h2]; exact hi
    exact ⟨xs, xs[i], h1, List.getElem?_eq_getElem hi'⟩
  · obtain ⟨A, xs, z, rl, h1, h2⟩ := key e
    exact ⟨xs, h1, by rw [RpL.len h2]; exact hi⟩
  · obtain ⟨A, xs, z, rl, h1, h2⟩ := key e
    obtain ⟨rfl, hy⟩ := hy
    obtain ⟨d', g1, g2⟩ := RpL.get' h2 (hy xs h1)
    exact ⟨d', g1, A, z.push g2, rl⟩
theorem iw_list {tg : Expr} {Φ : List D → (S → Prop) → S → Prop} {Ξ : PX} (h : EW X c W s (fun d s1 => ∃ l, Sl c s1 d l ∧ Φ l (fun s' => Sl c s' d l) s1) Ξ e) : IW X c W s Φ Ξ tg e :=
  PI.mono (pi_list pe_any) fun σ H R ⟨τ, e0, k, hx⟩ => h.use e0 (fun v d s1 H1 ⟨l, hs, q⟩ e1 => by
    obtain ⟨A, z, rl⟩ := id e1
    obtain ⟨p, xs, rfl, h1, h2⟩ := hs.rd z rl (z.tmp _ _ List.mem_cons_self)
    exact ⟨p, rfl, ⟨xs, h1⟩, k _ l _ s1 H1 _ q e1 (fun x hx => List.mem_cons_of_mem _ hx) (js_list List.mem_cons_self)⟩) hx
theorem iw_tup {tg : Expr} {Φ : List D → (S → Prop) → S → Prop} {Ξ : PX} (h : EW X c W s (fun d s1 => ∃ l, d = .tup l ∧ Φ l (fun _ => True) s1) Ξ e) : IW X c W s Φ Ξ tg e :=
  PI.mono (pi_tup pe_any) fun σ H R ⟨τ, e0, k, hx⟩ => h.use e0 (fun v d s1 H1 ⟨l, ed, q⟩ e1 => by
    subst ed
    obtain ⟨A, z, rl⟩ := id e1
    have r1 := z.tmp _ _ List.mem_cons_self
    unfold Rp at r1
    obtain ⟨p, xs, rfl, h1, h2⟩ := r1
    exact ⟨p, rfl, ⟨xs, SqT.of h1⟩, k _ l _ s1 H1 _ q e1 (fun x hx => List.mem_cons_of_mem _ hx) (js_tup List.mem_cons_self)⟩) hx
def rgD (lo : Int) (n : Nat) : List D := (List.range n).map fun i => D.int (lo + (i : Nat))
theorem rgD_len {lo : Int} {n : Nat} : (rgD lo n).length = n := by
  unfold rgD
  rw [List.length_map, List.length_range]
theorem rgD_get {lo : Int} {n i : Nat} (h : i < n) : (rgD lo n)[i]? = some (.int (lo + (i : Nat))) := by
  unfold rgD
  rw [List.getElem?_map, List.getElem?_range h]
  rfl
theorem js_rng {K : PySem.W.Frag} {lo : Int} {n : Nat} {τ : List (V × D)} : JS K c (rgD lo n) (fun _ => True) τ (Itr lo n) := by
  refine ⟨fun i σ H s _ e hi => ?_, fun i σ H s _ e hi => ?_, fun i x σ H H' s _ e hi hy => ?_⟩
  · rw [rgD_len] at hi
    exact hi
  · rw [rgD_len] at hi
    exact hi
  · rw [rgD_len] at hi
    obtain ⟨rfl, rfl⟩ := hy
    exact ⟨_, rgD_get hi, e.atom rfl⟩
theorem iw_range1 {tg : Expr} {p : Pos} {Φ : List D → (S → Prop) → S → Prop} {Ξ : PX} (hm : X.mg "range" = none) (h : EW X c W s (fun d s1 => ∃ j, d = .int j ∧ -(2 ^ 62) ≤ j ∧ j < 2 ^ 62 ∧ Φ (rgD 0 j.toNat) (fun _ => True) s1) Ξ a) (hg : Gl X "range" := by rfl)
    (hs : starEach [a] X.env = [(false, eval a X.env)] := by rfl) (hs' : starEach [a] X.env = (false, eval a X.env) :: starEach [] X.env := by rfl) : IW X c W s Φ Ξ tg (.Call (.Name "range" p) [a] [] pos) :=
  PI.mono (pi_range1 hg hm (pa_cons pe_any pa_nil hs') hs) fun σ H R ⟨τ, e0, k, hx⟩ => h.use e0 (fun v d s1 H1 ⟨j, ed, b1, b2, q⟩ e1 => by
    subst ed
    obtain ⟨A, r⟩ := e1.top
    rw [r.int_]
    exact ⟨j, rfl, b1, b2, k _ _ _ s1 H1 _ q e1 (fun x hx => List.mem_cons_of_mem _ hx) js_rng⟩) hx
theorem iw_range2 {tg : Expr} {p : Pos} {Φ : List D → (S → Prop) → S → Prop} {Ξ : PX} (hm : X.mg "range" = none) (h : EW X c W s (fun d1 s1 => EW X c W s1 (fun d2 s2 => ∃ i j, d1 = .int i ∧ d2 = .int j ∧ (-(2 ^ 62) ≤ i ∧ i < 2 ^ 62 ∧ -(2 ^ 62) ≤ j ∧ j < 2 ^ 62) ∧ Φ (rgD i (j - i).toNat) (fun _ => True) s2) Ξ b) Ξ a) (hg : Gl X "range" := by rfl)
    (hs : starEach [a, b] X.env = [(false, eval a X.env), (false, eval b X.env)] := by rfl) (hs2 : starEach [b] X.env = [(false, eval b X.env)] := by rfl) (hs' : starEach [a, b] X.env = (false, eval a X.env) :: starEach [b] X.env := by rfl) (hs2' : starEach [b] X.env = (false, eval b X.env) :: starEach [] X.env := by rfl) :
    IW X c W s Φ Ξ tg (.Call (.Name "range" p) [a, b] [] pos) :=
  PI.mono (pi_range2 hg hm (pa_cons pe_any (pa_cons pe_any pa_nil hs2') hs') hs hs2) fun σ H R ⟨τ, e0, k, hx⟩ => h.use e0 (fun v d s1 H1 h1 e1 => h1.use e1 (fun w f s2 H2 ⟨i, j, ed, ef, b0, q⟩ e2 => by
    subst ed ef
    obtain ⟨A, r⟩ := e2.top
    obtain ⟨B, r2⟩ := e2.top2
    rw [r.int_, r2.int_]
    exact ⟨i, j, rfl, b0, k _ _ _ s2 H2 _ q e2 (fun x hx => List.mem_cons_of_mem _ (List.mem_cons_of_mem _ hx)) js_rng⟩) fun cls x dd s' H' p q => hx cls x dd s' H' p q.pop) hx

theorem sw_for {vs : List Nat} {tg iter : Expr} {R : D → S → (S → Prop) → Prop} (hp : PassesOwn (model X.prog X.w) X.A X.env X.xe) (hc : X.calm = true) (hg : GW X c vs tg R)
    (h : IW X c W s (fun l C s1 => ∃ I : Nat → S → Prop, I 0 s1 ∧ (∀ i s', I i s' → C s') ∧ (∀ i d s', l[i]? = some d → I i s' → R d s' fun s2 => LW X c W s2 ⟨I (i + 1), rt, nx, I (i + 1), ex⟩ body) ∧ (∀ s', I l.length s' → nx s')) ex tg iter)
    (hs : ∀ x, foldedSetIterable iter X.env x = pure x := by intro _; rfl) : SW X c W s ⟨nx, rt, bk, ct, ex⟩ (.For tg iter body [] pos) :=
  PS.mono (ps_for hp hc h hg pss_any hs) fun E σ H ⟨τ, e0, h1, h2, h3, h4, h5⟩ => by
    refine ⟨τ, e0, fun J l C s1 H1 τ1 ⟨I, i0, iC, iS, iE⟩ e1 sb js => ?_, fun cls x dd s' H' q e1 => h5 cls x dd s' σ H' q e1⟩
    refine ⟨fun i m σ' H' => m = l.length - i ∧ i ≤ l.length ∧ ∃ s', I i s' ∧ SE X.K c σ' H' s' τ1, ⟨l.length, rfl, Nat.zero_le _, s1, i0, e1⟩, ?_⟩
    rintro i m σ' H' ⟨rfl, hi, s', w, e2⟩
    by_cases hlt : i < l.length
    · refine .inr ⟨js.go i σ' H' s' (iC i s' w) e2 hlt, fun σ2 H2 => ∃ s2, I (i + 1) s2 ∧ SE X.K c σ2 H2 s2 τ1, fun σ2 H2 q => ⟨l.length - (i + 1), by omega, rfl, hlt, q⟩, fun x H2 hy => ?_⟩
      obtain ⟨d, g1, e3⟩ := js.yld i x σ' H' H2 s' (iC i s' w) e2 hlt hy
      refine ⟨τ1, d, s', _, e3, iS i d s' g1 w, fun s3 σ3 H3 q _ e4 => ?_⟩
      exact ⟨_, q, τ1, e4, fun s4 σ4 H4 q4 e5 => ⟨s4, q4, e5⟩, fun v d s4 σ4 H4 q4 e5 => h2 v d s4 σ4 H4 q4 (e5.sub fun y hy => by
        rcases List.mem_cons.mp hy with hy | hy
        · rw [hy]; exact List.mem_cons_self
        · exact List.mem_cons_of_mem _ (sb y hy)),
        fun s4 σ4 H4 q4 e5 => h1 s4 σ4 H4 q4 (e5.sub sb), fun s4 σ4 H4 q4 e5 => ⟨s4, q4, e5⟩, fun cls x dd s4 σ4 H4 q4 e5 => h5 cls x dd s4 σ4 H4 q4 (e5.sub sb)⟩
    · have e : i = l.length := by omega
      subst e
      exact .inl ⟨js.stop _ σ' H' s' (iC _ s' w) e2 (Nat.le_refl _), h1 s' σ' H' (iE s' w) (e2.sub sb)⟩
end
end DL

namespace DL
open PySem PySem.Spec PyProof.Rows L2

def wipeD (δ : List (Option D)) : List Nat → List (Option D)
  | [] => δ
  | v :: vs => (wipeD δ vs).set v none
section
variable {X : Cx} {c : Cc} {W : WX} {s : S} {nx : S → Prop} {rt : D → S → Prop} {bk ct : S → Prop} {ex : PX} {e a b : Expr} {es : List Expr} {pos p0 : Pos} {σ : L2.St} {H : Hp}
theorem wipeD_get {δ : List (Option D)} {i : Nat} {d : D} : ∀ {vs : List Nat}, (wipeD δ vs)[i]? = some (some d) → δ[i]? = some (some d) ∧ i ∉ vs
  | [], h => ⟨h, by simp⟩
  | v :: vs, h => by
    have h' : ((wipeD δ vs).set v none)[i]? = some (some d) := h
    by_cases hi : v = i
    · subst hi
      by_cases hv : v < (wipeD δ vs).length
      · rw [List.getElem?_set_self hv] at h'
        cases h'
      · rw [List.getElem?_eq_none (by rw [List.length_set]; omega)] at h'
        cases h'
    · rw [List.getElem?_set_ne hi] at h'
      obtain ⟨h1, h2⟩ := wipeD_get h'
      refine ⟨h1, fun z => ?_⟩
      rcases List.mem_cons.mp z with z | z
      · exact hi z.symm
      · exact h2 z
theorem wipeD_len {δ : List (Option D)} : ∀ vs : List Nat, (wipeD δ vs).length = δ.length
  | [] => rfl
  | v :: vs => by
    show ((wipeD δ vs).set v none).length = _
    rw [List.length_set, wipeD_len vs]
def slotT (σ : List (Option V)) (δ : List (Option D)) : List (V × D) := (σ.zip δ).filterMap fun q => match q.1, q.2 with
  | some v, some d => some (v, d)
  | _, _ => none
theorem slotT_mem {σ : List (Option V)} {δ : List (Option D)} {i : Nat} {v : V} {d : D} (h1 : σ[i]? = some (some v)) (h2 : δ[i]? = some (some d)) : (v, d) ∈ slotT σ δ := by
  refine List.mem_filterMap.mpr ⟨(some v, some d), ?_, rfl⟩
  refine List.mem_of_getElem? (i := i) ?_
  rw [List.getElem?_zip_eq_some]
  exact ⟨h1, h2⟩
theorem slotT_of {σ : List (Option V)} {δ : List (Option D)} {v : V} {d : D} (h : (v, d) ∈ slotT σ δ) : ∃ i : Nat, σ[i]? = some (some v) ∧ δ[i]? = some (some d) := by
  obtain ⟨q, h1, h2⟩ := List.mem_filterMap.mp h
  obtain ⟨i, hi⟩ := List.mem_iff_getElem?.mp h1
  rw [List.getElem?_zip_eq_some] at hi
  obtain ⟨q1, q2⟩ := q
  obtain ⟨g1, g2⟩ := hi
  dsimp only at g1 g2 h2
  cases q1 with
  | none => cases h2
  | some v' =>
    cases q2 with
    | none => cases h2
    | some d' =>
      cases h2
      exact ⟨i, g1, g2⟩
theorem SE.keepSlots {K : PySem.W.Frag} {τ : List (V × D)} {σ : List (Option V)} (e : SE K c σ H s τ) : SE K c σ H s (slotT σ s.δ ++ τ) := by
  obtain ⟨A, z, rl⟩ := e
  refine ⟨A, ⟨z.slots, z.len, z.own, z.nd, fun v d hv => ?_, z.dom, z.ins, z.ndi⟩, rl⟩
  rcases List.mem_append.mp hv with hv | hv
  · obtain ⟨i, h1, h2⟩ := slotT_of hv
    obtain ⟨v', g1, g2⟩ := z.slots i d h2
    rw [h1] at g1
    cases g1
    exact g2
  · exact z.tmp v d hv
theorem SE.backSlots {K : PySem.W.Frag} {τ : List (V × D)} {σ σ2 : List (Option V)} {δ δ2 : List (Option D)} {ω : List (Addr × List D)} {ι : Is} (e : SE K c σ2 H (@S.mk δ2 ω ι) (slotT σ δ ++ τ)) (hl : σ.length = δ.length) (hs : ∀ (i : Nat) (d : D), δ[i]? = some (some d) → ∃ v, σ[i]? = some (some v)) :
    SE K c σ H (@S.mk δ ω ι) (slotT σ δ ++ τ) := by
  obtain ⟨A, z, rl⟩ := e
  refine ⟨A, ⟨fun i d hd => ?_, hl, z.own, z.nd, z.tmp, z.dom, z.ins, z.ndi⟩, rl⟩
  obtain ⟨v, hv⟩ := hs i d hd
  exact ⟨v, hv, z.tmp v d (List.mem_append_left _ (slotT_mem hv hd))⟩
theorem SE.wipe {K : PySem.W.Frag} {τ : List (V × D)} {σ : List (Option V)} (e : SE K c σ H s τ) (vs : List Nat) : SE K c (L2.wipe σ vs) H (@S.mk (wipeD s.δ vs) s.ω s.ι) τ := by
  obtain ⟨A, z, rl⟩ := e
  have key : ∀ (vs : List Nat) (i : Nat), i ∉ vs → (L2.wipe σ vs)[i]? = σ[i]? := fun vs i hi => wipe_out hi
  refine ⟨A, ⟨fun i d hd => ?_, by rw [wipe_length, wipeD_len]; exact z.len, z.own, z.nd, z.tmp, z.dom, z.ins, z.ndi⟩, rl⟩
  obtain ⟨h1, h2⟩ := wipeD_get hd
  obtain ⟨v, g1, g2⟩ := z.slots i d h1
  exact ⟨v, (key vs i h2).trans g1, g2⟩

def TsW (X : Cx) (c : Cc) (W : WX) (s : S) (Φb : Bool → S → Prop) (Ξ : PX) (ifs : List Expr) : Prop := PTs X ifs (tB2 X.K c W s Φb Ξ)
theorem PTs.mono {ifs : List Expr} {t t' : TT} (h : PTs X ifs t) (m : ∀ σ H Q, t' σ H Q → t σ H Q) : PTs X ifs t' := ⟨fun pins s σ H Q I q => h.run pins s σ H Q I (m _ _ _ q)⟩
theorem ts_nil {Φb : Bool → S → Prop} {Ξ : PX} (k : Φb true s) : TsW X c W s Φb Ξ [] := PTs.mono pts_nil fun σ H Q ⟨τ, e0, q, _⟩ => q true s H k e0
theorem ts_one {Φb : Bool → S → Prop} {Ξ : PX} (h : BW X c W s Φb Ξ e) : TsW X c W s Φb Ξ [e] := pts_one h

abbrev WF : WX := fun _ _ _ _ => False
abbrev XF : PX := fun _ _ _ => False
def blkE (X : Cx) (scope : Scope) (e : Expr) : TE := fun σ H Q => ∃ t, (∀ (s : Shared) (H : Hp) (C : Addr) (cl : List (Str × Addr)) (fp : List Addr), PE (X.blk s H scope (compEnvC scope cl C X.env) fp) e t) ∧ t σ H Q
def blkT (X : Cx) (scope : Scope) (ifs : List Expr) : TT := fun σ H Q => ∃ t, (∀ (s : Shared) (H : Hp) (C : Addr) (cl : List (Str × Addr)) (fp : List Addr), PTs (X.blk s H scope (compEnvC scope cl C X.env) fp) ifs t) ∧ t σ H Q
def gR (K : PySem.W.Frag) (c : Cc) (vs : List Nat) (R : D → S → (S → Prop) → Prop) : TG := fun v σ H Q => ∃ τ d s Φ, SE K c σ H s ((v, d) :: τ) ∧ R d s Φ ∧ ∀ s' σ' H', Φ s' → wipe σ' vs = wipe σ vs → SE K c σ' H' s' τ → Q σ' H'
def LcTurn (X : Cx) (c : Cc) (scope : Scope) (vs : List Nat) (R : D → S → (S → Prop) → Prop) (ifs : List Expr) (elt : Expr) (δ : List (Option D)) (I : Nat → List D → List (Addr × List D) → Is → Prop) (i : Nat) (d : D) (acc : List D) (ω : List (Addr × List D)) (ι : Is) (p : Addr) : Prop :=
  R d (@S.mk (wipeD δ vs) ((p, acc) :: ω) ι) fun s2 => ∀ (s0 : Shared) (H0 : Hp) (C : Addr) (cl : List (Str × Addr)) (fp : List Addr), TsW (X.blk s0 H0 scope (compEnvC scope cl C X.env) fp) c WF s2 (fun k s3 =>
    (k = true → ∀ (s0 : Shared) (H0 : Hp) (C : Addr) (cl : List (Str × Addr)) (fp : List Addr), EW (X.blk s0 H0 scope (compEnvC scope cl C X.env) fp) c WF s3 (fun y s4 => acc.length < 16777216 ∧ ∃ ω4, s4.ω = (p, acc) :: ω4 ∧ I (i + 1) (acc ++ [y]) ω4 s4.ι) XF elt) ∧
    (k = false → ∃ ω4, s3.ω = (p, acc) :: ω4 ∧ I (i + 1) acc ω4 s3.ι)) XF ifs
theorem lc_turns {scope : Scope} {vs : List Nat} {R : D → S → (S → Prop) → Prop} {ifs : List Expr} {elt : Expr} {τ : List (V × D)} {Q : VK} {σ : List (Option V)} {J : It} {l : List D} {C : S → Prop} {I : Nat → List D → List (Addr × List D) → Is → Prop}
    (e0 : SE X.K c σ H s τ) (js : JS X.K c l C τ J) (i0 : I 0 [] s.ω s.ι) (iC : ∀ i acc ω ι p δ, I i acc ω ι → C (@S.mk δ ((p, acc) :: ω) ι))
    (iS : ∀ i d acc ω ι p, l[i]? = some d → I i acc ω ι → p ∉ c.O0 → LcTurn X c scope vs R ifs elt s.δ I i d acc ω ι p)
    (iE : ∀ acc ω ι p H', I l.length acc ω ι → p ∉ c.O0 → SE X.K c σ H' (@S.mk s.δ ((p, acc) :: ω) ι) ((.ref p, .ref p) :: τ) → Q (.ref p) H') :
    ∀ Dp, H Dp = none → ∃ W : Nat → Nat → Hp → Prop, (∃ m, W 0 m (upd H Dp (.lst []))) ∧ ∀ i m H, W i m H →
      (J.stop i H ∧ Q (.ref Dp) H) ∨ (J.go i H ∧ ∃ Nx : Hp → Prop, (∀ H', Nx H' → ∃ m', m' < m ∧ W (i + 1) m' H') ∧ ∀ x H', J.yld i H x H' → gR X.K c vs R x (wipe σ vs) H' fun σ2 H2 => wipe σ2 vs = wipe σ vs ∧ blkT X scope ifs σ2 H2 fun b H3 =>
        if b = true then blkE X scope elt σ2 H3 fun y H4 => ∃ acc, H4 Dp = some (.lst acc) ∧ acc.length < sizeLine ∧ Nx (upd H4 Dp (.lst (acc ++ [y]))) else Nx H3) := by
  intro p hn
  have hlen : σ.length = s.δ.length := by
    obtain ⟨A, z, _⟩ := e0
    exact z.len
  have hsl : ∀ (i : Nat) (d : D), s.δ[i]? = some (some d) → ∃ v, σ[i]? = some (some v) := fun i d hd => by
    obtain ⟨A, z, _⟩ := e0
    obtain ⟨v, hv, _⟩ := z.slots i d hd
    exact ⟨v, hv⟩
  obtain ⟨A0, z0, rl0⟩ := id e0
  have np : p ∉ c.O0 := fun w => by
    obtain ⟨ys, q⟩ := rl0.there p w
    rw [hn] at q
    cases q
  have first : SE X.K c σ (upd H p (.lst [])) (@S.mk s.δ ((p, []) :: s.ω) s.ι) ((.ref p, .ref p) :: (slotT σ s.δ ++ τ)) := by
    obtain ⟨A, z, rl⟩ := e0.keepSlots
    exact SE.newL z rl hn RpL.nil
  refine ⟨fun i m H' => m = l.length - i ∧ i ≤ l.length ∧ ∃ acc ω ι, I i acc ω ι ∧ SE X.K c σ H' (@S.mk s.δ ((p, acc) :: ω) ι) ((.ref p, .ref p) :: (slotT σ s.δ ++ τ)), ⟨l.length, rfl, Nat.zero_le _, [], s.ω, s.ι, i0, first⟩, ?_⟩
  rintro i m H' ⟨rfl, hi, acc, ω, ι, w, e1⟩
  have toT : ∀ x ∈ τ, x ∈ (V.ref p, D.ref p) :: (slotT σ s.δ ++ τ) := fun x hx => List.mem_cons_of_mem _ (List.mem_append_right _ hx)
  by_cases hlt : i < l.length
  · refine .inr ⟨js.go i σ H' _ (iC i acc ω ι p s.δ w) (e1.sub toT) hlt, fun H2 => ∃ acc2 ω2 ι2, I (i + 1) acc2 ω2 ι2 ∧ SE X.K c σ H2 (@S.mk s.δ ((p, acc2) :: ω2) ι2) ((.ref p, .ref p) :: (slotT σ s.δ ++ τ)), fun H2 q => ⟨l.length - (i + 1), by omega, rfl, hlt, q⟩, fun x H2 hy => ?_⟩
    -- the iterator's step, all else kept on the way
    have js2 : ∃ d, l[i]? = some d ∧ SE X.K c σ H2 (@S.mk s.δ ((p, acc) :: ω) ι) ((x, d) :: ((.ref p, .ref p) :: (slotT σ s.δ ++ τ))) := by
      obtain ⟨d, g1, A, z, rl⟩ := js.yld i x σ H' H2 _ (iC i acc ω ι p s.δ w) (e1.sub toT) hlt hy
      refine ⟨d, g1, A, ⟨z.slots, z.len, z.own, z.nd, fun v f hv => ?_, z.dom, z.ins, z.ndi⟩, rl⟩
      rcases List.mem_cons.mp hv with hv | hv
      · exact z.tmp v f (hv ▸ List.mem_cons_self)
      · rcases List.mem_cons.mp hv with hv | hv
        · cases hv
          unfold Rp
          rfl
        · rcases List.mem_append.mp hv with hv | hv
          · obtain ⟨n, h1, h2⟩ := slotT_of hv
            obtain ⟨v', g2, g3⟩ := z.slots n f h2
            rw [h1] at g2
            cases g2
            exact g3
          · exact z.tmp v f (List.mem_cons_of_mem _ hv)
    obtain ⟨d, g1, e2⟩ := js2
    have e3 := SE.wipe e2 vs
    refine ⟨_, d, _, _, e3, iS i d acc ω ι p g1 w np, fun s2 σ2 H3 q wq e4 => ⟨?_, ?_⟩⟩
    · rw [wq]
      have key : ∀ vs : List Nat, wipe (wipe σ vs) vs = wipe σ vs := fun vs => by
        refine List.ext_getElem? fun n => ?_
        by_cases hn : n ∈ vs
        · have h1 : ∀ (σ : List (Option V)), (wipe σ vs)[n]? = if n < σ.length then some none else none := fun σ => by
            have z : ∀ (ws : List Nat), n ∈ ws → (wipe σ ws)[n]? = if n < σ.length then some none else none := by
              intro ws
              induction ws with
              | nil => intro h; cases h
              | cons v ws ih =>
                intro h
                show ((wipe σ ws).set v none)[n]? = _
                by_cases hv : v = n
                · subst hv
                  by_cases hl : v < σ.length
                  · rw [List.getElem?_set_self (by rw [wipe_length]; exact hl), if_pos hl]
                  · rw [List.getElem?_eq_none (by rw [List.length_set, wipe_length]; omega), if_neg hl]
                · rw [List.getElem?_set_ne hv]
                  exact ih ((List.mem_cons.mp h).elim (fun q => absurd q.symm hv) id)
            exact z vs hn
          rw [h1, h1, wipe_length]
        · rw [wipe_out hn]
      exact key vs
    · refine ⟨tB2 X.K c WF s2 _ XF, q, _, e4, fun k s3 H4 ⟨hT, hF⟩ e5 => ?_, fun _ _ _ _ _ z => z.elim⟩
      cases k with
      | true =>
        rw [if_pos rfl]
        refine ⟨tW X.K c WF s3 _ XF, hT rfl, _, e5, fun y f s4 H5 ⟨hl, ω4, ew, w2⟩ e6 => ?_, fun _ _ _ _ _ z => z.elim⟩
        obtain @⟨δ4, o4, ι4⟩ := s4
        dsimp only at ew
        subst ew
        obtain ⟨A, z, rl⟩ := e6
        obtain ⟨⟨xs, h1, h2⟩, _⟩ := z.own p acc List.mem_cons_self
        have ry := z.tmp y f List.mem_cons_self
        refine ⟨xs, h1, by rw [RpL.len h2, sizeLine_eq]; exact hl, acc ++ [f], ω4, ι4, w2, ?_⟩
        have e7 := SE.setO (s := @S.mk δ4 ((p, acc) :: ω4) ι4) z rl At.z Pt.z (h2.append (.one ry))
        have e8 := (e7.sub (τ' := slotT σ s.δ ++ ((.ref p, .ref p) :: τ)) fun x hx => by
          rcases List.mem_append.mp hx with hx | hx
          · exact List.mem_cons_of_mem _ (List.mem_cons_of_mem _ (List.mem_append_left _ hx))
          · rcases List.mem_cons.mp hx with hx | hx
            · rw [hx]; exact List.mem_cons_of_mem _ List.mem_cons_self
            · exact List.mem_cons_of_mem _ (List.mem_cons_of_mem _ (List.mem_append_right _ hx))).backSlots hlen hsl
        exact e8.sub fun x hx => by
          rcases List.mem_cons.mp hx with hx | hx
          · rw [hx]; exact List.mem_append_right _ List.mem_cons_self
          · rcases List.mem_append.mp hx with hx | hx
            · exact List.mem_append_left _ hx
            · exact List.mem_append_right _ (List.mem_cons_of_mem _ hx)
      | false =>
        rw [if_neg Bool.false_ne_true]
        obtain ⟨ω4, ew, w2⟩ := hF rfl
        obtain @⟨δ3, o3, ι3⟩ := s3
        dsimp only at ew
        subst ew
        refine ⟨acc, ω4, ι3, w2, ?_⟩
        have e8 := (e5.sub (τ' := slotT σ s.δ ++ ((.ref p, .ref p) :: τ)) fun x hx => by
          rcases List.mem_append.mp hx with hx | hx
          · exact List.mem_cons_of_mem _ (List.mem_append_left _ hx)
          · rcases List.mem_cons.mp hx with hx | hx
            · rw [hx]; exact List.mem_cons_self
            · exact List.mem_cons_of_mem _ (List.mem_append_right _ hx)).backSlots hlen hsl
        exact e8.sub fun x hx => by
          rcases List.mem_cons.mp hx with hx | hx
          · rw [hx]; exact List.mem_append_right _ List.mem_cons_self
          · rcases List.mem_append.mp hx with hx | hx
            · exact List.mem_append_left _ hx
            · exact List.mem_append_right _ (List.mem_cons_of_mem _ hx)
  · have e : i = l.length := by omega
    subst e
    exact .inl ⟨js.stop _ σ H' _ (iC _ acc ω ι p s.δ w) (e1.sub toT) (Nat.le_refl _), iE acc ω ι p H' w np (e1.sub fun x hx => by
      rcases List.mem_cons.mp hx with hx | hx
      · rw [hx]; exact List.mem_cons_self
      · exact toT x hx)⟩

def LcPost (X : Cx) (c : Cc) (scope : Scope) (vs : List Nat) (R : D → S → (S → Prop) → Prop) (ifs : List Expr) (elt : Expr) (Φ : D → S → Prop) (l : List D) (C : S → Prop) (s1 : S) : Prop := ∃ I : Nat → List D → List (Addr × List D) → Is → Prop,
  I 0 [] s1.ω s1.ι ∧ (∀ i acc ω ι p δ, I i acc ω ι → C (@S.mk δ ((p, acc) :: ω) ι)) ∧ (∀ i d acc ω ι p, l[i]? = some d → I i acc ω ι → p ∉ c.O0 → LcTurn X c scope vs R ifs elt s1.δ I i d acc ω ι p) ∧ (∀ acc ω ι p, I l.length acc ω ι → p ∉ c.O0 → Φ (.ref p) (@S.mk s1.δ ((p, acc) :: ω) ι))
theorem ew_lcO {own : List (Str × Nat)} {R : D → S → (S → Prop) → Prop} {tg iter elt : Expr} {ifs : List Expr} {scope : Scope} {Φ : D → S → Prop} {Ξ : PX} (hc : X.calm = true) (hN : X.N.Nodup) (ok : BlkOk X.N X.env.scope scope own)
    (hg : ∀ (s0 : Shared) (H0 : Hp) (C : Addr) (cl : List (Str × Addr)) (fp : List Addr), GW (X.blk s0 H0 scope (compEnvC scope cl C X.env) fp) c (own.map fun q : Str × Nat => q.2) tg R)
    (h : IW X c W s (LcPost X c scope (own.map fun q : Str × Nat => q.2) R ifs elt Φ) Ξ tg iter) (hs : ∀ x, foldedSetIterable iter X.env x = pure x := by intro _; rfl) : EW X c W s Φ Ξ (.ListComp elt [⟨tg, iter, ifs, 0⟩] scope pos) :=
  PE.mono (pe_lc hc hN h ok (g := gR X.K c (own.map fun q : Str × Nat => q.2) R) (tt := blkT X scope ifs) (te := blkE X scope elt) hg (fun s0 H0 C cl fp => ⟨fun pins s σ H Q I ⟨t, ht, q⟩ => (ht s0 H0 C cl fp).run pins s σ H Q I q⟩)
    (fun s0 H0 C cl fp => ⟨fun pins s σ H Q I ⟨t, ht, q⟩ => (ht s0 H0 C cl fp).run pins s σ H Q I q⟩) hs) fun σ H Q ⟨τ, e0, k, hx⟩ =>
      ⟨τ, e0, fun J l C s1 H1 τ1 ⟨I, i0, iC, iS, iE⟩ e1 sb js => lc_turns e1 js i0 iC iS fun acc ω ι p H' w np e2 => k _ _ _ H' (iE acc ω ι p w np) (e2.sub fun x hx => by
        rcases List.mem_cons.mp hx with hx | hx
        · rw [hx]; exact List.mem_cons_self
        · exact List.mem_cons_of_mem _ (sb x hx)), hx⟩
theorem sw_setLcO {i : Nat} {y : Str} {py' : Pos} {own : List (Str × Nat)} {R : D → S → (S → Prop) → Prop} {tg iter elt : Expr} {ifs : List Expr} {scope : Scope} (hc : X.calm = true) (hN : X.N.Nodup) (ok : BlkOk X.N X.env.scope scope own)
    (hg : ∀ (s0 : Shared) (H0 : Hp) (C : Addr) (cl : List (Str × Addr)) (fp : List Addr), GW (X.blk s0 H0 scope (compEnvC scope cl C X.env) fp) c (own.map fun q : Str × Nat => q.2) tg R)
    (h : IW X c W s (LcPost X c scope (own.map fun q : Str × Nat => q.2) R ifs elt (fun d s1 => ∃ δ', Pt s1.δ i (some d) δ' ∧ nx (@S.mk δ' s1.ω s1.ι))) ex tg iter) (hy : X.N[i]? = some y := by rfl) (hyl : X.env.scope.names.lookup y = some .local := by rfl)
    (hsw : swapsWith (.ListComp elt [⟨tg, iter, ifs, 0⟩] scope p0) (some (.Name y py')) pos.line X.env = pure true := by exact sw_true rfl rfl rfl (by decide +kernel)) (hs : ∀ x, foldedSetIterable iter X.env x = pure x := by intro _; rfl) :
    SW X c W s ⟨nx, rt, bk, ct, ex⟩ (.Assign [.Name y py'] (.ListComp elt [⟨tg, iter, ifs, 0⟩] scope p0) pos) :=
  PS.mono (ps_setLc hc hN hy hyl hsw h ok (g := gR X.K c (own.map fun q : Str × Nat => q.2) R) (tt := blkT X scope ifs) (te := blkE X scope elt) hg (fun s0 H0 C cl fp => ⟨fun pins s σ H Q I ⟨t, ht, q⟩ => (ht s0 H0 C cl fp).run pins s σ H Q I q⟩)
    (fun s0 H0 C cl fp => ⟨fun pins s σ H Q I ⟨t, ht, q⟩ => (ht s0 H0 C cl fp).run pins s σ H Q I q⟩) hs) fun E σ H ⟨τ, e0, h1, h2, h3, h4, h5⟩ =>
      ⟨τ, e0, fun J l C s1 H1 τ1 ⟨I, i0, iC, iS, iE⟩ e1 sb js => lc_turns (Q := fun v H' => gName i v σ H' E.nx) e1 js i0 iC iS fun acc ω ι p H' w np e2 => by
        obtain ⟨δ', hp, q⟩ := iE acc ω ι p w np
        exact h1 _ _ H' q (SE.put (e2.sub fun x hx => by
          rcases List.mem_cons.mp hx with hx | hx
          · rw [hx]; exact List.mem_cons_self
          · exact List.mem_cons_of_mem _ (sb x hx)) hp), fun cls x dd s' H' q e1 => h5 cls x dd s' σ H' q e1⟩

theorem js_zip {K : PySem.W.Frag} {l m : List D} {d f : D} {p q : Addr} {τ : List (V × D)} (hm : (V.ref p, d) ∈ τ) (hm2 : (V.ref q, f) ∈ τ) : JS K c ((l.zip m).map fun z => D.tup [z.1, z.2]) (fun s' => Sl c s' d l ∧ Sl c s' f m) τ (Itz K p q) := by
  have key : ∀ {σ : List (Option V)} {H : Hp} {s : S}, (Sl c s d l ∧ Sl c s f m) → SE K c σ H s τ → ∃ A xs ys, En K A σ H s τ ∧ Rel K c A H s.ω s.ι ∧ SqL K H p xs ∧ RpL K A H l xs ∧ SqL K H q ys ∧ RpL K A H m ys := fun ⟨hC, hD⟩ ⟨A, z, rl⟩ => by
    obtain ⟨_, xs, e1, e2, e3⟩ := hC.rd z rl (z.tmp _ _ hm)
    obtain ⟨_, ys, g1, g2, g3⟩ := hD.rd z rl (z.tmp _ _ hm2)
    cases e1
    cases g1
    exact ⟨A, xs, ys, z, rl, e2, e3, g2, g3⟩
  have ln : ((l.zip m).map fun z => D.tup [z.1, z.2]).length = min l.length m.length := by rw [List.length_map, List.length_zip]
  refine ⟨fun i σ H s hC e hi => ?_, fun i σ H s hC e hi => ?_, fun i x σ H H' s hC e hi hy => ?_⟩
  · obtain ⟨A, xs, ys, z, rl, h1, h2, h3, h4⟩ := key hC e
    rw [ln] at hi
    have hi1 : i < xs.length := by rw [RpL.len h2]; omega
    have hi2 : i < ys.length := by rw [RpL.len h4]; omega
    exact ⟨xs, ys, xs[i], ys[i], h1, h3, List.getElem?_eq_getElem hi1, List.getElem?_eq_getElem hi2⟩
  · obtain ⟨A, xs, ys, z, rl, h1, h2, h3, h4⟩ := key hC e
    rw [ln] at hi
    refine ⟨xs, ys, h1, h3, ?_⟩
    rw [RpL.len h2, RpL.len h4]
    omega
  · obtain ⟨A, xs, ys, z, rl, h1, h2, h3, h4⟩ := key hC e
    obtain ⟨T, x1, y1, rfl, hT, rfl, hx, hy⟩ := hy
    obtain ⟨d1, g1, g2⟩ := RpL.get' h2 (hx xs h1)
    obtain ⟨d2, g3, g4⟩ := RpL.get' h4 (hy ys h3)
    refine ⟨.tup [d1, d2], ?_, SE.newT z rl hT (RpL.cons g2 (.one g4))⟩
    have e2 : (l.zip m)[i]? = some (d1, d2) := List.getElem?_zip_eq_some.mpr ⟨g1, g3⟩
    rw [List.getElem?_map, e2]
    rfl
theorem iw_zip {p tpos : Pos} {kk : Nat} {elts : List Expr} {Φ : List D → (S → Prop) → S → Prop} {Ξ : PX} (hm : X.mg "zip" = none)
    (h : EW X c W s (fun d1 s1 => EW X c W s1 (fun d2 s2 => ∃ l m, Sl c s2 d1 l ∧ Sl c s2 d2 m ∧ Φ ((l.zip m).map fun z => D.tup [z.1, z.2]) (fun s' => Sl c s' d1 l ∧ Sl c s' d2 m) s2) Ξ b) Ξ a) (hg : Gl X "zip" := by rfl)
    (hs : starEach [a, b] X.env = (false, eval a X.env) :: starEach [b] X.env := by rfl) (hs2 : starEach [b] X.env = (false, eval b X.env) :: starEach [] X.env := by rfl) (hpl : (backTo pos (starEach [b] X.env)).any (·.1) = false := by rfl) :
    IW X c W s Φ Ξ (.Tuple elts kk tpos) (.Call (.Name "zip" p) [a, b] [] pos) :=
  PI.mono (pi_zip hg hm (pa_cons pe_any (pa_cons pe_any pa_nil hs2) hs) hs hpl) fun σ H R ⟨τ, e0, k, hx⟩ => h.use e0 (fun v d1 s1 H1 h1 e1 => h1.use e1 (fun w d2 s2 H2 ⟨l, m, hl, hm, q⟩ e2 => by
    obtain ⟨A, z, rl⟩ := id e2
    obtain ⟨q2, ys, rfl, g1, g2⟩ := hm.rd z rl (z.tmp _ _ List.mem_cons_self)
    obtain ⟨q1, xs, rfl, f1, f2⟩ := hl.rd z rl (z.tmp _ _ (List.mem_cons_of_mem _ List.mem_cons_self))
    exact ⟨q1, q2, xs, ys, rfl, f1, g1, k _ _ _ s2 H2 _ q e2 (fun x hx => List.mem_cons_of_mem _ (List.mem_cons_of_mem _ hx)) (js_zip (List.mem_cons_of_mem _ List.mem_cons_self) List.mem_cons_self)⟩) fun cls x dd s' H' p q => hx cls x dd s' H' p q.pop) hx
theorem js_enum {K : PySem.W.Frag} {l : List D} {d : D} {p : Addr} {τ : List (V × D)} (hm : (V.ref p, d) ∈ τ) : JS K c ((l.zipIdx).map fun z => D.tup [.int (z.2 : Nat), z.1]) (fun s' => Sl c s' d l) τ (Ite K p) := by
  have key : ∀ {σ : List (Option V)} {H : Hp} {s : S}, Sl c s d l → SE K c σ H s τ → ∃ A xs, En K A σ H s τ ∧ Rel K c A H s.ω s.ι ∧ SqL K H p xs ∧ RpL K A H l xs := fun hC ⟨A, z, rl⟩ => by
    obtain ⟨_, xs, e1, e2, e3⟩ := hC.rd z rl (z.tmp _ _ hm)
    cases e1
    exact ⟨A, xs, z, rl, e2, e3⟩
  have ln : ((l.zipIdx).map fun z => D.tup [.int (z.2 : Nat), z.1]).length = l.length := by rw [List.length_map, List.length_zipIdx]
  refine ⟨fun i σ H s hC e hi => ?_, fun i σ H s hC e hi => ?_, fun i x σ H H' s hC e hi hy => ?_⟩
  · obtain ⟨A, xs, z, rl, h1, h2⟩ := key hC e
    rw [ln] at hi
    have hi1 : i < xs.length := by rw [RpL.len h2]; omega
    exact ⟨xs, xs[i], h1, List.getElem?_eq_getElem hi1⟩
  · obtain ⟨A, xs, z, rl, h1, h2⟩ := key hC e
    rw [ln] at hi
    exact ⟨xs, h1, by rw [RpL.len h2]; exact hi⟩
  · obtain ⟨A, xs, z, rl, h1, h2⟩ := key hC e
    obtain ⟨T, x1, rfl, hT, rfl, hx⟩ := hy
    obtain ⟨d1, g1, g2⟩ := RpL.get' h2 (hx xs h1)
    refine ⟨.tup [.int (i : Nat), d1], ?_, SE.newT z rl hT (RpL.cons (by unfold Rp; rfl) (.one g2))⟩
    rw [List.getElem?_map, List.getElem?_zipIdx, g1]
    simp
theorem iw_enum {p tpos : Pos} {kk : Nat} {elts : List Expr} {Φ : List D → (S → Prop) → S → Prop} {Ξ : PX} (hm : X.mg "enumerate" = none)
    (h : EW X c W s (fun d1 s1 => ∃ l, Sl c s1 d1 l ∧ Φ ((l.zipIdx).map fun z => D.tup [.int (z.2 : Nat), z.1]) (fun s' => Sl c s' d1 l) s1) Ξ a) (hg : Gl X "enumerate" := by rfl)
    (hs : starEach [a] X.env = [(false, eval a X.env)] := by rfl) (hs' : starEach [a] X.env = (false, eval a X.env) :: starEach [] X.env := by rfl) :
    IW X c W s Φ Ξ (.Tuple elts kk tpos) (.Call (.Name "enumerate" p) [a] [] pos) :=
  PI.mono (pi_enum hg hm (pa_cons pe_any pa_nil hs') hs) fun σ H R ⟨τ, e0, k, hx⟩ => h.use e0 (fun v d1 s1 H1 ⟨l, hl, q⟩ e1 => by
    obtain ⟨A, z, rl⟩ := id e1
    obtain ⟨q1, xs, rfl, f1, f2⟩ := hl.rd z rl (z.tmp _ _ List.mem_cons_self)
    exact ⟨q1, xs, rfl, f1, k _ _ _ s1 H1 _ q e1 (fun x hx => List.mem_cons_of_mem _ hx) (js_enum List.mem_cons_self)⟩) hx

inductive LrR (c : Cc) : D → D → S → (D → S → Prop) → Prop
  | mk {i j : Int} {s : S} {Φ : D → S → Prop} (h : RgOk i j) (k : ∀ p, p ∉ c.O0 → Φ (.ref p) (@S.mk s.δ ((p, rgD i (j - i).toNat) :: s.ω) s.ι)) : LrR c (.int i) (.int j) s Φ
theorem rpl_rg {K : PySem.W.Frag} {A : Addr → Prop} {i j : Int} : RpL K A H (rgD i (j - i).toNat) (rgV i j) := by
  have key : ∀ l : List Nat, RpL K A H (l.map fun n => D.int (i + (n : Nat))) (l.map fun n => V.int (i + (n : Nat))) := fun l => by
    induction l with
    | nil => exact RpL.nil
    | cons n l ih => exact RpL.cons (by unfold Rp; rfl) ih
  exact key _
theorem ew_listRg2 {p p2 pos2 : Pos} {Φ : D → S → Prop} {Ξ : PX} (hc : X.calm = true) (hm : X.mg "list" = none) (hr : X.mg "range" = none) (h : EW X c W s (fun d1 s1 => EW X c W s1 (fun d2 s2 => LrR c d1 d2 s2 Φ) Ξ b) Ξ a) (hg : Gl X "list" := by rfl) (hgr : Gl X "range" := by rfl)
    (na : starEach [a, b] X.env = (false, eval a X.env) :: starEach [b] X.env := by rfl) (nb : starEach [b] X.env = (false, eval b X.env) :: starEach [] X.env := by rfl) (np : (backTo pos2 (starEach [b] X.env)).any (·.1) = false := by rfl)
    (nc : starEach [.Call (.Name "range" p2) [a, b] [] pos2] X.env = (false, eval (.Call (.Name "range" p2) [a, b] [] pos2) X.env) :: starEach [] X.env := by rfl) : EW X c W s Φ Ξ (.Call (.Name "list" p) [.Call (.Name "range" p2) [a, b] [] pos2] [] pos) :=
  PE.mono (pe_listRg hc hg hm (prg_2 hgr hr pe_any pe_any na nb np) nc) fun σ H Q ⟨τ, e0, k, hx⟩ => h.use e0 (fun v1 d1 s1 H1 h1 e1 => h1.use e1 (fun v2 d2 s2 H2 h2 e2 => by
    obtain ⟨A, r1⟩ := e2.top2
    obtain ⟨B, r2⟩ := e2.top
    cases h2 with
    | @mk i j _ _ ok q =>
      obtain ⟨A, z, rl⟩ := e2
      refine ⟨i, j, r1.int_, r2.int_, ok, fun p n => ?_⟩
      have np : p ∉ c.O0 := fun w => by
        obtain ⟨ys, q⟩ := rl.there p w
        rw [n] at q
        cases q
      exact k _ _ _ _ (q p np) ((SE.newL z rl n rpl_rg).sub fun x hx => (List.mem_cons.mp hx).elim (fun z => z ▸ List.mem_cons_self) fun z => List.mem_cons_of_mem _ (List.mem_cons_of_mem _ (List.mem_cons_of_mem _ z)))) fun cls x dd s' H' p q => hx cls x dd s' H' p q.pop) hx
end
end DL

namespace DL
open PySem PySem.Spec PyProof.Rows L2

inductive Rs where
  | ok (d : D) | own (l : List D) | exc (cls : Value) (x : XD)

def RpB (K : PySem.W.Frag) (A : Addr → Prop) (H : Hp) (b : Bool) (d : D) (v : V) : Prop :=
  Rp K A H d v ∨ (b = true ∧ ∃ p xs l, v = .ref p ∧ d = .lst l ∧ H p = some (.lst xs) ∧ RpL K A H l xs)
def RpBs (K : PySem.W.Frag) (A : Addr → Prop) (H : Hp) : List Bool → List D → List V → Prop
  | [], [], vs => vs = []
  | b :: bs, d :: ds, vs => ∃ v r, vs = v :: r ∧ RpB K A H b d v ∧ RpBs K A H bs ds r
  | _, _, _ => False
def spP (K : PySem.W.Frag) (bs : List Bool) (F : List D → (Rs → Prop) → Prop) : Sp := fun vs H Q E => ∃ A ds P, (∀ a, A a → ∃ o, H a = some o) ∧ RpBs K A H bs ds vs ∧ F ds P ∧
  (∀ v d H' A', P (.ok d) → Same H H' → (∀ a, A' a → A a ∨ H a = none) → (∀ a, A' a → ∃ o, H' a = some o) → Rp K A' H' d v → Q v H') ∧
  (∀ p l xs H' A', P (.own l) → Same H H' → (∀ a, A' a → A a ∨ H a = none) → (∀ a, A' a → ∃ o, H' a = some o) → H p = none → ¬ A' p → H' p = some (.lst xs) → RpL K A' H' l xs → Q (.ref p) H') ∧
  (∀ cls x dd H', P (.exc cls x) → Same H H' → XR K H' x dd → E cls dd H')
def Chg (p : Addr) (H H' : Hp) : Prop := ∀ a o, a ≠ p → H a = some o → H' a = some o
def spM (K : PySem.W.Frag) (F : List D → List D → (Rs → List D → Prop) → Prop) : Sp := fun vs H Q E => ∃ A p vs' xs os ds P, vs = .ref p :: vs' ∧ (∀ a, A a → ∃ o, H a = some o) ∧ H p = some (.lst xs) ∧ RpL K A H os xs ∧ ¬ A p ∧ RpL K A H ds vs' ∧ F os ds P ∧
  (∀ v d os' xs' H' A', P (.ok d) os' → Chg p H H' → H' p = some (.lst xs') → RpL K A' H' os' xs' → ¬ A' p → (∀ a, A' a → A a ∨ H a = none) → (∀ a, A' a → ∃ o, H' a = some o) → Rp K A' H' d v → Q v H') ∧
  (∀ q l ys os' xs' H' A', P (.own l) os' → Chg p H H' → H' p = some (.lst xs') → RpL K A' H' os' xs' → ¬ A' p → (∀ a, A' a → A a ∨ H a = none) → (∀ a, A' a → ∃ o, H' a = some o) → H q = none → ¬ A' q → H' q = some (.lst ys) → RpL K A' H' l ys → Q (.ref q) H') ∧
  (∀ cls x dd os' xs' H' A', P (.exc cls x) os' → Chg p H H' → H' p = some (.lst xs') → RpL K A' H' os' xs' → ¬ A' p → (∀ a, A' a → A a ∨ H a = none) → (∀ a, A' a → ∃ o, H' a = some o) → XR K H' x dd → E cls dd H')

mutual
inductive Fz (O : List Addr) (ω : List (Addr × List D)) (ι : List (Addr × Addr × List (Str × D))) : D → D → Prop
  | id {d : D} : Fz O ω ι d d
  | own {p : Addr} {l l' : List D} (hp : p ∉ O) (h : Mem ω (p, l)) (h2 : FzL O ω ι l l') : Fz O ω ι (.ref p) (.lst l')
  | tup {l l' : List D} (h : FzL O ω ι l l') : Fz O ω ι (.tup l) (.tup l')
  | ins {p C : Addr} {fs fs' : List (Str × D)} (hp : p ∉ O) (h : Mem ι (p, C, fs)) (h2 : FzF O ω ι fs fs') : Fz O ω ι (.ref p) (.ins C fs')
inductive FzL (O : List Addr) (ω : List (Addr × List D)) (ι : List (Addr × Addr × List (Str × D))) : List D → List D → Prop
  | nil : FzL O ω ι [] []
  | cons {d d' : D} {l l' : List D} (h : Fz O ω ι d d') (h2 : FzL O ω ι l l') : FzL O ω ι (d :: l) (d' :: l')
  | id {l : List D} : FzL O ω ι l l
inductive FzF (O : List Addr) (ω : List (Addr × List D)) (ι : List (Addr × Addr × List (Str × D))) : List (Str × D) → List (Str × D) → Prop
  | nil : FzF O ω ι [] []
  | cons {f : Str} {d d' : D} {l l' : List (Str × D)} (h : Fz O ω ι d d') (h2 : FzF O ω ι l l') : FzF O ω ι ((f, d) :: l) ((f, d') :: l')
  | id {l : List (Str × D)} : FzF O ω ι l l
end
def ext (O : List Addr) (A : Addr → Prop) (ω : List (Addr × List D)) (ι : List (Addr × Addr × List (Str × D))) : Addr → Prop := fun a => A a ∨ (a ∉ O ∧ ((∃ l, (a, l) ∈ ω) ∨ ∃ C fs, (a, C, fs) ∈ ι))
section
variable {K : PySem.W.Frag} {c : Cc} {A : Addr → Prop} {σ : List (Option V)} {H : Hp} {s : S} {τ : List (V × D)} {O : List Addr}
mutual
theorem Fz.rp (e : En K A σ H s τ) : ∀ {d d' : D} {v : V}, Fz O s.ω s.ι.l d d' → Rp K A H d v → Rp K (ext O A s.ω s.ι.l) H d' v
  | _, _, _, .id, r => Rp.mono (fun a h => .inl h) Keeps.refl _ _ r
  | _, _, _, .own hp h h2, r => by
    unfold Rp at r
    subst r
    obtain ⟨⟨xs, h3, h4⟩, _⟩ := e.own _ _ h.mem
    unfold Rp
    exact ⟨_, xs, rfl, .inr ⟨hp, .inl ⟨_, h.mem⟩⟩, h3, FzL.rp e h2 h4⟩
  | _, _, _, .tup h, r => by
    unfold Rp at r
    obtain ⟨a, xs, rfl, h1, h2⟩ := r
    unfold Rp
    exact ⟨a, xs, rfl, h1, FzL.rp e h h2⟩
  | _, _, _, .ins hp h h2, r => by
    unfold Rp at r
    subst r
    obtain ⟨⟨dx, vs, h3, h4⟩, _⟩ := e.ins _ _ _ h.mem
    unfold Rp
    exact ⟨_, dx, vs, rfl, .inr ⟨hp, .inr ⟨_, _, h.mem⟩⟩, h3, FzF.rp e h2 h4⟩
theorem FzL.rp (e : En K A σ H s τ) : ∀ {l l' : List D} {xs : List V}, FzL O s.ω s.ι.l l l' → RpL K A H l xs → RpL K (ext O A s.ω s.ι.l) H l' xs
  | _, _, _, .nil, r => by
    unfold RpL at r
    rw [r]
    exact RpL.nil
  | _, _, _, .id, r => RpL.mono (fun a h => .inl h) Keeps.refl _ _ r
  | _, _, _, .cons h h2, r => by
    unfold RpL at r
    obtain ⟨x, r, rfl, q1, q2⟩ := r
    exact RpL.cons (Fz.rp e h q1) (FzL.rp e h2 q2)
theorem FzF.rp (e : En K A σ H s τ) : ∀ {l l' : List (Str × D)} {xs : List (Str × V)}, FzF O s.ω s.ι.l l l' → RpF K A H l xs → RpF K (ext O A s.ω s.ι.l) H l' xs
  | _, _, _, .nil, r => by
    unfold RpF at r
    rw [r]
    unfold RpF
    rfl
  | _, _, _, .id, r => RpF.mono (fun a h => .inl h) Keeps.refl _ _ r
  | _, _, _, .cons h h2, r => by
    unfold RpF at r
    obtain ⟨x, r, rfl, q1, q2⟩ := r
    unfold RpF
    exact ⟨x, r, rfl, Fz.rp e h q1, FzF.rp e h2 q2⟩
end
theorem ext_up (hO : ∀ a, a ∈ c.O0 → a ∈ O) (rl : Rel K c A H s.ω s.ι) : ∀ a, ext O A s.ω s.ι.l a → c.A0 a ∨ c.H0 a = none := fun a h => h.elim (rl.up a) fun ⟨h1, h2⟩ => by
  rcases h2 with ⟨l, h2⟩ | ⟨C, fs, h2⟩
  · exact (rl.own a l h2).elim (fun z => absurd (hO a z) h1) .inr
  · exact (rl.ins a C fs h2).elim (fun z => absurd (hO a z) h1) .inr
theorem ext_dom (e : En K A σ H s τ) : ∀ a, ext O A s.ω s.ι.l a → ∃ o, H a = some o := fun a h => h.elim (e.dom a) fun ⟨h1, h2⟩ => by
  rcases h2 with ⟨l, h2⟩ | ⟨C, fs, h2⟩
  · obtain ⟨⟨xs, h3, _⟩, _⟩ := e.own a l h2
    exact ⟨_, h3⟩
  · obtain ⟨⟨dx, vs, h3, _⟩, _⟩ := e.ins a C fs h2
    exact ⟨_, h3⟩
end

inductive RetR (P : Rs → Prop) : D → S → Prop
  | ok {d d' : D} {s : S} (h : Fz [] s.ω s.ι.l d d') (k : P (.ok d')) : RetR P d s
  | own {p : Addr} {l : List D} {s : S} (h : Mem s.ω (p, l)) (k : P (.own l)) : RetR P (.ref p) s
abbrev fnNd (P : Rs → Prop) : Nd := { nx := fun s => RetR P .non s, rt := RetR P, ex := fun cls x _ => P (.exc cls x) }
inductive RetM (p : Addr) (P : Rs → List D → Prop) : D → S → Prop
  | ok {d d' : D} {os : List D} {s : S} (h : Fz [p] s.ω s.ι.l d d') (ho : Mem s.ω (p, os)) (k : P (.ok d') os) : RetM p P d s
  | own {q : Addr} {l os : List D} {s : S} (hq : q ∉ [p]) (h : Mem s.ω (q, l)) (ho : Mem s.ω (p, os)) (k : P (.own l) os) : RetM p P (.ref q) s
abbrev fnNdM (p : Addr) (P : Rs → List D → Prop) : Nd := { nx := fun s => RetM p P .non s, rt := RetM p P, ex := fun cls x s => ∃ os, Mem s.ω (p, os) ∧ P (.exc cls x) os }

inductive StartB (ρ : List (Addr × List D)) : List Bool → List D → List (Option D) → Prop
  | nil : StartB ρ [] [] []
  | val {bs : List Bool} {d : D} {ds : List D} {δ : List (Option D)} (h : StartB ρ bs ds δ) : StartB ρ (false :: bs) (d :: ds) (some d :: δ)
  | lst {bs : List Bool} {l : List D} {p : Addr} {ds : List D} {δ : List (Option D)} (hp : Mem ρ (p, l)) (h : StartB ρ bs ds δ) : StartB ρ (true :: bs) (.lst l :: ds) (some (.ref p) :: δ)
  | oth {bs : List Bool} {d : D} {ds : List D} {δ : List (Option D)} (hd : ∀ l, d ≠ .lst l) (h : StartB ρ bs ds δ) : StartB ρ (true :: bs) (d :: ds) (some d :: δ)
theorem Mem.of {α : Type} {a : α} : ∀ {l : List α}, a ∈ l → Mem l a
  | b :: l, h => by
    rcases List.mem_cons.mp h with h | h
    · subst h
      exact .z
    · exact .s (Mem.of h)
theorem Mem.right {α : Type} {a : α} {l : List α} (m : List α) (h : Mem l a) : Mem (m ++ l) a := Mem.of (List.mem_append_right _ h.mem)
theorem StartB.more {ρ : List (Addr × List D)} (m : List (Addr × List D)) {bs : List Bool} {ds : List D} {δ : List (Option D)} (h : StartB ρ bs ds δ) : StartB (m ++ ρ) bs ds δ := by
  induction h with
  | nil => exact .nil
  | val _ ih => exact .val ih
  | lst hp _ ih => exact .lst (hp.right m) ih
  | oth hd _ ih => exact .oth hd ih
theorem startB_of {K : PySem.W.Frag} {A : Addr → Prop} {H : Hp} : ∀ {bs : List Bool} {ds : List D} {vs : List V}, RpBs K A H bs ds vs →
    ∃ ρ δ, StartB ρ bs ds δ ∧ δ.length = vs.length ∧ (∀ p l, (p, l) ∈ ρ → ∃ xs, H p = some (.lst xs) ∧ RpL K A H l xs) ∧ ∀ (i : Nat) (d : D), δ[i]? = some (some d) → ∃ v, vs[i]? = some v ∧ Rp K A H d v
  | [], [], vs, h => by
    unfold RpBs at h
    subst h
    exact ⟨[], [], .nil, rfl, fun p l h => (by cases h), fun i d h => (by cases i <;> cases h)⟩
  | b :: bs, d :: ds, vs, h => by
    unfold RpBs at h
    obtain ⟨v, r, rfl, h1, h2⟩ := h
    obtain ⟨ρ, δ, s1, s2, s3, s4⟩ := startB_of h2
    have fin : ∀ (ρ' : List (Addr × List D)) (d' : D), StartB ρ' (b :: bs) (d :: ds) (some d' :: δ) → (∀ p l, (p, l) ∈ ρ' → ∃ xs, H p = some (.lst xs) ∧ RpL K A H l xs) → Rp K A H d' v →
        ∃ ρ δ, StartB ρ (b :: bs) (d :: ds) δ ∧ δ.length = (v :: r).length ∧ (∀ p l, (p, l) ∈ ρ → ∃ xs, H p = some (.lst xs) ∧ RpL K A H l xs) ∧ ∀ (i : Nat) (d : D), δ[i]? = some (some d) → ∃ w, (v :: r)[i]? = some w ∧ Rp K A H d w := fun ρ' d' t1 t2 t3 =>
      ⟨ρ', some d' :: δ, t1, by rw [List.length_cons, List.length_cons, s2], t2, fun i f hf => by
        cases i with
        | zero =>
          cases hf
          exact ⟨v, rfl, t3⟩
        | succ i => exact s4 i f (by simpa using hf)⟩
    cases b with
    | false =>
      rcases h1 with h1 | ⟨z, _⟩
      · exact fin ρ d (.val s1) s3 h1
      · cases z
    | true =>
      by_cases hd : ∃ l, d = .lst l
      · obtain ⟨l, rfl⟩ := hd
        have key : ∃ p xs, v = .ref p ∧ H p = some (.lst xs) ∧ RpL K A H l xs := by
          rcases h1 with h1 | ⟨_, p, xs, l', e1, e2, e3, e4⟩
          · unfold Rp at h1
            obtain ⟨p, xs, e1, _, e2, e3⟩ := h1
            exact ⟨p, xs, e1, e2, e3⟩
          · cases e2
            exact ⟨p, xs, e1, e3, e4⟩
        obtain ⟨p, xs, rfl, e2, e3⟩ := key
        refine fin ((p, l) :: ρ) (.ref p) (.lst .z (s1.more [(p, l)])) (fun q m hq => ?_) (by unfold Rp; rfl)
        rcases List.mem_cons.mp hq with hq | hq
        · cases hq
          exact ⟨xs, e2, e3⟩
        · exact s3 q m hq
      · rcases h1 with h1 | ⟨_, p, xs, l', e1, e2, _⟩
        · exact fin ρ d (.oth (fun l z => hd ⟨l, z⟩) s1) s3 h1
        · exact absurd ⟨l', e2⟩ hd
  | [], _ :: _, _, h => by
    unfold RpBs at h
    exact h.elim
  | _ :: _, [], _, h => by
    unfold RpBs at h
    exact h.elim
theorem RpBs.lens {K : PySem.W.Frag} {A : Addr → Prop} {H : Hp} : ∀ {bs : List Bool} {ds : List D} {vs : List V}, RpBs K A H bs ds vs → vs.length = bs.length
  | [], [], vs, h => by
    unfold RpBs at h
    subst h
    rfl
  | b :: bs, d :: ds, vs, h => by
    unfold RpBs at h
    obtain ⟨v, r, rfl, h1, h2⟩ := h
    rw [List.length_cons, List.length_cons, RpBs.lens h2]
  | [], _ :: _, _, h => by
    unfold RpBs at h
    exact h.elim
  | _ :: _, [], _, h => by
    unfold RpBs at h
    exact h.elim

theorem start_slots {N : List Str} {vs : List V} {δ : List (Option D)} {K : PySem.W.Frag} {A : Addr → Prop} {H : Hp} (hl : δ.length = vs.length) (hN : vs.length ≤ N.length) (h : ∀ (i : Nat) (d : D), δ[i]? = some (some d) → ∃ v, vs[i]? = some v ∧ Rp K A H d v) :
    (L2.start N vs).length = (δ ++ List.replicate (N.length - vs.length) none).length ∧ ∀ (i : Nat) (d : D), (δ ++ List.replicate (N.length - vs.length) none)[i]? = some (some d) → ∃ v, (L2.start N vs)[i]? = some (some v) ∧ Rp K A H d v := by
  unfold L2.start
  refine ⟨by simp [hl], fun i d hd => ?_⟩
  by_cases hi : i < δ.length
  · rw [List.getElem?_append_left hi] at hd
    obtain ⟨v, h1, h2⟩ := h i d hd
    exact ⟨v, by rw [List.getElem?_append_left (by rw [List.length_map, ← hl]; exact hi), List.getElem?_map, h1]; rfl, h2⟩
  · rw [List.getElem?_append_right (by omega), List.getElem?_replicate] at hd
    split at hd <;> cases hd

section
variable {P : Program} {w : World} {K : PySem.W.Frag} {mg : Str → Option Value} {base : Heap} {x qual : Str} {params : Arguments} {body : List Stmt} {scope : Scope} {dvs : List V} {kws : List (Str × V)} {f : Addr} {fd : FuncData}
abbrev FX (P : Program) (w : World) (K : PySem.W.Frag) (mg : Str → Option Value) (base : Heap) (N : List Str) (qual : Str) (scope : Scope) (f : Addr) (cdv : Value) (A : Around) (outer : List PySem.Env) (s : Shared) (H : Hp) (E : XK) : Cx := cxOf (L2.CX P w) P w K mg base N qual scope f cdv A outer s H E
theorem fn_pure {N ps : List Str} {k : Nat} {bs : List Bool} {Fs : List D → (Rs → Prop) → Prop} (F : FunD K x qual params body scope dvs kws f fd) (S0 : FnScope N ps scope) (hb : bs.length = ps.length) (hN : ps.length ≤ N.length)
    (h : ∀ (X : Cx) (cdv : Value) (A : Around) (outer : List PySem.Env) (s : Shared) (H : Hp) (E : XK), X = FX P w K mg base N qual scope f cdv A outer s H E → Room k X.A → PassesOwn (model X.prog X.w) X.A X.env X.xe →
      ∀ (c : Cc) (W : WX), c.O0 = [] → Takes X W → ∀ ds (Q : Rs → Prop) δ, Fs ds Q → StartB c.ρ bs ds δ → LW X c W ⟨δ ++ List.replicate (N.length - ps.length) none, []⟩ (fnNd Q) body) : FnOk P w K mg base (L2.CX P w) (k + 1) f fd ps (spP K bs Fs) := by
  refine F.ok S0 (fun vs H Q E hs => ?_) (fun cdv Ar outer s H vs Q E hr hs => ?_)
  · obtain ⟨A, ds, P', _, h2, _⟩ := hs
    rw [h2.lens, hb]
  · obtain ⟨A, ds, P', hA, h2, hF, q1, q2, q3⟩ := hs
    obtain ⟨ρ, δ, sb, hl, hρ, hsl⟩ := startB_of h2
    have hvl : vs.length = ps.length := by rw [h2.lens, hb]
    have tk : Takes (FX P w K mg base N qual scope f cdv Ar outer s H E) (fun cls d _ H => E cls d H) := takes_of rfl rfl rfl rfl
    have po : PassesOwn (model P w) (FX P w K mg base N qual scope f cdv Ar outer s H E).A (FX P w K mg base N qual scope f cdv Ar outer s H E).env (FX P w K mg base N qual scope f cdv Ar outer s H E).xe := passes_of rfl
    have hbody := h _ cdv Ar outer s H E rfl hr po ⟨H, A, [], ρ, []⟩ _ rfl tk ds P' δ hF sb
    refine ⟨_, hbody, [], ?_⟩
    obtain ⟨sl1, sl2⟩ := start_slots (N := N) hl (by omega) hsl
    rw [hvl] at sl1 sl2
    have e0 : SE K ⟨H, A, [], ρ, []⟩ (L2.start N vs) H ⟨δ ++ List.replicate (N.length - ps.length) none, []⟩ [] :=
      ⟨A, ⟨sl2, sl1, fun p ds h => (by cases h), List.nodup_nil, fun v d h => (by cases h), hA, fun p C fs h => (by cases h), List.nodup_nil⟩, ⟨fun a h => h, fun a h => .inl h, fun a o h _ => h, fun p ds h => (by cases h), fun p h => (by cases h), fun p h => (by cases h), fun p h => (by cases h), fun p l hp => ⟨fun z => (by cases z), hρ p l hp⟩, fun p C fs h => (by cases h), fun x h => (by cases h)⟩⟩
    have fin : ∀ (v : V) (d : D) (s' : S) (σ' : List (Option V)) (H' : Hp), RetR P' d s' → SE K ⟨H, A, [], ρ, []⟩ σ' H' s' [(v, d)] → Q v H' := fun v d s' σ' H' r ⟨B, z, rl⟩ => by
      have same : Same H H' := fun a o ha => rl.keep a o ha (fun q => by cases q)
      cases r with
      | ok hz hk => exact q1 v _ H' _ hk same (ext_up (O := []) (fun a h => h) rl) (ext_dom z) (Fz.rp z hz (z.tmp v d List.mem_cons_self))
      | own hm hk =>
        obtain ⟨⟨xs, g1, g2⟩, g3⟩ := z.own _ _ hm.mem
        have r1 := z.tmp v _ List.mem_cons_self
        unfold Rp at r1
        subst r1
        exact q2 _ _ xs H' B hk same rl.up z.dom ((rl.own _ _ hm.mem).elim (fun q => by cases q) id) g3 g1 g2
    refine ⟨e0, fun s' σ' H' r e => fin .non .non s' σ' H' r (e.atom rfl), fun v d s' σ' H' r e => fin v d s' σ' H' r e, fun _ _ _ z => z.elim, fun _ _ _ z => z.elim, fun cls x dd s' σ' H' r ⟨B, z, rl⟩ xr => ?_⟩
    exact q3 cls x dd H' r (fun a o ha => rl.keep a o ha (fun q => by cases q)) xr
theorem fn_mut {N ps : List Str} {k : Nat} {Fs : List D → List D → (Rs → List D → Prop) → Prop} (F : FunD K x qual params body scope dvs kws f fd) (S0 : FnScope N ps scope) (hN : ps.length ≤ N.length) (hn : ∀ os ds Q, Fs os ds Q → ds.length + 1 = ps.length)
    (h : ∀ (X : Cx) (cdv : Value) (A : Around) (outer : List PySem.Env) (s : Shared) (H : Hp) (E : XK), X = FX P w K mg base N qual scope f cdv A outer s H E → Room k X.A → PassesOwn (model X.prog X.w) X.A X.env X.xe →
      ∀ (c : Cc) (W : WX) (p : Addr), c.O0 = [p] → c.ρ = [] → Takes X W → ∀ os ds (Q : Rs → List D → Prop), Fs os ds Q → LW X c W ⟨some (.ref p) :: ds.map some ++ List.replicate (N.length - ps.length) none, [(p, os)]⟩ (fnNdM p Q) body) : FnOk P w K mg base (L2.CX P w) (k + 1) f fd ps (spM K Fs) := by
  refine F.ok S0 (fun vs H Q E hs => ?_) (fun cdv Ar outer s H vs Q E hr hs => ?_)
  · obtain ⟨A, p, vs', xs, os, ds, P', rfl, _, _, _, _, h2, hF, _⟩ := hs
    rw [List.length_cons, h2.len, hn _ _ _ hF]
  · obtain ⟨A, p, vs', xs, os, ds, P', rfl, hA, hp, ho, nA, h2, hF, q1, q2, q3⟩ := hs
    have hvl : (V.ref p :: vs').length = ps.length := by rw [List.length_cons, h2.len, hn _ _ _ hF]
    have tk : Takes (FX P w K mg base N qual scope f cdv Ar outer s H E) (fun cls d _ H => E cls d H) := takes_of rfl rfl rfl rfl
    have po : PassesOwn (model P w) (FX P w K mg base N qual scope f cdv Ar outer s H E).A (FX P w K mg base N qual scope f cdv Ar outer s H E).env (FX P w K mg base N qual scope f cdv Ar outer s H E).xe := passes_of rfl
    have hbody := h _ cdv Ar outer s H E rfl hr po ⟨H, A, [p], [], []⟩ _ p rfl rfl tk os ds P' hF
    refine ⟨_, hbody, [], ?_⟩
    have hl : (some (D.ref p) :: ds.map some).length = (V.ref p :: vs').length := by rw [List.length_cons, List.length_cons, List.length_map, h2.len]
    have hsl : ∀ (i : Nat) (d : D), (some (D.ref p) :: ds.map some)[i]? = some (some d) → ∃ v, (V.ref p :: vs')[i]? = some v ∧ Rp K A H d v := fun i d hd => by
      cases i with
      | zero =>
        cases hd
        exact ⟨_, rfl, by unfold Rp; rfl⟩
      | succ i =>
        have hd' : (ds.map some)[i]? = some (some d) := by simpa using hd
        rw [List.getElem?_map] at hd'
        cases z : ds[i]? with
        | none =>
          rw [z] at hd'
          cases hd'
        | some f =>
          rw [z] at hd'
          cases hd'
          obtain ⟨v, g1, g2⟩ := h2.get z
          exact ⟨v, by simpa using g1, g2⟩
    obtain ⟨sl1, sl2⟩ := start_slots (N := N) hl (by omega) hsl
    rw [hvl] at sl1 sl2
    have e0 : SE K ⟨H, A, [p], [], []⟩ (L2.start N (V.ref p :: vs')) H ⟨some (.ref p) :: ds.map some ++ List.replicate (N.length - ps.length) none, [(p, os)]⟩ [] :=
      ⟨A, ⟨sl2, sl1, fun q l h => by
        have e : (q, l) = (p, os) := by simpa using h
        cases e
        exact ⟨⟨xs, hp, ho⟩, nA⟩, by simp, fun v d h => (by cases h), hA, fun p C fs h => (by cases h), List.nodup_nil⟩, ⟨fun a h => h, fun a h => .inl h, fun a o h _ => h, fun q l h => by
        have e : (q, l) = (p, os) := by simpa using h
        cases e
        exact .inl List.mem_cons_self, fun q h => by
        have e : q = p := by simpa using h
        subst e
        exact ⟨_, hp⟩, fun q h => by
        have e : q = p := by simpa using h
        subst e
        exact nA, fun q h => by
        have e : q = p := by simpa using h
        subst e
        exact ⟨_, hp, fun z => z⟩, fun q l h => (by cases h), fun p C fs h => (by cases h), fun x h => (by cases h)⟩⟩
    have chg : ∀ {B : Addr → Prop} {H' : Hp} {ω : List (Addr × List D)} {ι : Is}, Rel K ⟨H, A, [p], [], []⟩ B H' ω ι → Chg p H H' := fun rl a o na ha => rl.keep a o ha (fun q => na (by simpa using q))
    have own : ∀ {B : Addr → Prop} {H' : Hp} {s' : S} {σ' : List (Option V)} {τ : List (V × D)} {os' : List D}, En K B σ' H' s' τ → Rel K ⟨H, A, [p], [], []⟩ B H' s'.ω s'.ι → Mem s'.ω (p, os') → ∃ xs', H' p = some (.lst xs') ∧ RpL K (ext [p] B s'.ω s'.ι.l) H' os' xs' ∧ ¬ ext [p] B s'.ω s'.ι.l p :=
      fun z rl hm => by
        obtain ⟨⟨xs', g1, g2⟩, g3⟩ := z.own _ _ hm.mem
        exact ⟨xs', g1, RpL.mono (fun a h => .inl h) Keeps.refl _ _ g2, fun q => q.elim g3 fun q => q.1 List.mem_cons_self⟩
    have fin : ∀ (v : V) (d : D) (s' : S) (σ' : List (Option V)) (H' : Hp), RetM p P' d s' → SE K ⟨H, A, [p], [], []⟩ σ' H' s' [(v, d)] → Q v H' := fun v d s' σ' H' r ⟨B, z, rl⟩ => by
      cases r with
      | ok hz hm hk =>
        obtain ⟨xs', g1, g2, g3⟩ := own z rl hm
        exact q1 v _ _ xs' H' _ hk (chg rl) g1 g2 g3 (ext_up (O := [p]) (fun a h => h) rl) (ext_dom z) (Fz.rp z hz (z.tmp v d List.mem_cons_self))
      | own hq hm2 hm hk =>
        obtain ⟨⟨xs', g1, g2⟩, g3⟩ := z.own _ _ hm.mem
        obtain ⟨⟨ys, f1, f2⟩, f3⟩ := z.own _ _ hm2.mem
        have r1 := z.tmp v _ List.mem_cons_self
        unfold Rp at r1
        subst r1
        exact q2 _ _ ys _ xs' H' B hk (chg rl) g1 g2 g3 rl.up z.dom ((rl.own _ _ hm2.mem).elim (fun w => absurd w hq) id) f3 f1 f2
    refine ⟨e0, fun s' σ' H' r e => fin .non .non s' σ' H' r (e.atom rfl), fun v d s' σ' H' r e => fin v d s' σ' H' r e, fun _ _ _ z => z.elim, fun _ _ _ z => z.elim, fun cls x dd s' σ' H' ⟨os', hm, r⟩ ⟨B, z, rl⟩ xr => ?_⟩
    obtain ⟨xs', g1, g2, g3⟩ := own z rl hm
    exact q3 cls x dd os' xs' H' _ r (chg rl) g1 g2 g3 (ext_up (O := [p]) (fun a h => h) rl) (ext_dom z) xr
end
end DL

namespace DL
open PySem PySem.Spec PyProof.Rows L2

section
variable {X : Cx} {c : Cc} {W : WX} {s : S} {nx : S → Prop} {rt : D → S → Prop} {bk ct : S → Prop} {ex : PX} {Φ : D → S → Prop} {Ξ : PX} {e a b : Expr} {es : List Expr} {pos p0 : Pos} {σ : L2.St} {H : Hp}
theorem SE.grow {K : PySem.W.Frag} {σ : List (Option V)} {τ : List (V × D)} {H' : Hp} {A' : Addr → Prop} {A : Addr → Prop} (z : En K A σ H s τ) (rl : Rel K c A H s.ω s.ι) (sm : Same H H') (up : ∀ a, A' a → A a ∨ H a = none) (dm : ∀ a, A' a → ∃ o, H' a = some o) :
    En K (fun a => A a ∨ A' a) σ H' s τ ∧ Rel K c (fun a => A a ∨ A' a) H' s.ω s.ι := by
  have k : Keeps A H H' := Keeps.same sm
  have sb : ∀ a, A a → (A a ∨ A' a) := fun a h => .inl h
  have nA : ∀ p, ¬ A p → (∃ o, H p = some o) → ¬ (A p ∨ A' p) := fun p h1 ⟨o, h2⟩ q => q.elim h1 fun q => (up p q).elim h1 fun q => by
    rw [h2] at q
    cases q
  refine ⟨⟨fun i d hd => ?_, z.len, fun p l hp => ?_, z.nd, fun v d hv => Rp.mono sb k _ _ (z.tmp v d hv), fun a ha => ?_, fun q C fs hq => ?_, z.ndi⟩, ⟨fun a h => .inl (rl.sub a h), fun a ha => ?_, fun a o h n => sm a o (rl.keep a o h n), rl.own, fun p hp => ?_, fun p hp => ?_, rl.o0, rl.ro, rl.ins, rl.tab.step fun a o h _ => sm a o h⟩⟩
  · obtain ⟨v, hv, hr⟩ := z.slots i d hd
    exact ⟨v, hv, Rp.mono sb k _ _ hr⟩
  · obtain ⟨⟨xs, h1, h2⟩, h3⟩ := z.own p l hp
    exact ⟨⟨xs, sm _ _ h1, RpL.mono sb k _ _ h2⟩, nA p h3 ⟨_, h1⟩⟩
  · rcases ha with ha | ha
    · obtain ⟨o, q⟩ := z.dom a ha
      exact ⟨o, sm _ _ q⟩
    · exact dm a ha
  · obtain ⟨⟨dx, vs, h1, h2⟩, h3⟩ := z.ins q C fs hq
    exact ⟨⟨dx, vs, sm _ _ h1, RpF.mono sb k _ _ h2⟩, nA q h3 ⟨_, h1⟩⟩
  · rcases ha with ha | ha
    · exact rl.up a ha
    · rcases up a ha with q | q
      · exact rl.up a q
      · cases w : c.H0 a with
        | none => exact .inr rfl
        | some o =>
          by_cases hO : a ∈ c.O0
          · obtain ⟨ys, g⟩ := rl.there a hO
            rw [q] at g
            cases g
          · have g := rl.keep a o w hO
            rw [q] at g
            cases g
  · obtain ⟨xs, h⟩ := rl.there p hp
    exact ⟨xs, sm _ _ h⟩
  · obtain ⟨xs, h⟩ := rl.there p hp
    exact nA p (rl.nA p hp) ⟨_, h⟩
theorem SE.gain {K : PySem.W.Frag} {σ : List (Option V)} {τ : List (V × D)} {A : Addr → Prop} {H H' : Hp} {p : Addr} {l : List D} {xs : List V} (z : En K A σ H' s τ) (rl : Rel K c A H' s.ω s.ι) (r0 : ∀ q, q ∈ c.O0 → ∃ o, H q = some o) (o0 : ∀ q ds, (q, ds) ∈ s.ω → ∃ o, H q = some o) (k0 : ∀ a o, c.H0 a = some o → a ∉ c.O0 → H a = some o)
    (hn : H p = none) (nA : ¬ A p) (hp : H' p = some (.lst xs)) (r : RpL K A H' l xs) : SE K c σ H' (@S.mk s.δ ((p, l) :: s.ω) s.ι) ((.ref p, .ref p) :: τ) ∧ p ∉ c.O0 := by
  have nO : p ∉ c.O0 := fun q => by
    obtain ⟨o, g⟩ := r0 p q
    rw [hn] at g
    cases g
  refine ⟨⟨A, ⟨z.slots, z.len, fun q ds hq => ?_, ?_, fun v d hv => ?_, z.dom, z.ins, z.ndi⟩, ⟨rl.sub, rl.up, rl.keep, fun q ds hq => ?_, rl.there, rl.nA, rl.o0, rl.ro, rl.ins, rl.tab⟩⟩, nO⟩
  · rcases List.mem_cons.mp hq with hq | hq
    · cases hq
      exact ⟨⟨xs, hp, r⟩, nA⟩
    · exact z.own q ds hq
  · show ((p :: s.ω.map (·.1)) : List Addr).Nodup
    refine List.nodup_cons.mpr ⟨fun w => ?_, z.nd⟩
    obtain ⟨⟨q, ds⟩, h1, h2⟩ := List.mem_map.mp w
    obtain ⟨o, g⟩ := o0 q ds h1
    have e : q = p := h2
    rw [e, hn] at g
    cases g
  · rcases List.mem_cons.mp hv with hv | hv
    · cases hv
      unfold Rp
      rfl
    · exact z.tmp v d hv
  · rcases List.mem_cons.mp hq with hq | hq
    · cases hq
      cases w : c.H0 p with
      | none => exact .inr rfl
      | some o =>
        have g := k0 p o w nO
        rw [hn] at g
        cases g
    · exact rl.own q ds hq

def CallP (c : Cc) (Φ : D → S → Prop) (Ξ : PX) (s1 : S) : Rs → Prop
  | .ok d => Φ d s1
  | .own l => ∀ p, p ∉ c.O0 → Φ (.ref p) (@S.mk s1.δ ((p, l) :: s1.ω) s1.ι)
  | .exc cls x => Ξ cls x s1
inductive VwB (c : Cc) (s : S) : List Bool → List D → List D → Prop
  | nil : VwB c s [] [] []
  | val {bs : List Bool} {d : D} {ds ds' : List D} (h : VwB c s bs ds ds') : VwB c s (false :: bs) (d :: ds) (d :: ds')
  | bor {bs : List Bool} {d d' : D} {ds ds' : List D} (w : Vw c s d d') (h : VwB c s bs ds ds') : VwB c s (true :: bs) (d :: ds) (d' :: ds')
theorem VwB.rp {K : PySem.W.Frag} {A : Addr → Prop} {σ : List (Option V)} {τ' : List (V × D)} {bs : List Bool} {ds ds' : List D} (h : VwB c s bs ds ds') (z : En K A σ H s τ') (rl : Rel K c A H s.ω s.ι) : ∀ {vs : List V}, Paired (fun v d => (v, d) ∈ τ') vs ds → RpBs K A H bs ds' vs := by
  induction h with
  | nil =>
    intro vs pr
    cases pr
    unfold RpBs
    rfl
  | val _ ih =>
    intro vs pr
    cases pr with
    | cons hv t =>
      unfold RpBs
      exact ⟨_, _, rfl, .inl (z.tmp _ _ hv), ih t⟩
  | bor w _ ih =>
    intro vs pr
    cases pr with
    | cons hv t =>
      unfold RpBs
      refine ⟨_, _, rfl, ?_, ih t⟩
      have r := z.tmp _ _ hv
      cases w with
      | id => exact .inl r
      | @own p l hm =>
        obtain ⟨⟨xs, h1, h2⟩, _⟩ := z.own p l hm.mem
        unfold Rp at r
        exact .inr ⟨rfl, p, xs, l, r, rfl, h1, h2⟩
      | @ro p l hm =>
        obtain ⟨xs, h1, h2⟩ := rl.read hm.mem
        unfold Rp at r
        exact .inr ⟨rfl, p, xs, l, r, rfl, h1, h2⟩
theorem spP_met {bs : List Bool} {Fs : List D → (Rs → Prop) → Prop} {τ τ' : List (V × D)} {vs : List V} {ds ds' : List D} {Q : VK} {σ : List (Option V)} (hv : VwB c s bs ds ds') (hF : Fs ds' (CallP c Φ Ξ s)) (e1 : SE X.K c σ H s τ') (sb : ∀ x ∈ τ, x ∈ τ') (pr : Paired (fun v d => (v, d) ∈ τ') vs ds)
    (k : ∀ v d s' H', Φ d s' → SE X.K c σ H' s' ((v, d) :: τ) → Q v H') (hx : ∀ cls x dd s' H', Ξ cls x s' → SE X.K c σ H' s' τ → XR X.K H' x dd → W cls dd σ H') : spP X.K bs Fs vs H Q (WE W σ) := by
  obtain ⟨A, z, rl⟩ := e1
  have z' : En X.K A σ H s τ := z.sub sb
  refine ⟨A, ds', _, z.dom, hv.rp z rl pr, hF, fun v d H' A' p sm up dm r => ?_, fun p l xs H' A' hp sm up dm hn nA h1 h2 => ?_, fun cls x dd H' p sm xr => ?_⟩
  · obtain ⟨g1, g2⟩ := SE.grow z' rl sm up dm
    exact k v d s H' p ⟨_, g1.push (Rp.mono (fun a h => .inr h) Keeps.refl _ _ r), g2⟩
  · obtain ⟨g1, g2⟩ := SE.grow z' rl sm up dm
    have nA2 : ¬ (A p ∨ A' p) := fun q => q.elim (fun q => by
      obtain ⟨o, w⟩ := z.dom p q
      rw [hn] at w
      cases w) nA
    obtain ⟨q1, q2⟩ := SE.gain g1 g2 (H := H) (fun q hq => let ⟨ys, g⟩ := rl.there q hq; ⟨_, g⟩) (fun q l2 hq => let ⟨⟨ys, g, _⟩, _⟩ := z.own q l2 hq; ⟨_, g⟩) rl.keep hn nA2 h1 (RpL.mono (fun a h => .inr h) Keeps.refl _ _ h2)
    exact k _ _ _ H' (hp p q2) q1
  · obtain ⟨g1, g2⟩ := SE.grow (A' := fun _ => False) z' rl sm (fun _ h => h.elim) (fun _ h => h.elim)
    exact hx cls x dd s H' p ⟨_, g1, g2⟩ xr

theorem ew_call {k : Nat} {f : Addr} {fd : FuncData} {ps : List Str} {bs : List Bool} {Fs : List D → (Rs → Prop) → Prop} {x : Str} {p : Pos} (F : FnOk X.prog X.w X.K X.mg X.base (L2.CX X.prog X.w) k f fd ps (spP X.K bs Fs)) (hr : Room k X.A) (hm : X.mg x = some (.ref f)) (hk : PySem.W.keepIn X.K (.ref f) = true)
    (hb : Binds X.K fd ps []) (tk : Takes X W) (h : AW X c W s (fun ds s1 => ∃ ds', VwB c s1 bs ds ds' ∧ Fs ds' (CallP c Φ Ξ s1)) Ξ (e :: es)) (hg : Gl X x := by rfl) (hdb : (x == ("__debug__" : Str)) = false := by decide)
    (he : starEach (e :: es) X.env = (false, eval e X.env) :: starEach es X.env := by rfl) (hpl : (backTo pos (starEach es X.env)).any (·.1) = false := by rfl) : EW X c W s Φ Ξ (.Call (.Name x p) (e :: es) [] pos) :=
  PE.mono (pe_callS F hr hg hm hk hb (fun σ => passAt tk σ) pa_any hdb he hpl) fun σ H Q ⟨τ, e0, k, hx⟩ => h.use e0 (fun vs ds s1 H1 τ1 ⟨ds', hv, hF⟩ e1 sb pr => spP_met hv hF e1 sb pr k hx) hx
theorem ew_callM {k : Nat} {f : Addr} {fd : FuncData} {ps : List Str} {Fs : List D → List D → (Rs → List D → Prop) → Prop} {x : Str} {p : Pos} (F : FnOk X.prog X.w X.K X.mg X.base (L2.CX X.prog X.w) k f fd ps (spM X.K Fs)) (hr : Room k X.A) (hm : X.mg x = some (.ref f)) (hk : PySem.W.keepIn X.K (.ref f) = true)
    (hb : Binds X.K fd ps []) (tk : Takes X W) (h : AW X c W s (fun ds s1 => ∃ q j os dr, ds = .ref q :: dr ∧ At s1.ω j (q, os) ∧ Fs os dr (fun r os' => ∃ ω', Pt s1.ω j (q, os') ω' ∧ CallP c Φ Ξ (@S.mk s1.δ ω' s1.ι) r)) Ξ (e :: es)) (hg : Gl X x := by rfl) (hdb : (x == ("__debug__" : Str)) = false := by decide)
    (he : starEach (e :: es) X.env = (false, eval e X.env) :: starEach es X.env := by rfl) (hpl : (backTo pos (starEach es X.env)).any (·.1) = false := by rfl) : EW X c W s Φ Ξ (.Call (.Name x p) (e :: es) [] pos) :=
  PE.mono (pe_callS F hr hg hm hk hb (fun σ => passAt tk σ) pa_any hdb he hpl) fun σ H Q ⟨τ, e0, k, hx⟩ => h.use e0 (fun vs ds s1 H1 τ1 ⟨q, j, os, dr, ed, ha, hF⟩ ⟨A, z, rl⟩ sb pr => by
    subst ed
    cases pr with
    | @cons v _ vs _ hv t =>
      have r1 := z.tmp _ _ hv
      unfold Rp at r1
      subst r1
      have hmem : (q, os) ∈ s1.ω := List.mem_of_getElem? ha.get
      obtain ⟨⟨xs, h1, h2⟩, h3⟩ := z.own q os hmem
      have z' : En X.K A σ H1 s1 τ := z.sub sb
      -- the state behind the call
      have behind : ∀ {H' : Hp} {A' : Addr → Prop} {os' : List D} {xs' : List V} {ω' : List (Addr × List D)}, Pt s1.ω j (q, os') ω' → Chg q H1 H' → H' q = some (.lst xs') → RpL X.K A' H' os' xs' → ¬ A' q → (∀ a, A' a → A a ∨ H1 a = none) → (∀ a, A' a → ∃ o, H' a = some o) →
          En X.K (fun a => A a ∨ A' a) σ H' (@S.mk s1.δ ω' s1.ι) τ ∧ Rel X.K c (fun a => A a ∨ A' a) H' ω' s1.ι := by
        intro H' A' os' xs' ω' hp cg g1 g2 g3 up dm
        -- first the list gets its items in the old heap's shape, then the heap grows
        have sm : Same (upd H1 q (.lst xs')) H' := fun a o ha2 => by
          by_cases hq : a = q
          · subst hq
            rw [upd_same] at ha2
            cases ha2
            exact g1
          · rw [upd_ne hq] at ha2
            exact cg a o hq ha2
        have up2 : ∀ a, A' a → A a ∨ (upd H1 q (.lst xs')) a = none := fun a h => by
          by_cases hq : a = q
          · subst hq
            exact absurd h g3
          · rw [upd_ne hq]
            exact up a h
        have k2 : Keeps A H1 H' := fun a o h w => by
          by_cases hq : a = q
          · subst hq
            rw [h1] at h
            cases h
            exact w.elim (fun w => absurd w h3) (fun w => w.elim)
          · exact cg a o hq h
        have sb2 : ∀ a, A a → (A a ∨ A' a) := fun a h => .inl h
        have nAA : ∀ b, ¬ A b → (∃ o, H1 b = some o) → ¬ (A b ∨ A' b) := fun b w1 ⟨o, w2⟩ w => w.elim w1 fun w => (up b w).elim w1 fun w => by
          rw [w2] at w
          cases w
        have hlt : j < s1.ω.length := (List.getElem?_eq_some_iff.mp ha.get).1
        have es : ω'.map (·.1) = s1.ω.map (·.1) := by
          rw [hp.eq, List.map_set]
          have hj : (s1.ω.map (·.1))[j]? = some q := by rw [List.getElem?_map, ha.get]; rfl
          apply List.ext_getElem?
          intro n
          by_cases hn : j = n
          · subst hn
            rw [List.getElem?_set_self (by rw [List.length_map]; exact hlt), hj]
          · rw [List.getElem?_set_ne hn]
        have mem : ∀ b ds, (b, ds) ∈ ω' → (b = q ∧ ds = os') ∨ (b ≠ q ∧ (b, ds) ∈ s1.ω) := fun b ds hb2 => by
          rw [hp.eq] at hb2
          obtain ⟨n, hn⟩ := List.mem_iff_getElem?.mp hb2
          by_cases hj : j = n
          · subst hj
            rw [List.getElem?_set_self hlt] at hn
            cases hn
            exact .inl ⟨rfl, rfl⟩
          · rw [List.getElem?_set_ne hj] at hn
            refine .inr ⟨fun z2 => ?_, List.mem_of_getElem? hn⟩
            subst z2
            have a1 : (s1.ω.map (·.1))[n]? = some b := by rw [List.getElem?_map, hn]; rfl
            have a2 : (s1.ω.map (·.1))[j]? = some b := by rw [List.getElem?_map, ha.get]; rfl
            exact hj (nd_ix z.nd a2 a1)
        refine ⟨⟨fun i d hd => ?_, z'.len, fun b ds hb2 => ?_, by rw [es]; exact z.nd, fun v d hv2 => Rp.mono sb2 k2 _ _ (z'.tmp v d hv2), fun a hA => ?_, fun b C fs hb2 => ?_, z.ndi⟩, ⟨fun a h => .inl (rl.sub a h), fun a hA => ?_, fun a o h0 no => ?_, fun b ds hb2 => ?_, fun b hb2 => ?_, fun b hb2 => ?_, rl.o0, rl.ro, rl.ins, rl.tab.step fun a o h f => cg a o (fun e => by rw [e, h1] at h; cases h; rcases f with f | ⟨_, f⟩; exact f; cases f) h⟩⟩
        · obtain ⟨v, g, hr2⟩ := z'.slots i d hd
          exact ⟨v, g, Rp.mono sb2 k2 _ _ hr2⟩
        · rcases mem b ds hb2 with ⟨rfl, rfl⟩ | ⟨hne, hb2⟩
          · exact ⟨⟨xs', g1, RpL.mono (fun a h => .inr h) Keeps.refl _ _ g2⟩, nAA _ h3 ⟨_, h1⟩⟩
          · obtain ⟨⟨ys, w1, w2⟩, w3⟩ := z.own b ds hb2
            exact ⟨⟨ys, cg _ _ hne w1, RpL.mono sb2 k2 _ _ w2⟩, nAA _ w3 ⟨_, w1⟩⟩
        · rcases hA with hA | hA
          · obtain ⟨o, w⟩ := z.dom a hA
            exact ⟨o, cg a o (fun e => h3 (e ▸ hA)) w⟩
          · exact dm a hA
        · obtain ⟨⟨dx, vs2, w1, w2⟩, w3⟩ := z.ins b C fs hb2
          have hne : b ≠ q := fun e => by
            rw [e, h1] at w1
            cases w1
          exact ⟨⟨dx, vs2, cg _ _ hne w1, RpF.mono sb2 k2 _ _ w2⟩, nAA _ w3 ⟨_, w1⟩⟩
        · rcases hA with hA | hA
          · exact rl.up a hA
          · rcases up a hA with w | w
            · exact rl.up a w
            · cases w0 : c.H0 a with
              | none => exact .inr rfl
              | some o =>
                by_cases hO : a ∈ c.O0
                · obtain ⟨ys, g⟩ := rl.there a hO
                  rw [w] at g
                  cases g
                · have g := rl.keep a o w0 hO
                  rw [w] at g
                  cases g
        · have hq : a ≠ q := fun e => by
            subst e
            rcases rl.own a os hmem with w | w
            · exact no w
            · rw [h0] at w
              cases w
          exact cg a o hq (rl.keep a o h0 no)
        · rcases mem b ds hb2 with ⟨rfl, rfl⟩ | ⟨hne, hb2⟩
          · exact rl.own _ _ hmem
          · exact rl.own b ds hb2
        · by_cases hq : b = q
          · subst hq
            exact ⟨_, g1⟩
          · obtain ⟨ys, w⟩ := rl.there b hb2
            exact ⟨ys, cg _ _ hq w⟩
        · obtain ⟨ys, w⟩ := rl.there b hb2
          exact nAA b (rl.nA b hb2) ⟨_, w⟩
      refine ⟨A, q, vs, xs, os, dr, _, rfl, z.dom, h1, h2, h3, Paired.toR t z, hF, fun v d os' xs' H' A' ⟨ω', hp, hk2⟩ cg g1 g2 g3 up dm r => ?_, fun y l ys os' xs' H' A' ⟨ω', hp, hk2⟩ cg g1 g2 g3 up dm hn nA f1 f2 => ?_, fun cls x dd os' xs' H' A' ⟨ω', hp, hk2⟩ cg g1 g2 g3 up dm xr => ?_⟩
      · obtain ⟨w1, w2⟩ := behind hp cg g1 g2 g3 up dm
        exact k v d _ H' hk2 ⟨_, w1.push (Rp.mono (fun a h => .inr h) Keeps.refl _ _ r), w2⟩
      · obtain ⟨w1, w2⟩ := behind hp cg g1 g2 g3 up dm
        have nA2 : ¬ (A y ∨ A' y) := fun w => w.elim (fun w => by
          obtain ⟨o, w3⟩ := z.dom y w
          rw [hn] at w3
          cases w3) nA
        have own1 : ∀ b ds, (b, ds) ∈ ω' → ∃ o, H1 b = some o := fun b ds hb2 => by
          rw [hp.eq] at hb2
          rcases List.mem_or_eq_of_mem_set hb2 with hb2 | hb2
          · obtain ⟨⟨ys2, w3, _⟩, _⟩ := z.own b ds hb2
            exact ⟨_, w3⟩
          · cases hb2
            exact ⟨_, h1⟩
        obtain ⟨q1, q2⟩ := SE.gain (s := (@S.mk s1.δ ω' s1.ι)) w1 w2 (H := H1) (fun b hb2 => rl.there b hb2) own1 rl.keep hn nA2 f1 (RpL.mono (fun a h => .inr h) Keeps.refl _ _ f2)
        exact k _ _ _ H' (hk2 y q2) q1
      · obtain ⟨w1, w2⟩ := behind hp cg g1 g2 g3 up dm
        exact hx cls x dd _ H' hk2 ⟨_, w1, w2⟩ xr) hx

theorem sw_raise {C : Addr} {x m : Str} {j : Nat} {p1 p2 p3 : Pos} (hc : X.calm = true) (tk : Takes X W) (q : PySem.W.excIn X.K C [.type "ValueError", .type "Exception", .type "BaseException", .type "object"] "ValueError.__new__" = true) (gC : X.mg x = some (.ref C)) (kC : PySem.W.keepIn X.K (.ref C) = true)
    (r1 : PySem.W.subIn X.K (.ref C) (.type "BaseException") = some true) (r2 : PySem.W.typeIn X.K (.ref C) = some (.type "type")) (k : ex (.ref C) none s) (hg : Gl X x := by rfl) (hdb : (x == ("__debug__" : Str)) = false := by decide) :
    SW X c W s ⟨nx, rt, bk, ct, ex⟩ (.Raise (some (.Call (.Name x p1) [.Constant (.str m) j p2] [] p3)) none pos) :=
  PS.mono (ps_raise hc tk (pmk_own PySem.F.excBase_ValueError q gC kC (raises_own r1 r2) hg hdb)) fun E σ H ⟨τ, e0, _, _, _, _, h5⟩ => h5 (.ref C) none none s σ H k e0 rfl
end
end DL

namespace DL
open PySem PySem.Spec PyProof.Rows L2

def obsM (ex : PySem.W.Frag → Bool) (fn : List He5.DefA) (K : PySem.W.Frag) : He.AlD := (ex K && fn.all fun d => d.ok K, fn.map fun d => He5.fnA K (d.at_ K))
def SaysM (ex : PySem.W.Frag → Bool) (fn : List He5.DefA) (K : PySem.W.Frag) : Prop := obsM ex fn K = He5.valA fn
def obsMG (n : Nat) (ex : PySem.W.Frag → Bool) (fn : List He5.DefA) (g : Addr → Option Obj) : He.AlD := obsM ex fn (He.frG g (He.asD g n))
def hookM (n : Nat) (ex : PySem.W.Frag → Bool) (fn : List He5.DefA) : PySem.W.Hook where
  α := He.AlD
  obs := fun s => obsMG n ex fn s.heap.get?
  val := fun _ => He5.valA fn
  says := fun _ h => ∃ K : PySem.W.Frag, K.In h ∧ SaysM ex fn K
  of := fun _ _ e => ⟨_, He.frG_in, e⟩
  keeps := fun _ _ _ ⟨K, hK, c⟩ k => ⟨K, PySem.W.Frag.In.keeps hK k, c⟩
section
variable {ex : PySem.W.Frag → Bool} {fn : List He5.DefA} {K : PySem.W.Frag}
theorem SaysM.fact (c : SaysM ex fn K) : ex K = true := (He.ba (show (ex K && fn.all fun d => d.ok K) = true from congrArg Prod.fst c)).1
theorem SaysM.def_ (c : SaysM ex fn K) (i : Nat) {d : He5.DefA} (h : fn[i]? = some d) : ∃ fd, FunD K d.name d.qual d.params d.body d.scope (d.dvs K) (d.kws K) (d.at_ K) fd := by
  have c2 := (He.ba (show (ex K && fn.all fun d => d.ok K) = true from congrArg Prod.fst c)).2
  have e2 : (fn.map fun d => He5.fnA K (d.at_ K))[i]? = (fn.map He5.DefA.val)[i]? := congrArg (fun z => z[i]?) (congrArg Prod.snd c)
  rw [List.getElem?_map, List.getElem?_map, h] at e2
  exact He5.DefA.funD (Option.some.inj e2) (List.all_eq_true.mp c2 d (List.mem_of_getElem? h))
end

def lawF : List D → (Rs → Prop) → Prop := fun ds P => ∃ ns : List Int, ds = [.scr ns] ∧ ns.length ≤ 63 ∧ P (.ok (.bl true))
theorem sqs_of {K : PySem.W.Frag} {H : Hp} {a : Addr} {xs : List V} (hO : Only H) (h : SqL K H a xs) : SqS K H a xs := by
  rcases h with (h | ⟨o, h⟩) | h
  · rcases hO a with q | ⟨o, ys, q⟩
    · rw [h] at q
      cases q
    · rw [h] at q
      cases q
  · exact .inl ⟨o, h⟩
  · exact .inr h
theorem law_sp {K : PySem.W.Frag} {H : Hp} {a : Addr} {ns : List Int} (hl : ns.length ≤ 63) (hO : Only H) (h : SqL K H a (ns.map V.int)) : spP K [false] lawF [.ref a] H (fun v _ => v = .bl true) fun _ _ _ => False := by
  refine ⟨fun _ => False, [.scr ns], (fun r => r = .ok (.bl true)), fun a h => h.elim, ⟨_, _, rfl, .inl ?_, rfl⟩, ⟨ns, rfl, hl, rfl⟩, fun v d H' A' p _ _ _ r => ?_, fun _ _ _ _ _ p => (by cases p), fun _ _ _ _ p => (by cases p)⟩
  · unfold Rp
    exact ⟨a, rfl, sqs_of hO h⟩
  · cases p
    exact r.bl_
theorem law_cx {P : Program} {w : World} {H : Hp} {s : Shared} {e : Value} {s' : Shared} (h : L2.CX P w [] H s (fun _ _ _ => False) e s') : False := by
  obtain ⟨_, _, _, _, _, _, _, _, _, _, _, _, z⟩ := h
  exact z
end DL
namespace DL
open PySem PySem.Spec PyProof.Rows L2
theorem StartB.v {ρ : List (Addr × List D)} {bs : List Bool} {d : D} {ds : List D} {δ : List (Option D)} (h : StartB ρ (false :: bs) (d :: ds) δ) : ∃ δ', δ = some d :: δ' ∧ StartB ρ bs ds δ' := by
  cases h with
  | val h => exact ⟨_, rfl, h⟩
theorem StartB.l {ρ : List (Addr × List D)} {bs : List Bool} {l : List D} {ds : List D} {δ : List (Option D)} (h : StartB ρ (true :: bs) (.lst l :: ds) δ) : ∃ p δ', δ = some (.ref p) :: δ' ∧ Mem ρ (p, l) ∧ StartB ρ bs ds δ' := by
  cases h with
  | lst hp h => exact ⟨_, _, rfl, hp, h⟩
  | oth hd h => exact absurd rfl (hd l)
theorem StartB.o {ρ : List (Addr × List D)} {bs : List Bool} {d : D} {ds : List D} {δ : List (Option D)} (h : StartB ρ (true :: bs) (d :: ds) δ) (hd : ∀ l, d ≠ .lst l) : ∃ δ', δ = some d :: δ' ∧ StartB ρ bs ds δ' := by
  cases h with
  | lst hp h => exact absurd rfl (hd _)
  | oth hd h => exact ⟨_, rfl, h⟩
theorem StartB.n {ρ : List (Addr × List D)} {δ : List (Option D)} (h : StartB ρ [] [] δ) : δ = [] := by
  cases h
  rfl
def Df (P : Program) (w : World) (K : PySem.W.Frag) (mg : Str → Option Value) (base : Heap) (k : Nat) (x : Str) (ps : List Str) (sp : Sp) : Prop :=
  ∃ (f : Addr) (fd : FuncData), FnOk P w K mg base (L2.CX P w) k f fd ps sp ∧ Binds K fd ps [] ∧ mg x = some (.ref f) ∧ PySem.W.keepIn K (.ref f) = true
section
variable {P : Program} {w : World} {K : PySem.W.Frag} {mg : Str → Option Value} {base : Heap} {x : Str} {params : Arguments} {body : List Stmt} {scope : Scope} {f : Addr}
theorem df_pure {qual : Str} {N ps : List Str} {k : Nat} {bs : List Bool} {Fs : List D → (Rs → Prop) → Prop} (F : ∃ fd, FunD K x qual params body scope [] [] f fd) (g : mg x = some (.ref f)) (S0 : FnScope N ps scope)
    (hbd : ∀ (kV doc pm : Value) (an : Option Addr) (cdv ct : Value) (us : List Value), us.length = ps.length → bindArgs (PySem.W.fnOf x qual params body scope .none kV doc pm an cdv ct) ⟨us, []⟩ = pure (ps.zip us)) (hb : bs.length = ps.length) (hN : ps.length ≤ N.length)
    (h : ∀ (cdv : Value) (A : Around) (outer : List PySem.Env) (s : Shared) (H : Hp) (E : XK), Room k (FX P w K mg base N qual scope f cdv A outer s H E).A → PassesOwn (model P w) (FX P w K mg base N qual scope f cdv A outer s H E).A (FX P w K mg base N qual scope f cdv A outer s H E).env (FX P w K mg base N qual scope f cdv A outer s H E).xe →
      ∀ (c : Cc) (W : WX), c.O0 = [] → Takes (FX P w K mg base N qual scope f cdv A outer s H E) W → (FX P w K mg base N qual scope f cdv A outer s H E).N = N → N.Nodup → ∀ ds (Q : Rs → Prop) δ, Fs ds Q → StartB c.ρ bs ds δ → LW (FX P w K mg base N qual scope f cdv A outer s H E) c W ⟨δ ++ List.replicate (N.length - ps.length) none, []⟩ (fnNd Q) body) : Df P w K mg base (k + 1) x ps (spP K bs Fs) := by
  obtain ⟨fd, F⟩ := F
  exact ⟨f, fd, fn_pure F S0 hb hN (fun X cdv A outer s H E hX hr po c W hO tk ds Q δ hF hS => by
    subst hX
    exact h cdv A outer s H E hr po c W hO tk rfl S0.nd ds Q δ hF hS), F.bindsN hbd, g, F.kp⟩
theorem df_mut {qual : Str} {N ps : List Str} {k : Nat} {Fs : List D → List D → (Rs → List D → Prop) → Prop} (F : ∃ fd, FunD K x qual params body scope [] [] f fd) (g : mg x = some (.ref f)) (S0 : FnScope N ps scope)
    (hbd : ∀ (kV doc pm : Value) (an : Option Addr) (cdv ct : Value) (us : List Value), us.length = ps.length → bindArgs (PySem.W.fnOf x qual params body scope .none kV doc pm an cdv ct) ⟨us, []⟩ = pure (ps.zip us)) (hN : ps.length ≤ N.length) (hn : ∀ os ds Q, Fs os ds Q → ds.length + 1 = ps.length)
    (h : ∀ (cdv : Value) (A : Around) (outer : List PySem.Env) (s : Shared) (H : Hp) (E : XK), Room k (FX P w K mg base N qual scope f cdv A outer s H E).A → PassesOwn (model P w) (FX P w K mg base N qual scope f cdv A outer s H E).A (FX P w K mg base N qual scope f cdv A outer s H E).env (FX P w K mg base N qual scope f cdv A outer s H E).xe →
      ∀ (c : Cc) (W : WX) (p : Addr), c.O0 = [p] → Takes (FX P w K mg base N qual scope f cdv A outer s H E) W → (FX P w K mg base N qual scope f cdv A outer s H E).N = N → N.Nodup → ∀ os ds (Q : Rs → List D → Prop), Fs os ds Q → LW (FX P w K mg base N qual scope f cdv A outer s H E) c W ⟨some (.ref p) :: ds.map some ++ List.replicate (N.length - ps.length) none, [(p, os)]⟩ (fnNdM p Q) body) : Df P w K mg base (k + 1) x ps (spM K Fs) := by
  obtain ⟨fd, F⟩ := F
  exact ⟨f, fd, fn_mut F S0 hN hn (fun X cdv A outer s H E hX hr po c W p hO _ tk os ds Q hF => by
    subst hX
    exact h cdv A outer s H E hr po c W p hO tk rfl S0.nd os ds Q hF), F.bindsN hbd, g, F.kp⟩
theorem Df.mono {j k : Nat} {ps : List Str} {sp : Sp} (d : Df P w K mg base j x ps sp) (h : j ≤ k) : Df P w K mg base k x ps sp := let ⟨f, fd, F, r⟩ := d; ⟨f, fd, F.mono h, r⟩
end
section
variable {X : Cx} {c : Cc} {W : WX} {s : S} {Φ : D → S → Prop} {Ξ : PX} {e : Expr} {es : List Expr} {pos : Pos} {x : Str} {p : Pos} {ps : List Str} {k : Nat}
theorem ew_fn {bs : List Bool} {Fs : List D → (Rs → Prop) → Prop} (F : Df X.prog X.w X.K X.mg X.base k x ps (spP X.K bs Fs)) (hr : Room k X.A) (tk : Takes X W) (h : AW X c W s (fun ds s1 => ∃ ds', VwB c s1 bs ds ds' ∧ Fs ds' (CallP c Φ Ξ s1)) Ξ (e :: es)) (hg : Gl X x := by rfl)
    (hdb : (x == ("__debug__" : Str)) = false := by decide) (he : starEach (e :: es) X.env = (false, eval e X.env) :: starEach es X.env := by rfl) (hpl : (backTo pos (starEach es X.env)).any (·.1) = false := by rfl) : EW X c W s Φ Ξ (.Call (.Name x p) (e :: es) [] pos) := by
  obtain ⟨f, fd, F, b, g, kp⟩ := F
  exact ew_call F hr g kp b tk h hg hdb he hpl
theorem ew_fnM {Fs : List D → List D → (Rs → List D → Prop) → Prop} (F : Df X.prog X.w X.K X.mg X.base k x ps (spM X.K Fs)) (hr : Room k X.A) (tk : Takes X W) (h : AW X c W s (fun ds s1 => ∃ q j os dr, ds = .ref q :: dr ∧ At s1.ω j (q, os) ∧ Fs os dr (fun r os' => ∃ ω', Pt s1.ω j (q, os') ω' ∧ CallP c Φ Ξ (@S.mk s1.δ ω' s1.ι) r)) Ξ (e :: es))
    (hg : Gl X x := by rfl) (hdb : (x == ("__debug__" : Str)) = false := by decide) (he : starEach (e :: es) X.env = (false, eval e X.env) :: starEach es X.env := by rfl) (hpl : (backTo pos (starEach es X.env)).any (·.1) = false := by rfl) : EW X c W s Φ Ξ (.Call (.Name x p) (e :: es) [] pos) := by
  obtain ⟨f, fd, F, b, g, kp⟩ := F
  exact ew_callM F hr g kp b tk h hg hdb he hpl
end
end DL
namespace DL
open PySem PySem.Spec PyProof.Rows L2
inductive Ix : List Str → Str → Nat → Prop
  | z {x : Str} {N : List Str} : Ix (x :: N) x 0
  | s {x y : Str} {N : List Str} {i : Nat} (h : Ix N x i) : Ix (y :: N) x (i + 1)
theorem Ix.get {N : List Str} {x : Str} {i : Nat} (h : Ix N x i) : N[i]? = some x := by
  induction h with
  | z => rfl
  | s _ ih => simpa using ih
section
variable {X : Cx} {c : Cc} {W : WX} {s : S} {N : List Str} {nx : S → Prop} {rt : D → S → Prop} {bk ct : S → Prop} {ex : PX} {Φ : D → S → Prop} {Ξ : PX} {e : Expr} {pos : Pos} {x : Str}
theorem en {i : Nat} {d : D} (hN : X.N = N) (ix : Ix N x i) (hd : At s.δ i (some d)) (k : Φ d s) (hv : Vis X.env.scope x := by first | exact Or.inl rfl | exact Or.inr (Or.inl rfl) | exact Or.inr (Or.inr rfl))
    (hdb : (x == ("__debug__" : Str)) = false := by decide) (hcd : (x == ("__classdict__" : Str)) = false := by decide) : EW X c W s Φ Ξ (.Name x pos) := ew_name hd k (by rw [hN]; exact ix.get) hv hdb hcd
theorem ss {i : Nat} {px : Pos} (hN : X.N = N) (nd : N.Nodup) (ix : Ix N x i) (h : EW X c W s (fun d s1 => ∃ δ', Pt s1.δ i (some d) δ' ∧ nx (@S.mk δ' s1.ω s1.ι)) ex e) (hx : Loc X.env.scope x := by first | exact .inl rfl | exact .inr rfl)
    (hs : swapsWith e (some (.Name x px)) pos.line X.env = pure false := by rfl) (hf : X.fn x = true ∨ X.env.scope.names.lookup x = some .local := by first | exact .inl rfl | exact .inr rfl) : SW X c W s ⟨nx, rt, bk, ct, ex⟩ (.Assign [.Name x px] e pos) :=
  sw_set (by rw [hN]; exact nd) h (by rw [hN]; exact ix.get) hx hs hf
end
end DL
namespace DL
open PySem PySem.Spec PyProof.Rows L2
theorem mul_r {i j : Int} (h1 : -(2 ^ 63) < j) (h2 : j < 2 ^ 63) : IntMulOk i j := .of_right (intBits_le_64 (by omega) (by omega))
theorem mul_l {i j : Int} (h1 : -(2 ^ 63) < i) (h2 : i < 2 ^ 63) : IntMulOk i j := .of_left (intBits_le_64 (by omega) (by omega))
theorem mul_w {i j : Int} (h1 : -(2 ^ 400) < i) (h2 : i < 2 ^ 400) (h3 : -(2 ^ 400) < j) (h4 : j < 2 ^ 400) : IntMulOk i j :=
  (wide_mul (a := 400) (b := 400) (by omega) (by omega) (by decide) (by decide) (by decide)).ok
theorem div_w {i j : Int} (h1 : 0 < j) (h2 : j < 2 ^ 400) : CDivW i j := wide_div (b := 400) h1 (by omega) (by decide) (by decide)
theorem pow_ok {i j : Int} (h1 : 0 ≤ j) (h2 : j ≤ 1000) (h3 : -1000 < i) (h4 : i < 1000) : CPow i j := ⟨h1, by omega, by omega⟩
theorem at_in {α : Type} {l : List α} {i : Int} {a : α} (h0 : 0 ≤ i) (h : l[i.toNat]? = some a) : atI l i = some a := by
  have hl : i.toNat < l.length := (List.getElem?_eq_some_iff.mp h).1
  have e : i = (i.toNat : Nat) := by omega
  unfold atI
  have e2 : ixN l.length i = some i.toNat := by
    unfold ixN
    rw [if_pos h0, if_pos (by omega)]
  rw [e2]
  exact h
theorem ints_at {l : List Int} {i : Int} (h0 : 0 ≤ i) (h : i < l.length) : ∃ z : Int, z ∈ l ∧ l[i.toNat]? = some z ∧ atI (l.map D.int) i = some (.int z) := by
  have hl : i.toNat < l.length := by omega
  exact ⟨l[i.toNat], List.getElem_mem hl, List.getElem?_eq_getElem hl, at_in h0 (by rw [List.getElem?_map, List.getElem?_eq_getElem hl]; rfl)⟩
end DL

namespace DL
open PySem PySem.Spec PyProof.Rows L2
inductive OwnN (x : Str) : Prop
  | mk
section
variable {X : Cx} {c : Cc} {W : WX} {s : S} {N : List Str} {nx : S → Prop} {rt : D → S → Prop} {bk ct : S → Prop} {ex : PX} {Φ : D → S → Prop} {Ξ : PX} {e a b tg iter elt : Expr} {es : List Expr} {pos p0 px : Pos} {x y : Str} {ifs : List Expr} {scope sc : Scope}
theorem sso {i : Nat} (hN : X.N = N) (nd : N.Nodup) (ix : Ix N x i) (ow : OwnN x) (h : EW X c W s (fun d s1 => ∃ δ', Pt s1.δ i (some d) δ' ∧ nx (@S.mk δ' s1.ω s1.ι)) ex e) (hx : Loc X.env.scope x := by first | exact .inl rfl | exact .inr rfl)
    (hs : swapsWith e (some (.Name x px)) pos.line X.env = pure false := by rfl) (hf : X.fn x = true ∨ X.env.scope.names.lookup x = some .local := by first | exact .inl rfl | exact .inr rfl) : SW X c W s ⟨nx, rt, bk, ct, ex⟩ (.Assign [.Name x px] e pos) :=
  ss hN nd ix h hx hs hf
inductive CatF (c : Cc) : D → D → S → (D → S → Prop) → Prop
  | mk {d1 d2 : D} {l m : List D} {s : S} {Φ : D → S → Prop} (h1 : Src c s d1 l) (h2 : Src c s d2 m) (hl : l.length + m.length ≤ 16777216) (k : Φ (.lst (l ++ m)) s) : CatF c d1 d2 s Φ
theorem od_catF {K : PySem.W.Frag} : OpD K c rCat (CatF c) := fun σ H s τ v1 v2 d1 d2 Φ Q e r k => by
  cases r with
  | @mk _ _ _ _ h1 h2 hl q =>
    refine od_cat σ H s τ v1 v2 d1 d2 (fun d s' => ∃ p l ω, d = .ref p ∧ p ∉ c.O0 ∧ s'.ω = (p, l) :: ω ∧ Φ (.lst l) (@S.mk s'.δ ω s'.ι)) Q e (.mk h1 h2 hl fun p np => ⟨p, _, _, rfl, np, rfl, q⟩) fun v d s' H' ⟨p, l, ω, ed, np, eo, q⟩ z => ?_
    obtain ⟨δ, o⟩ := s'
    dsimp only at eo
    subst eo ed
    exact k v _ _ H' q (SE.frz (s := @S.mk δ ω _) z np)
theorem ew_addF (h : EW X c W s (fun d1 s1 => EW X c W s1 (fun d2 s2 => AddI d1 d2 s2 Φ ∨ CatF c d1 d2 s2 Φ) Ξ b) Ξ a) : EW X c W s Φ Ξ (.BinOp a .Add b pos) :=
  ew_bin (opr_or op_add op_cat) (od_or (od_int0 (g' := fun i j => D.int (i + j)) fun _ _ => rfl) od_catF) h
theorem sw_setLcF {i : Nat} {y : Str} {py' : Pos} {own : List (Str × Nat)} {R : D → S → (S → Prop) → Prop} (hc : X.calm = true) (hN : X.N.Nodup) (ok : BlkOk X.N X.env.scope scope own)
    (hg : ∀ (s0 : Shared) (H0 : Hp) (C : Addr) (cl : List (Str × Addr)) (fp : List Addr), GW (X.blk s0 H0 scope (compEnvC scope cl C X.env) fp) c (own.map fun q : Str × Nat => q.2) tg R)
    (h : IW X c W s (LcPost X c scope (own.map fun q : Str × Nat => q.2) R ifs elt (fun d s1 => ∃ p l ω, d = .ref p ∧ p ∉ c.O0 ∧ s1.ω = (p, l) :: ω ∧ ∃ δ', Pt s1.δ i (some (.lst l)) δ' ∧ nx (@S.mk δ' ω s1.ι))) ex tg iter) (hy : X.N[i]? = some y) (hyl : X.env.scope.names.lookup y = some .local := by rfl)
    (hsw : swapsWith (.ListComp elt [⟨tg, iter, ifs, 0⟩] scope p0) (some (.Name y py')) pos.line X.env = pure true := by exact sw_true rfl rfl rfl (by decide +kernel)) (hs : ∀ x, foldedSetIterable iter X.env x = pure x := by intro _; rfl) :
    SW X c W s ⟨nx, rt, bk, ct, ex⟩ (.Assign [.Name y py'] (.ListComp elt [⟨tg, iter, ifs, 0⟩] scope p0) pos) :=
  PS.mono (ps_setLc hc hN hy hyl hsw h ok (g := gR X.K c (own.map fun q : Str × Nat => q.2) R) (tt := blkT X scope ifs) (te := blkE X scope elt) hg (fun s0 H0 C cl fp => ⟨fun pins s σ H Q I ⟨t, ht, q⟩ => (ht s0 H0 C cl fp).run pins s σ H Q I q⟩)
    (fun s0 H0 C cl fp => ⟨fun pins s σ H Q I ⟨t, ht, q⟩ => (ht s0 H0 C cl fp).run pins s σ H Q I q⟩) hs) fun E σ H ⟨τ, e0, h1, h2, h3, h4, h5⟩ =>
      ⟨τ, e0, fun J l C s1 H1 τ1 ⟨I, i0, iC, iS, iE⟩ e1 sb js => lc_turns (Q := fun v H' => gName i v σ H' E.nx) e1 js i0 iC iS fun acc ω ι p H' w np e2 => by
        obtain ⟨p', l', ω', ed, np', eo, δ', hp, q⟩ := iE acc ω ι p w np
        cases ed
        cases eo
        exact h1 _ _ H' q (SE.put (s := (@S.mk s1.δ ω ι)) ((SE.frz (s := (@S.mk s1.δ ω ι)) e2 np).sub fun x hx => by
          rcases List.mem_cons.mp hx with hx | hx
          · rw [hx]; exact List.mem_cons_self
          · exact List.mem_cons_of_mem _ (sb x hx)) hp), fun cls x dd s' H' q e1 => h5 cls x dd s' σ H' q e1⟩
theorem blk_ok {own : List (Str × Nat)} (hN : X.N = N) (hsc : X.env.scope = sc) (h : blkC N sc scope own = true) : BlkOk X.N X.env.scope scope own := by
  rw [hN, hsc]
  exact blkOk_by h
theorem lcN {i : Nat} (hN : X.N = N) (nd : N.Nodup) (ix : Ix N x i) (hsc : X.env.scope = sc) (hb : blkC N sc scope [(x, i)] = true) (h : IW X c W s (LcPost X c scope [i] (GN i) ifs elt Φ) Ξ (.Name x px) iter) (hc : X.calm = true := by rfl)
    (hx : ∀ (s0 : Shared) (H0 : Hp) (C : Addr) (cl : List (Str × Addr)) (fp : List Addr), Loc (X.blk s0 H0 scope (compEnvC scope cl C X.env) fp).env.scope x := by intros; first | exact .inl rfl | exact .inr rfl) (hf : ∀ (s0 : Shared) (H0 : Hp) (C : Addr) (cl : List (Str × Addr)) (fp : List Addr), (X.blk s0 H0 scope (compEnvC scope cl C X.env) fp).fn x = true ∨ (X.blk s0 H0 scope (compEnvC scope cl C X.env) fp).env.scope.names.lookup x = some .local := by intros; first | exact .inl rfl | exact .inr rfl) (hs : ∀ x, foldedSetIterable iter X.env x = pure x := by intro _; rfl) : EW X c W s Φ Ξ (.ListComp elt [⟨.Name x px, iter, ifs, 0⟩] scope pos) :=
  ew_lcO (own := [(x, i)]) hc (by rw [hN]; exact nd) (blk_ok hN hsc hb) (fun s0 H0 C cl fp => gw_name (by show X.N.Nodup; rw [hN]; exact nd) (List.mem_singleton.mpr rfl) (by show X.N[i]? = some x; rw [hN]; exact ix.get) (hx s0 H0 C cl fp) (hf s0 H0 C cl fp)) h hs
theorem slcN {i j : Nat} {py' : Pos} (hN : X.N = N) (nd : N.Nodup) (iy : Ix N y j) (ix : Ix N x i) (hsc : X.env.scope = sc) (hb : blkC N sc scope [(x, i)] = true) (h : IW X c W s (LcPost X c scope [i] (GN i) ifs elt (fun d s1 => ∃ p l ω, d = .ref p ∧ p ∉ c.O0 ∧ s1.ω = (p, l) :: ω ∧ ∃ δ', Pt s1.δ j (some (.lst l)) δ' ∧ nx (@S.mk δ' ω s1.ι))) ex (.Name x px) iter)
    (hc : X.calm = true := by rfl) (hx : ∀ (s0 : Shared) (H0 : Hp) (C : Addr) (cl : List (Str × Addr)) (fp : List Addr), Loc (X.blk s0 H0 scope (compEnvC scope cl C X.env) fp).env.scope x := by intros; first | exact .inl rfl | exact .inr rfl) (hf : ∀ (s0 : Shared) (H0 : Hp) (C : Addr) (cl : List (Str × Addr)) (fp : List Addr), (X.blk s0 H0 scope (compEnvC scope cl C X.env) fp).fn x = true ∨ (X.blk s0 H0 scope (compEnvC scope cl C X.env) fp).env.scope.names.lookup x = some .local := by intros; first | exact .inl rfl | exact .inr rfl) (hyl : X.env.scope.names.lookup y = some .local := by rfl)
    (hsw : swapsWith (.ListComp elt [⟨.Name x px, iter, ifs, 0⟩] scope p0) (some (.Name y py')) pos.line X.env = pure true := by exact sw_true rfl rfl rfl (by decide +kernel)) (hs : ∀ x, foldedSetIterable iter X.env x = pure x := by intro _; rfl) :
    SW X c W s ⟨nx, rt, bk, ct, ex⟩ (.Assign [.Name y py'] (.ListComp elt [⟨.Name x px, iter, ifs, 0⟩] scope p0) pos) :=
  sw_setLcF (own := [(x, i)]) hc (by rw [hN]; exact nd) (blk_ok hN hsc hb) (fun s0 H0 C cl fp => gw_name (by show X.N.Nodup; rw [hN]; exact nd) (List.mem_singleton.mpr rfl) (by show X.N[i]? = some x; rw [hN]; exact ix.get) (hx s0 H0 C cl fp) (hf s0 H0 C cl fp)) h (by rw [hN]; exact iy.get) hyl hsw hs
theorem slcNO {i j : Nat} {py' : Pos} (hN : X.N = N) (nd : N.Nodup) (iy : Ix N y j) (ow : OwnN y) (ix : Ix N x i) (hsc : X.env.scope = sc) (hb : blkC N sc scope [(x, i)] = true) (h : IW X c W s (LcPost X c scope [i] (GN i) ifs elt (fun d s1 => ∃ δ', Pt s1.δ j (some d) δ' ∧ nx (@S.mk δ' s1.ω s1.ι))) ex (.Name x px) iter)
    (hc : X.calm = true := by rfl) (hx : ∀ (s0 : Shared) (H0 : Hp) (C : Addr) (cl : List (Str × Addr)) (fp : List Addr), Loc (X.blk s0 H0 scope (compEnvC scope cl C X.env) fp).env.scope x := by intros; first | exact .inl rfl | exact .inr rfl) (hf : ∀ (s0 : Shared) (H0 : Hp) (C : Addr) (cl : List (Str × Addr)) (fp : List Addr), (X.blk s0 H0 scope (compEnvC scope cl C X.env) fp).fn x = true ∨ (X.blk s0 H0 scope (compEnvC scope cl C X.env) fp).env.scope.names.lookup x = some .local := by intros; first | exact .inl rfl | exact .inr rfl) (hyl : X.env.scope.names.lookup y = some .local := by rfl)
    (hsw : swapsWith (.ListComp elt [⟨.Name x px, iter, ifs, 0⟩] scope p0) (some (.Name y py')) pos.line X.env = pure true := by exact sw_true rfl rfl rfl (by decide +kernel)) (hs : ∀ x, foldedSetIterable iter X.env x = pure x := by intro _; rfl) :
    SW X c W s ⟨nx, rt, bk, ct, ex⟩ (.Assign [.Name y py'] (.ListComp elt [⟨.Name x px, iter, ifs, 0⟩] scope p0) pos) :=
  sw_setLcO (own := [(x, i)]) hc (by rw [hN]; exact nd) (blk_ok hN hsc hb) (fun s0 H0 C cl fp => gw_name (by show X.N.Nodup; rw [hN]; exact nd) (List.mem_singleton.mpr rfl) (by show X.N[i]? = some x; rw [hN]; exact ix.get) (hx s0 H0 C cl fp) (hf s0 H0 C cl fp)) h (by rw [hN]; exact iy.get) hyl hsw hs
theorem gwP {vs : List Nat} {i j k : Nat} {q r pt : Pos} (hc : X.calm = true) (hN : X.N.Nodup) (vi : i ∈ vs) (vj : j ∈ vs) (hi : X.N[i]? = some x) (hj : X.N[j]? = some y) (hx : Loc X.env.scope x) (hy : Loc X.env.scope y) (fx : X.fn x = true ∨ X.env.scope.names.lookup x = some .local) (fy : X.fn y = true ∨ X.env.scope.names.lookup y = some .local)
    (hn : (assignEach [.Name x q, .Name y r] X.env).length = 2 := by rfl) (hst : (assignEach [.Name x q, .Name y r] X.env).findIdx? (·.1) = none := by rfl) (h1 : (assignEach (.Name x q :: [.Name y r]) X.env).map (·.2) = assign (.Name x q) X.env :: (assignEach [.Name y r] X.env).map (·.2) := by rfl) (h2 : (assignEach (.Name y r :: []) X.env).map (·.2) = assign (.Name y r) X.env :: (assignEach [] X.env).map (·.2) := by rfl) :
    GW X c vs (.Tuple [.Name x q, .Name y r] k pt) (GT 2 (GC (GN i) (GC (GN j) GZ))) :=
  gw_tup hc (gws_cons (gw_name hN vi hi hx fx) (gws_cons (gw_name hN vj hj hy fy) gws_nil h2) h1) hn hst
theorem lcP {i j k : Nat} {q r pt : Pos} (hN : X.N = N) (nd : N.Nodup) (ix : Ix N x i) (iy : Ix N y j) (hsc : X.env.scope = sc) (hb : blkC N sc scope [(x, i), (y, j)] = true) (h : IW X c W s (LcPost X c scope [i, j] (GT 2 (GC (GN i) (GC (GN j) GZ))) ifs elt Φ) Ξ (.Tuple [.Name x q, .Name y r] k pt) iter) (hc : X.calm = true := by rfl)
    (hx : ∀ (s0 : Shared) (H0 : Hp) (C : Addr) (cl : List (Str × Addr)) (fp : List Addr), Loc (X.blk s0 H0 scope (compEnvC scope cl C X.env) fp).env.scope x := by intros; first | exact .inl rfl | exact .inr rfl) (hy : ∀ (s0 : Shared) (H0 : Hp) (C : Addr) (cl : List (Str × Addr)) (fp : List Addr), Loc (X.blk s0 H0 scope (compEnvC scope cl C X.env) fp).env.scope y := by intros; first | exact .inl rfl | exact .inr rfl) (fx : ∀ (s0 : Shared) (H0 : Hp) (C : Addr) (cl : List (Str × Addr)) (fp : List Addr), (X.blk s0 H0 scope (compEnvC scope cl C X.env) fp).fn x = true ∨ (X.blk s0 H0 scope (compEnvC scope cl C X.env) fp).env.scope.names.lookup x = some .local := by intros; first | exact .inl rfl | exact .inr rfl) (fy : ∀ (s0 : Shared) (H0 : Hp) (C : Addr) (cl : List (Str × Addr)) (fp : List Addr), (X.blk s0 H0 scope (compEnvC scope cl C X.env) fp).fn y = true ∨ (X.blk s0 H0 scope (compEnvC scope cl C X.env) fp).env.scope.names.lookup y = some .local := by intros; first | exact .inl rfl | exact .inr rfl) (hs : ∀ x, foldedSetIterable iter X.env x = pure x := by intro _; rfl) : EW X c W s Φ Ξ (.ListComp elt [⟨.Tuple [.Name x q, .Name y r] k pt, iter, ifs, 0⟩] scope pos) :=
  ew_lcO (own := [(x, i), (y, j)]) hc (by rw [hN]; exact nd) (blk_ok hN hsc hb) (fun s0 H0 C cl fp => gwP hc (by show X.N.Nodup; rw [hN]; exact nd) List.mem_cons_self (List.mem_cons_of_mem _ List.mem_cons_self) (by show X.N[i]? = some x; rw [hN]; exact ix.get) (by show X.N[j]? = some y; rw [hN]; exact iy.get) (hx s0 H0 C cl fp) (hy s0 H0 C cl fp) (fx s0 H0 C cl fp) (fy s0 H0 C cl fp)) h hs
theorem slcP {i j l k : Nat} {z : Str} {q r pt py' : Pos} (hN : X.N = N) (nd : N.Nodup) (iz : Ix N z l) (ix : Ix N x i) (iy : Ix N y j) (hsc : X.env.scope = sc) (hb : blkC N sc scope [(x, i), (y, j)] = true) (h : IW X c W s (LcPost X c scope [i, j] (GT 2 (GC (GN i) (GC (GN j) GZ))) ifs elt (fun d s1 => ∃ p m ω, d = .ref p ∧ p ∉ c.O0 ∧ s1.ω = (p, m) :: ω ∧ ∃ δ', Pt s1.δ l (some (.lst m)) δ' ∧ nx (@S.mk δ' ω s1.ι))) ex (.Tuple [.Name x q, .Name y r] k pt) iter) (hc : X.calm = true := by rfl)
    (hx : ∀ (s0 : Shared) (H0 : Hp) (C : Addr) (cl : List (Str × Addr)) (fp : List Addr), Loc (X.blk s0 H0 scope (compEnvC scope cl C X.env) fp).env.scope x := by intros; first | exact .inl rfl | exact .inr rfl) (hy : ∀ (s0 : Shared) (H0 : Hp) (C : Addr) (cl : List (Str × Addr)) (fp : List Addr), Loc (X.blk s0 H0 scope (compEnvC scope cl C X.env) fp).env.scope y := by intros; first | exact .inl rfl | exact .inr rfl) (fx : ∀ (s0 : Shared) (H0 : Hp) (C : Addr) (cl : List (Str × Addr)) (fp : List Addr), (X.blk s0 H0 scope (compEnvC scope cl C X.env) fp).fn x = true ∨ (X.blk s0 H0 scope (compEnvC scope cl C X.env) fp).env.scope.names.lookup x = some .local := by intros; first | exact .inl rfl | exact .inr rfl) (fy : ∀ (s0 : Shared) (H0 : Hp) (C : Addr) (cl : List (Str × Addr)) (fp : List Addr), (X.blk s0 H0 scope (compEnvC scope cl C X.env) fp).fn y = true ∨ (X.blk s0 H0 scope (compEnvC scope cl C X.env) fp).env.scope.names.lookup y = some .local := by intros; first | exact .inl rfl | exact .inr rfl) (hzl : X.env.scope.names.lookup z = some .local := by rfl)
    (hsw : swapsWith (.ListComp elt [⟨.Tuple [.Name x q, .Name y r] k pt, iter, ifs, 0⟩] scope p0) (some (.Name z py')) pos.line X.env = pure true := by exact sw_true rfl rfl rfl (by decide +kernel)) (hs : ∀ x, foldedSetIterable iter X.env x = pure x := by intro _; rfl) :
    SW X c W s ⟨nx, rt, bk, ct, ex⟩ (.Assign [.Name z py'] (.ListComp elt [⟨.Tuple [.Name x q, .Name y r] k pt, iter, ifs, 0⟩] scope p0) pos) :=
  sw_setLcF (own := [(x, i), (y, j)]) hc (by rw [hN]; exact nd) (blk_ok hN hsc hb) (fun s0 H0 C cl fp => gwP hc (by show X.N.Nodup; rw [hN]; exact nd) List.mem_cons_self (List.mem_cons_of_mem _ List.mem_cons_self) (by show X.N[i]? = some x; rw [hN]; exact ix.get) (by show X.N[j]? = some y; rw [hN]; exact iy.get) (hx s0 H0 C cl fp) (hy s0 H0 C cl fp) (fx s0 H0 C cl fp) (fy s0 H0 C cl fp)) h (by rw [hN]; exact iz.get) hzl hsw hs
theorem forN {i : Nat} {body : List Stmt} (po : PassesOwn (model X.prog X.w) X.A X.env X.xe) (hN : X.N = N) (nd : N.Nodup) (ix : Ix N x i)
    (h : IW X c W s (fun l C s1 => ∃ I : Nat → S → Prop, I 0 s1 ∧ (∀ i s', I i s' → C s') ∧ (∀ j d s', l[j]? = some d → I j s' → GN i d s' fun s2 => LW X c W s2 ⟨I (j + 1), rt, nx, I (j + 1), ex⟩ body) ∧ (∀ s', I l.length s' → nx s')) ex (.Name x px) iter)
    (hc : X.calm = true := by rfl) (hx : Loc X.env.scope x := by first | exact .inl rfl | exact .inr rfl) (hf : X.fn x = true ∨ X.env.scope.names.lookup x = some .local := by first | exact .inl rfl | exact .inr rfl) (hs : ∀ x, foldedSetIterable iter X.env x = pure x := by intro _; rfl) : SW X c W s ⟨nx, rt, bk, ct, ex⟩ (.For (.Name x px) iter body [] pos) :=
  sw_for (vs := [i]) po hc (gw_name (by rw [hN]; exact nd) (List.mem_singleton.mpr rfl) (by rw [hN]; exact ix.get) hx hf) h hs
theorem forP {i j k : Nat} {q r pt : Pos} {body : List Stmt} (po : PassesOwn (model X.prog X.w) X.A X.env X.xe) (hN : X.N = N) (nd : N.Nodup) (ix : Ix N x i) (iy : Ix N y j)
    (h : IW X c W s (fun l C s1 => ∃ I : Nat → S → Prop, I 0 s1 ∧ (∀ i s', I i s' → C s') ∧ (∀ n d s', l[n]? = some d → I n s' → GT 2 (GC (GN i) (GC (GN j) GZ)) d s' fun s2 => LW X c W s2 ⟨I (n + 1), rt, nx, I (n + 1), ex⟩ body) ∧ (∀ s', I l.length s' → nx s')) ex (.Tuple [.Name x q, .Name y r] k pt) iter)
    (hc : X.calm = true := by rfl) (hx : Loc X.env.scope x := by first | exact .inl rfl | exact .inr rfl) (hy : Loc X.env.scope y := by first | exact .inl rfl | exact .inr rfl) (fx : X.fn x = true ∨ X.env.scope.names.lookup x = some .local := by first | exact .inl rfl | exact .inr rfl) (fy : X.fn y = true ∨ X.env.scope.names.lookup y = some .local := by first | exact .inl rfl | exact .inr rfl)
    (hs : ∀ x, foldedSetIterable iter X.env x = pure x := by intro _; rfl) : SW X c W s ⟨nx, rt, bk, ct, ex⟩ (.For (.Tuple [.Name x q, .Name y r] k pt) iter body [] pos) :=
  sw_for (vs := [i, j]) po hc (gwP hc (by rw [hN]; exact nd) List.mem_cons_self (List.mem_cons_of_mem _ List.mem_cons_self) (by rw [hN]; exact ix.get) (by rw [hN]; exact iy.get) hx hy fx fy) h hs
theorem rgD_of {lo : Int} {n i : Nat} {d : D} (h : (rgD lo n)[i]? = some d) : d = .int (lo + i) ∧ i < n := by
  have hl : i < n := by
    have := (List.getElem?_eq_some_iff.mp h).1
    rw [rgD_len] at this
    exact this
  rw [rgD_get hl] at h
  cases h
  exact ⟨rfl, hl⟩
theorem parN {i j : Nat} {py' pt : Pos} {kt : Nat} {k2 : Nat} {pt2 : Pos} (hc : X.calm = true) (hN : X.N = N) (nd : N.Nodup) (ix : Ix N x i) (iy : Ix N y j) (h : EW X c W s (fun d1 s1 => EW X c W s1 (fun d2 s2 => ∃ δ' δ'', Pt s2.δ i (some d1) δ' ∧ Pt δ' j (some d2) δ'' ∧ nx (@S.mk δ'' s2.ω s2.ι)) ex b) ex a)
    (hij : i ≠ j := by decide) (hx : X.env.scope.names.lookup x = some .local := by rfl) (hy : X.env.scope.names.lookup y = some .local := by rfl)
    (hw : swappedStores [.Tuple [.Name x px, .Name y py'] kt pt] (.Tuple [a, b] k2 pt2) X.env = pure (some [x, y]) := by rfl) (hs : swapsWithSole [.Tuple [.Name x px, .Name y py'] kt pt] (.Tuple [a, b] k2 pt2) pos.line X.env = pure false := by rfl)
    (hs1 : starEach [a, b] X.env = (false, eval a X.env) :: starEach [b] X.env := by rfl) (hs2 : starEach [b] X.env = (false, eval b X.env) :: starEach [] X.env := by rfl) :
    SW X c W s ⟨nx, rt, bk, ct, ex⟩ (.Assign [.Tuple [.Name x px, .Name y py'] kt pt] (.Tuple [a, b] k2 pt2) pos) :=
  sw_par hc (by rw [hN]; exact nd) h hij (by rw [hN]; exact ix.get) (by rw [hN]; exact iy.get) hx hy hw hs hs1 hs2
theorem asgP {i j k : Nat} {q r pt : Pos} (hc : X.calm = true) (hN : X.N = N) (nd : N.Nodup) (ix : Ix N x i) (iy : Ix N y j) (h : EW X c W s (fun d s1 => GT 2 (GC (GN i) (GC (GN j) GZ)) d s1 nx) ex e)
    (hx : Loc X.env.scope x := by first | exact .inl rfl | exact .inr rfl) (hy : Loc X.env.scope y := by first | exact .inl rfl | exact .inr rfl) (fx : X.fn x = true ∨ X.env.scope.names.lookup x = some .local := by first | exact .inl rfl | exact .inr rfl) (fy : X.fn y = true ∨ X.env.scope.names.lookup y = some .local := by first | exact .inl rfl | exact .inr rfl)
    (hs : swapsWithSole [.Tuple [.Name x q, .Name y r] k pt] e pos.line X.env = pure false := by rfl) (hw : swappedStores [.Tuple [.Name x q, .Name y r] k pt] e X.env = pure none := by rfl) : SW X c W s ⟨nx, rt, bk, ct, ex⟩ (.Assign [.Tuple [.Name x q, .Name y r] k pt] e pos) :=
  sw_asg (vs := [i, j]) (gwP hc (by rw [hN]; exact nd) List.mem_cons_self (List.mem_cons_of_mem _ List.mem_cons_self) (by rw [hN]; exact ix.get) (by rw [hN]; exact iy.get) hx hy fx fy) h hs hw
theorem callp_ok {d : D} (h : Φ d s) : CallP c Φ Ξ s (.ok d) := h
theorem callp_own {l : List D} (h : ∀ p, p ∉ c.O0 → Φ (.ref p) (@S.mk s.δ ((p, l) :: s.ω) s.ι)) : CallP c Φ Ξ s (.own l) := h
theorem callp_exc {cls : Value} {z : XD} (h : Ξ cls z s) : CallP c Φ Ξ s (.exc cls z) := h
theorem takes_wf : Takes X WF := fun _ _ ⟨_, _, _, _, _, _, _, _, _, _, _, _, _, _, _, _, w⟩ => w.elim
theorem sw_try {C : Value} {body suite : List Stmt} {b₀ : Stmt} {np pos' : Pos} (hn : Names X x C) (tk : Takes X W)
    (hb : ∀ (W' : WX) (pn : List (Addr × Obj)) (xe : Value → Shared → Prop), Takes (X.tr pn xe) W' → PassesOwn (model X.prog X.w) X.A X.env xe → LW (X.tr pn xe) c W' s ⟨nx, rt, bk, ct, fun cls z s' => ∃ b, PySem.W.exmOne X.K cls C = some b ∧
      (b = true → ∀ (a : Addr) (oe : Obj) (pn : List (Addr × Obj)), LW (X.suite a ((a, oe) :: pn)) c WF s' ⟨nx, rt, bk, ct, XF⟩ (b₀ :: suite)) ∧ (b = false → ex cls z s')⟩ body) (hs : X.stack = X.env :: X.outer := by rfl) (hf : X.env.frame = some X.env.locals := by rfl) :
    SW X c W s ⟨nx, rt, bk, ct, ex⟩ (.Try body [.ExceptHandler (some (.Name x np)) none (b₀ :: suite) pos'] [] [] pos) :=
  PS.mono (ps_try_only (tb := fun W' => sW X.K c W' s ⟨nx, rt, bk, ct, fun cls z s' => ∃ b, PySem.W.exmOne X.K cls C = some b ∧ (b = true → ∀ (a : Addr) (oe : Obj) (pn : List (Addr × Obj)), LW (X.suite a ((a, oe) :: pn)) c WF s' ⟨nx, rt, bk, ct, XF⟩ (b₀ :: suite)) ∧ (b = false → ex cls z s')⟩)
    (ts := fun a cls d => fun D σ H => ∃ t, (∀ (oe : Obj) (pn : List (Addr × Obj)), PSs (X.suite a ((a, oe) :: pn)) (b₀ :: suite) t) ∧ t D σ H) hs hf hn tk (fun W' pn xe tk' po' => hb W' pn xe tk' po')
    (fun a oe cls d pn _ _ => ⟨fun pins s σ H D I ⟨t, ht, q⟩ => (ht oe pn).run pins s σ H D I q⟩)) fun E σ H ⟨τ, e0, h1, h2, h3, h4, h5⟩ =>
      ⟨τ, e0, h1, h2, h3, h4, fun cls z dd s' σ' H' ⟨b, hm, hy, hno⟩ e1 xr => ⟨b, hm, fun eb a _ => ⟨sW X.K c WF s' ⟨nx, rt, bk, ct, XF⟩, hy eb a, τ, e1, h1, h2, h3, h4, fun _ _ _ _ _ _ q => q.elim⟩, fun eb => h5 cls z dd s' σ' H' (hno eb) e1 xr⟩⟩
inductive SumR (c : Cc) : List D → S → (D → S → Prop) → Prop
  | mk {d : D} {l : List D} {ns : List Int} {s : S} {Φ : D → S → Prop} (h : Sl c s d l) (hl : l = ns.map D.int) (k : Φ (.int ns.sum) s) : SumR c [d] s Φ
inductive SrtI (c : Cc) : List D → S → (D → S → Prop) → Prop
  | mk {d : D} {l : List D} {ns : List Int} {s : S} {Φ : D → S → Prop} (h : Sl c s d l) (hl : l = ns.map D.int) (k : ∀ (ns' : List Int) (p : Addr), ns'.Perm ns → ns'.Pairwise (· ≤ ·) → p ∉ c.O0 → Φ (.ref p) (@S.mk s.δ ((p, ns'.map D.int) :: s.ω) s.ι)) : SrtI c [d] s Φ
@[reducible] def D.pr (p : Int × Int) : D := .tup [.int p.1, .int p.2]
def prOf (H : Hp) : V → Int × Int
  | .ref t => match H t with
    | some (.tup [.int i, .int j]) => (i, j)
    | _ => (0, 0)
  | _ => (0, 0)
theorem prs_at {l : List (Int × Int)} {k : Int} (h0 : 0 ≤ k) (h : k < l.length) : ∃ q, l[k.toNat]? = some q ∧ atI (l.map D.pr) k = some (.tup [.int q.1, .int q.2]) := by
  have hl : k.toNat < l.length := by omega
  exact ⟨l[k.toNat], List.getElem?_eq_getElem hl, at_in h0 (by rw [List.getElem?_map, List.getElem?_eq_getElem hl]; rfl)⟩
def lexLe (a b : Int × Int) : Prop := a.1 < b.1 ∨ (a.1 = b.1 ∧ a.2 ≤ b.2)
inductive SrtP (c : Cc) : List D → S → (D → S → Prop) → Prop
  | mk {d : D} {l : List D} {ps : List (Int × Int)} {s : S} {Φ : D → S → Prop} (h : Sl c s d l) (hl : l = ps.map D.pr) (k : ∀ (ps' : List (Int × Int)) (p : Addr), ps'.Perm ps → ps'.Pairwise lexLe → p ∉ c.O0 → Φ (.ref p) (@S.mk s.δ ((p, ps'.map D.pr) :: s.ω) s.ι)) : SrtP c [d] s Φ
end
end DL

namespace DL
open PySem PySem.Spec PyProof.Rows L2
theorem deq_int {i j : Int} : deq (.int i) (.int j) = decide (i = j) := by
  unfold deq py
  simp only [PyData.eqv]
  by_cases h : i = j <;> simp [h]
theorem pyL_int : ∀ {l m : List Int}, PyData.eqvAll (pyL (l.map D.int)) (pyL (m.map D.int)) = decide (l = m)
  | [], [] => by simp [pyL, PyData.eqvAll]
  | [], _ :: _ => by simp [pyL, PyData.eqvAll]
  | _ :: _, [] => by simp [pyL, PyData.eqvAll]
  | a :: l, b :: m => by
    simp only [List.map_cons, pyL, py, PyData.eqvAll, PyData.eqv, pyL_int (l := l) (m := m)]
    by_cases h1 : a = b <;> by_cases h2 : l = m <;> simp [h1, h2]
theorem deq_ints {l m : List Int} : deq (.lst (l.map D.int)) (.lst (m.map D.int)) = decide (l = m) := by
  unfold deq py
  simp only [PyData.eqv]
  exact pyL_int
theorem pyL_pr : ∀ {l m : List (Int × Int)}, PyData.eqvAll (pyL (l.map D.pr)) (pyL (m.map D.pr)) = decide (l = m)
  | [], [] => by simp [pyL, PyData.eqvAll]
  | [], _ :: _ => by simp [pyL, PyData.eqvAll]
  | _ :: _, [] => by simp [pyL, PyData.eqvAll]
  | (a, a') :: l, (b, b') :: m => by
    simp only [List.map_cons, D.pr, pyL, py, PyData.eqvAll, PyData.eqv]
    have ih := pyL_pr (l := l) (m := m)
    rw [ih]
    by_cases h1 : a = b <;> by_cases h3 : a' = b' <;> by_cases h2 : l = m <;> simp [h1, h2, h3]
theorem deq_prs {l m : List (Int × Int)} : deq (.lst (l.map D.pr)) (.lst (m.map D.pr)) = decide (l = m) := by
  unfold deq py
  simp only [PyData.eqv]
  exact pyL_pr
theorem deq_nil {m : List D} : deq (.lst m) (.lst []) = m.isEmpty := by
  unfold deq py
  simp only [PyData.eqv, pyL]
  cases m <;> simp [pyL, PyData.eqvAll]
theorem dokL_int {n : Nat} : ∀ l : List Int, dokL n (l.map D.int) = true
  | [] => by simp [dokL]
  | a :: l => by simp [dokL, dok, dokL_int l]
theorem dok_ints {n : Nat} {l : List Int} : dok (n + 1) (.lst (l.map D.int)) = true := by
  unfold dok
  exact dokL_int l
theorem dokL_pr {n : Nat} : ∀ l : List (Int × Int), dokL (n + 1) (l.map D.pr) = true
  | [] => by simp [dokL]
  | (a, b) :: l => by simp [dokL, dok, D.pr, dokL_pr l]
theorem dok_prs {n : Nat} {l : List (Int × Int)} : dok (n + 2) (.lst (l.map D.pr)) = true := by
  unfold dok
  exact dokL_pr l
theorem dok_tupi {n : Nat} {l : List Int} : dok (n + 1) (.tup (l.map D.int)) = true := by
  unfold dok
  exact dokL_int l
end DL
namespace DL
open PySem PySem.Spec PyProof.Rows L2
section
variable {X : Cx} {c : Cc} {scope : Scope} {vs : List Nat} {R : D → S → (S → Prop) → Prop} {ifs : List Expr} {elt : Expr} {Φ : D → S → Prop} {l : List D} {C : S → Prop} {s1 : S}
theorem lc_res (res : List D) (hl : res.length = l.length) (hz : res.length ≤ 16777216) (hC : ∀ acc p δ, C (@S.mk δ ((p, acc) :: s1.ω) s1.ι))
    (hm : ∀ {d s Φ Φ'}, R d s Φ → (∀ s', Φ s' → Φ' s') → R d s Φ')
    (turn : ∀ i d p, l[i]? = some d → i < l.length → p ∉ c.O0 → R d (@S.mk (wipeD s1.δ vs) ((p, res.take i) :: s1.ω) s1.ι) fun s2 => ∀ (s0 : Shared) (H0 : Hp) (C : Addr) (cl : List (Str × Addr)) (fp : List Addr), EW (X.blk s0 H0 scope (compEnvC scope cl C X.env) fp) c WF s2 (fun y s4 => res[i]? = some y ∧ (s4.ω, s4.ι) = ((p, res.take i) :: s1.ω, s1.ι)) XF elt)
    (fin : ∀ p, p ∉ c.O0 → Φ (.ref p) (@S.mk s1.δ ((p, res) :: s1.ω) s1.ι)) : LcPost X c scope vs R [] elt Φ l C s1 := by
  refine ⟨fun i acc ω ι => acc = res.take i ∧ ω = s1.ω ∧ ι = s1.ι, ⟨rfl, rfl, rfl⟩, fun i acc ω ι p δ ⟨e1, e2, e3⟩ => by rw [e2, e3]; exact hC acc p δ, fun i d acc ω ι p hd ⟨e1, e2, e3⟩ np => ?_, fun acc ω ι p ⟨e1, e2, e3⟩ np => ?_⟩
  · subst e1 e2 e3
    have hi := (List.getElem?_eq_some_iff.mp hd).1
    refine hm (turn i d p hd hi np) fun s2 h2 s0 H0 C cl fp => ts_nil ⟨fun _ s0 H0 C cl fp => ?_, fun z => by cases z⟩
    refine PE.mono (h2 s0 H0 C cl fp) fun σ H Q ⟨τ, e0, k, hx⟩ => ⟨τ, e0, fun v y s4 H' ⟨h4, w4⟩ e4 => k v y s4 H' ⟨?_, s1.ω, congrArg Prod.fst w4, ?_, rfl, congrArg Prod.snd w4⟩ e4, hx⟩
    · rw [List.length_take]; omega
    · rw [List.take_add_one, h4]; rfl
  · rw [← hl, List.take_length] at e1
    subst e1 e2 e3
    exact fin p np
theorem gn_mono {i : Nat} {d : D} {s : S} {Φ Φ' : S → Prop} (h : GN i d s Φ) (m : ∀ s', Φ s' → Φ' s') : GN i d s Φ' := by
  cases h with
  | mk p k => exact .mk p (m _ k)
theorem gp_mono {i j : Nat} {d : D} {s : S} {Φ Φ' : S → Prop} (h : GT 2 (GC (GN i) (GC (GN j) GZ)) d s Φ) (m : ∀ s', Φ s' → Φ' s') : GT 2 (GC (GN i) (GC (GN j) GZ)) d s Φ' := by
  cases h with
  | mk hl k =>
    cases k with
    | mk k =>
      refine .mk hl (.mk (gn_mono k fun s' h => ?_))
      cases h with
      | mk h =>
        refine .mk (gn_mono h fun s'' h2 => ?_)
        cases h2 with
        | mk h2 => exact .mk (m _ h2)
end
end DL
namespace DL
open PySem PySem.Spec PyProof.Rows L2
section
variable {X : Cx} {c : Cc} {scope : Scope} {vs : List Nat} {R : D → S → (S → Prop) → Prop} {ifs : List Expr} {elt : Expr} {Φ : D → S → Prop} {l : List D} {C : S → Prop} {s1 : S}
theorem lc_fil (g : Nat → D) (b : Nat → Bool) (hz : l.length ≤ 16777216) (hC : ∀ acc p δ, C (@S.mk δ ((p, acc) :: s1.ω) s1.ι))
    (hm : ∀ {d s Φ Φ'}, R d s Φ → (∀ s', Φ s' → Φ' s') → R d s Φ')
    (turn : ∀ i d p acc, l[i]? = some d → i < l.length → p ∉ c.O0 → R d (@S.mk (wipeD s1.δ vs) ((p, acc) :: s1.ω) s1.ι) fun s2 => ∀ (s0 : Shared) (H0 : Hp) (C : Addr) (cl : List (Str × Addr)) (fp : List Addr), TsW (X.blk s0 H0 scope (compEnvC scope cl C X.env) fp) c WF s2 (fun k s3 => k = b i ∧ (s3.ω, s3.ι) = ((p, acc) :: s1.ω, s1.ι) ∧ (k = true →
      ∀ (s0 : Shared) (H0 : Hp) (C : Addr) (cl : List (Str × Addr)) (fp : List Addr), EW (X.blk s0 H0 scope (compEnvC scope cl C X.env) fp) c WF s3 (fun y s4 => y = g i ∧ (s4.ω, s4.ι) = ((p, acc) :: s1.ω, s1.ι)) XF elt)) XF ifs)
    (fin : ∀ p, p ∉ c.O0 → Φ (.ref p) (@S.mk s1.δ ((p, ((List.range l.length).filter b).map g) :: s1.ω) s1.ι)) : LcPost X c scope vs R ifs elt Φ l C s1 := by
  refine ⟨fun i acc ω ι => acc = ((List.range i).filter b).map g ∧ ω = s1.ω ∧ ι = s1.ι, ⟨rfl, rfl, rfl⟩, fun i acc ω ι p δ ⟨e1, e2, e3⟩ => by rw [e2, e3]; exact hC acc p δ, fun i d acc ω ι p hd ⟨e1, e2, e3⟩ np => ?_, fun acc ω ι p ⟨e1, e2, e3⟩ np => ?_⟩
  · subst e2 e3
    have hi := (List.getElem?_eq_some_iff.mp hd).1
    have hacc : acc.length < 16777216 := by
      rw [e1, List.length_map]
      have := List.length_filter_le b (List.range i)
      rw [List.length_range] at this
      omega
    refine hm (turn i d p acc hd hi np) fun s2 h2 s0 H0 C cl fp => ?_
    refine PTs.mono (h2 s0 H0 C cl fp) fun σ H Q ⟨τ, e0, k, hx⟩ => ⟨τ, e0, fun z s3 H3 ⟨hk, hw, ht⟩ e3 => k z s3 H3 ⟨fun hz s0 H0 C cl fp => ?_, fun hz => ?_⟩ e3, hx⟩
    · refine PE.mono (ht hz s0 H0 C cl fp) fun σ H Q ⟨τ, e0, k, hx⟩ => ⟨τ, e0, fun v y s4 H' ⟨h4, w4⟩ e4 => k v y s4 H' ⟨hacc, s1.ω, congrArg Prod.fst w4, ?_, rfl, congrArg Prod.snd w4⟩ e4, hx⟩
      rw [List.range_succ, List.filter_append, List.map_append, ← e1, h4]
      rw [hz] at hk
      simp [← hk]
    · refine ⟨s1.ω, congrArg Prod.fst hw, ?_, rfl, congrArg Prod.snd hw⟩
      rw [List.range_succ, List.filter_append, List.map_append, ← e1]
      rw [hz] at hk
      simp [← hk]
  · subst e1 e2 e3
    exact fin p np
end
theorem sIx_pos {n d : Nat} {j : Int} (h0 : 0 ≤ j) : HT.sIx n d (some j) = min j.toNat n := by
  show (if j < 0 then (j + (n : Int)).toNat else min j.toNat n) = _
  rw [if_neg (by omega)]
theorem cut_take {l : List D} {j : Int} (h0 : 0 ≤ j) : cutD l none (some j) = l.take j.toNat := by
  unfold cutD
  rw [sIx_pos h0]
  show (l.drop 0).take (min j.toNat l.length - 0) = _
  rw [List.drop_zero, Nat.sub_zero]
  by_cases h : j.toNat ≤ l.length
  · rw [Nat.min_eq_left h]
  · rw [Nat.min_eq_right (by omega), List.take_length, List.take_of_length_le (by omega)]
section
variable {X : Cx} {c : Cc} {W : WX} {s : S} {Φo : Option Int → S → Prop} {Ξ : PX} {e : Expr}
theorem ow_none (h : Φo none s) : OW X c W s Φo Ξ none := h
theorem ow_some (h : EW X c W s (fun d s1 => ∃ i, d = .int i ∧ Φo (some i) s1) Ξ e) : OW X c W s Φo Ξ (some e) := h
end
end DL

namespace DL
open PySem PySem.Spec PyProof.Rows L2
section
variable {X : Cx} {c : Cc} {W : WX} {δ : List (Option D)} {ω : List (Addr × List D)} {ι : Is} {N : Nd} {sts : List Stmt} {q : Addr} {l : List D}
theorem SE.drop {K : PySem.W.Frag} {σ : List (Option V)} {H : Hp} {τ : List (V × D)} (h : SE K c σ H (@S.mk δ ((q, l) :: ω) ι) τ) : SE K c σ H (@S.mk δ ω ι) τ := by
  obtain ⟨A, e, r⟩ := h
  exact ⟨A, ⟨e.slots, e.len, fun p ds hp => e.own p ds (List.mem_cons_of_mem _ hp), (List.nodup_cons.mp e.nd).2, e.tmp, e.dom, e.ins, e.ndi⟩, ⟨r.sub, r.up, r.keep, fun p ds hp => r.own p ds (List.mem_cons_of_mem _ hp), r.there, r.nA, r.o0, r.ro, r.ins, r.tab⟩⟩
end
section
variable {P : Program} {w : World} {K : PySem.W.Frag} {mg : Str → Option Value} {base : Heap} {x : Str} {params : Arguments} {body : List Stmt} {scope : Scope} {f : Addr} {fd : FuncData}
theorem df_law {qual : Str} {N ps : List Str} {k : Nat} {bs : List Bool} {Fs : List D → (Rs → Prop) → Prop} (F : FunD K x qual params body scope [] [] f fd) (S0 : FnScope N ps scope) (hb : bs.length = ps.length) (hN : ps.length ≤ N.length)
    (h : ∀ (cdv : Value) (A : Around) (outer : List PySem.Env) (s : Shared) (H : Hp) (E : XK), Room k (FX P w K mg base N qual scope f cdv A outer s H E).A → PassesOwn (model P w) (FX P w K mg base N qual scope f cdv A outer s H E).A (FX P w K mg base N qual scope f cdv A outer s H E).env (FX P w K mg base N qual scope f cdv A outer s H E).xe →
      ∀ (c : Cc) (W : WX), c.O0 = [] → Takes (FX P w K mg base N qual scope f cdv A outer s H E) W → (FX P w K mg base N qual scope f cdv A outer s H E).N = N → N.Nodup → ∀ ds (Q : Rs → Prop) δ, Fs ds Q → StartB c.ρ bs ds δ → LW (FX P w K mg base N qual scope f cdv A outer s H E) c W ⟨δ ++ List.replicate (N.length - ps.length) none, []⟩ (fnNd Q) body) : FnOk P w K mg base (L2.CX P w) (k + 1) f fd ps (spP K bs Fs) :=
  fn_pure F S0 hb hN (fun X cdv A outer s H E hX hr po c W hO tk ds Q δ hF hS => by
    subst hX
    exact h cdv A outer s H E hr po c W hO tk rfl S0.nd ds Q δ hF hS)
end
end DL

namespace DL
open PySem PySem.Spec PyProof.Rows L2
theorem law_walk {l : PySem.W.OpenLaw} {k : Nat} {q : Program} {lo : List Str} {A : (Str → Option Value) → Heap → Prop} {B : World → Heap → Prop} {d : DefRec} (m63 : l.most = some 63) (nodef : d.params.defaults = []) (room : Room k callerA)
    (ok : ∀ w mg f h, B w h → h.Ns mainGlobals mg → mg d.name = some (.ref f) → ∃ K fd, PySem.W.Frag.In K h ∧ (∀ s u, BindsTo s fd ⟨[u], []⟩ [("_law_script", u)]) ∧ ∀ base, PySem.W.Frag.In K base → base.Ns mainGlobals mg → FnOk l.prog w K mg base (L2.CX l.prog w) k f fd ["_law_script"] (spP K [false] lawF)) :
    PySem.W.WalkO q lo A B l.row.toRowW d [] fun f vs => PySem.call f vs := by
  refine Att.attach_call m63 nodef fun w s0 s1 mg mb f ob pm cd doc a vs ns G Y h1 h2 h3 h4 h5 h6 h7 h8 => ?_
  obtain ⟨K, fd, i1, i2, i3⟩ := ok w mg f _ Y G.T.g h4
  exact law_call i1 G.T.g G.T.b G.T.builtins G.T.nolimit h8 h5 h6 (Nat.le_trans h7 (by decide)) room i3 i2 (fun H o s => law_sp h7 o s) fun _ _ _ z => law_cx z
end DL

namespace DL
open PySem PySem.Spec PyProof.Rows L2
theorem RpL.reverse {K : PySem.W.Frag} {A : Addr → Prop} {H : Hp} : ∀ {l : List D} {xs : List V}, RpL K A H l xs → RpL K A H l.reverse xs.reverse
  | [], xs, h => by
    unfold RpL at h
    subst h
    exact RpL.nil
  | d :: l, xs, h => by
    unfold RpL at h
    obtain ⟨x, r, rfl, h1, h2⟩ := h
    rw [List.reverse_cons, List.reverse_cons]
    exact (RpL.reverse h2).append (.one h1)
section
variable {X : Cx} {c : Cc} {W : WX} {s : S} {Φ : D → S → Prop} {Ξ : PX} {pos : Pos}
inductive RevR : D → S → (S → Prop) → Prop
  | mk {p : Addr} {l : List D} {j : Nat} {s : S} {Φ : S → Prop} {ω' : List (Addr × List D)} (ha : At s.ω j (p, l)) (hp : Pt s.ω j (p, l.reverse) ω') (k : Φ (@S.mk s.δ ω' s.ι)) : RevR (.ref p) s Φ
theorem ew_reverse {o : Expr} {apos : Pos} (h : EW X c W s (fun d1 s1 => RevR d1 s1 (Φ .non)) Ξ o)
    (hbase : attributeBase o "reverse" X.env (eval o X.env) = eval o X.env := by rfl)
    (hline : (apos.endLine == pos.line) = true := by rfl) : EW X c W s Φ Ξ (.Call (.Attribute o "reverse" apos) [] [] pos) :=
  PE.mono (pe_bm0 PySem.F.plainAttrs_list PySem.F.slot_list_reverse PySem.F.type_list_reverse mt_reverse pe_any hbase hline) fun σ H Q ⟨τ, e0, k, hx⟩ => h.use e0 (fun v1 d1 s1 H1 h1 e1 => by
    obtain ⟨A, z, rl⟩ := id e1
    cases h1 with
    | @mk p l j _ _ ω' ha hp q =>
      obtain ⟨⟨xs, q1, q2⟩, _⟩ := z.own p l (List.mem_of_getElem? ha.get)
      have r1 := z.tmp v1 _ List.mem_cons_self
      unfold Rp at r1
      subst r1
      exact ⟨.inl ⟨rfl, _, SqL.of q1⟩, p, xs, rfl, rfl, q1, k _ _ _ _ q (SE.atom ((SE.setO z rl ha hp q2.reverse).sub fun x hx => List.mem_cons_of_mem _ hx) rfl)⟩) hx
end
end DL

namespace DL
open PySem PySem.Spec PyProof.Rows L2
inductive StopIf : Prop
  | mk
section
variable {X : Cx} {c : Cc} {W : WX} {s : S} {nx : S → Prop} {rt : D → S → Prop} {bk ct : S → Prop} {ex : PX} {st : Stmt} {rest : List Stmt}
theorem lw_cut (P : S → Prop) (h : SW X c W s ⟨P, rt, bk, ct, ex⟩ st) (k : ∀ s', P s' → LW X c W s' ⟨nx, rt, bk, ct, ex⟩ rest) : LW X c W s ⟨nx, rt, bk, ct, ex⟩ (st :: rest) :=
  lw_cons (SW.imp h k (fun _ _ z => z) (fun _ z => z) (fun _ z => z) fun _ _ _ z => z)
end
end DL

namespace DL
open PySem PySem.Spec PyProof.Rows L2
def setF (f : Str) (d : D) : List (Str × D) → List (Str × D)
  | [] => [(f, d)]
  | (g, x) :: r => if g = f then (g, d) :: r else (g, x) :: setF f d r
section
variable {K : PySem.W.Frag} {c : Cc} {A A' : Addr → Prop} {σ : List (Option V)} {H H' : Hp} {s : S} {τ : List (V × D)} {p C dx : Addr} {f : Str} {d : D} {v : V}
theorem RpF.set : ∀ {fs : List (Str × D)} {vs : List (Str × V)}, RpF K A H fs vs → Rp K A H d v → RpF K A H (setF f d fs) (putF f v vs)
  | [], _, h, r => by
    unfold RpF at h
    subst h
    show RpF K A H [(f, d)] [(f, v)]
    unfold RpF
    exact ⟨v, [], rfl, r, by unfold RpF; rfl⟩
  | (g, x) :: fs, _, h, r => by
    unfold RpF at h
    obtain ⟨y, vs, rfl, h1, h2⟩ := h
    show RpF K A H (if g = f then (g, d) :: fs else (g, x) :: setF f d fs) (if g = f then (g, v) :: vs else (g, y) :: putF f v vs)
    by_cases e : g = f
    · rw [if_pos e, if_pos e]
      unfold RpF
      exact ⟨v, vs, rfl, r, h2⟩
    · rw [if_neg e, if_neg e]
      unfold RpF
      exact ⟨y, _, rfl, h1, RpF.set h2 r⟩
theorem RpF.len : ∀ {fs : List (Str × D)} {vs : List (Str × V)}, RpF K A H fs vs → vs.length = fs.length
  | [], _, h => by
    unfold RpF at h
    rw [h]
    rfl
  | _ :: _, _, h => by
    unfold RpF at h
    obtain ⟨y, vs, rfl, _, h2⟩ := h
    rw [List.length_cons, List.length_cons, RpF.len h2]
inductive ObjD (s : S) : D → Addr → List (Str × D) → Prop
  | frz {C : Addr} {fs : List (Str × D)} : ObjD s (.ins C fs) C fs
  | own {p C : Addr} {fs : List (Str × D)} (h : Mem s.ι.l (p, C, fs)) : ObjD s (.ref p) C fs
theorem ObjD.rd {fs : List (Str × D)} (h : ObjD s d C fs) (e : En K A σ H s τ) (r : Rp K A H d v) : ∃ a dx vs, v = .ref a ∧ H a = some (.ins C dx vs) ∧ RpF K A H fs vs := by
  cases h with
  | frz =>
    unfold Rp at r
    obtain ⟨a, dx, vs, h1, _, h2, h3⟩ := r
    exact ⟨a, dx, vs, h1, h2, h3⟩
  | own h =>
    unfold Rp at r
    obtain ⟨⟨dx, vs, h1, h2⟩, _⟩ := e.ins _ _ _ h.mem
    exact ⟨_, dx, vs, r, h1, h2⟩
theorem SE.newI (h : SE K c σ H s τ) (n : H p = none) (n2 : H dx = none) (ne : dx ≠ p) : SE K c σ (upd (upd H dx (.own p)) p (.ins C dx [])) (@S.mk s.δ s.ω ⟨(p, C, []) :: s.ι.l⟩) ((.ref p, .ref p) :: τ) := by
  obtain ⟨A, e, r⟩ := h
  have nn : ∀ {a o}, H a = some o → (upd (upd H dx (.own p)) p (.ins C dx [])) a = some o := fun {a o} h => by
    rw [upd_ne (ne_of_none h n), upd_ne (ne_of_none h n2)]
    exact h
  have k : Keeps A H (upd (upd H dx (.own p)) p (.ins C dx [])) := fun a o h _ => nn h
  have nA : ¬ A p := fun z => by
    obtain ⟨o, q⟩ := e.dom p z
    rw [n] at q
    cases q
  refine ⟨A, ⟨fun i d hd => ?_, e.len, fun q ds hq => ?_, e.nd, fun w d hv => ?_, fun a ha => ?_, fun q C' fs hq => ?_, ?_⟩, ⟨r.sub, r.up, fun a o ha no => nn (r.keep a o ha no), r.own, fun q hq => ?_, r.nA, r.o0, r.ro, fun q C' fs hq => ?_, r.tab.step fun a o h _ => nn h⟩⟩
  · obtain ⟨v, hv, hr⟩ := e.slots i d hd
    exact ⟨v, hv, hr.keep k⟩
  · obtain ⟨⟨ys, e1, e2⟩, e3⟩ := e.own q ds hq
    exact ⟨⟨ys, nn e1, e2.keep k⟩, e3⟩
  · rcases List.mem_cons.mp hv with hv | hv
    · cases hv
      unfold Rp
      rfl
    · exact (e.tmp w d hv).keep k
  · obtain ⟨o, q⟩ := e.dom a ha
    exact ⟨o, nn q⟩
  · rcases List.mem_cons.mp hq with hq | hq
    · cases hq
      exact ⟨⟨dx, [], upd_same, by unfold RpF; rfl⟩, nA⟩
    · obtain ⟨⟨dy, vs, q1, q2⟩, q3⟩ := e.ins q C' fs hq
      exact ⟨⟨dy, vs, nn q1, q2.keep k⟩, q3⟩
  · show ((p :: s.ι.l.map (·.1)) : List Addr).Nodup
    refine List.nodup_cons.mpr ⟨fun z => ?_, e.ndi⟩
    obtain ⟨⟨q, C', fs⟩, h1, h2⟩ := List.mem_map.mp z
    obtain ⟨⟨dy, vs, q1, _⟩, _⟩ := e.ins q C' fs h1
    have e2 : q = p := h2
    rw [e2, n] at q1
    cases q1
  · obtain ⟨o, q1⟩ := r.there q hq
    exact ⟨o, nn q1⟩
  · rcases List.mem_cons.mp hq with hq | hq
    · cases hq
      cases z : c.H0 p with
      | none => exact .inr rfl
      | some o =>
        by_cases hp : p ∈ c.O0
        · exact .inl hp
        · have q := r.keep p o z hp
          rw [n] at q
          cases q
    · exact r.ins q C' fs hq
theorem SE.frzI {δ : List (Option D)} {ω : List (Addr × List D)} {ι : List (Addr × Addr × List (Str × D))} {fs : List (Str × D)} (h : SE K c σ H (@S.mk δ ω ⟨(p, C, fs) :: ι⟩) ((v, .ref p) :: τ)) (np : p ∉ c.O0) : SE K c σ H (@S.mk δ ω ⟨ι⟩) ((v, .ins C fs) :: τ) := by
  obtain ⟨A, e, r⟩ := h
  obtain ⟨⟨dx, vs, e1, e2⟩, e3⟩ := e.ins p C fs List.mem_cons_self
  have sb : ∀ a, A a → (A a ∨ a = p) := fun a h => .inl h
  have ndi : p ∉ ι.map (·.1) ∧ (ι.map (·.1)).Nodup := List.nodup_cons.mp e.ndi
  have vp : v = .ref p := by
    have q := e.tmp v _ List.mem_cons_self
    unfold Rp at q
    exact q
  refine ⟨fun a => A a ∨ a = p, ⟨fun i d hd => ?_, e.len, fun q ds hq => ?_, e.nd, fun w d hv => ?_, fun a ha => ?_, fun q C' gs hq => ?_, ndi.2⟩, ⟨fun a h => .inl (r.sub a h), fun a ha => ?_, r.keep, r.own, r.there, fun q hq z => ?_, r.o0, r.ro, fun q C' gs hq => r.ins q C' gs (List.mem_cons_of_mem _ hq), r.tab⟩⟩
  · obtain ⟨w, hw, hr⟩ := e.slots i d hd
    exact ⟨w, hw, Rp.mono sb Keeps.refl _ _ hr⟩
  · obtain ⟨⟨ys, q1, q2⟩, q3⟩ := e.own q ds hq
    refine ⟨⟨ys, q1, RpL.mono sb Keeps.refl _ _ q2⟩, fun z => z.elim q3 fun z => ?_⟩
    rw [z, e1] at q1
    cases q1
  · rcases List.mem_cons.mp hv with hv | hv
    · cases hv
      subst vp
      unfold Rp
      exact ⟨p, dx, vs, rfl, .inr rfl, e1, RpF.mono sb Keeps.refl _ _ e2⟩
    · exact Rp.mono sb Keeps.refl _ _ (e.tmp w d (List.mem_cons_of_mem _ hv))
  · rcases ha with ha | ha
    · exact e.dom a ha
    · exact ⟨_, ha ▸ e1⟩
  · obtain ⟨⟨dy, ws, q1, q2⟩, q3⟩ := e.ins q C' gs (List.mem_cons_of_mem _ hq)
    refine ⟨⟨dy, ws, q1, RpF.mono sb Keeps.refl _ _ q2⟩, fun z => z.elim q3 fun z => ?_⟩
    subst z
    exact ndi.1 (List.mem_map.mpr ⟨(q, C', gs), hq, rfl⟩)
  · rcases ha with ha | ha
    · exact r.up a ha
    · subst ha
      exact (r.ins a C fs List.mem_cons_self).elim (fun z => absurd z np) .inr
  · rcases z with z | z
    · exact r.nA q hq z
    · subst z
      exact np hq
theorem SE.setI {fs fs' : List (Str × D)} {vs' : List (Str × V)} {j : Nat} {ι' : List (Addr × Addr × List (Str × D))} {vs : List (Str × V)} (z : En K A σ H s τ) (rl : Rel K c A H s.ω s.ι) (ha : At s.ι.l j (p, C, fs)) (hp : Pt s.ι.l j (p, C, fs') ι') (h1 : H p = some (.ins C dx vs)) (r : RpF K A H fs' vs') :
    SE K c σ (upd H p (.ins C dx vs')) (@S.mk s.δ s.ω ⟨ι'⟩) τ := by
  have hm : (p, C, fs) ∈ s.ι.l := List.mem_of_getElem? ha.get
  have nA : ¬ A p := (z.ins p C fs hm).2
  have k : Keeps A H (upd H p (.ins C dx vs')) := Keeps.put nA h1 (fun q => q)
  have hlt : j < s.ι.l.length := (List.getElem?_eq_some_iff.mp ha.get).1
  have es : ι'.map (·.1) = s.ι.l.map (·.1) := by
    rw [hp.eq, List.map_set]
    have hj : (s.ι.l.map (·.1))[j]? = some p := by rw [List.getElem?_map, ha.get]; rfl
    apply List.ext_getElem?
    intro n
    by_cases hn : j = n
    · subst hn
      rw [List.getElem?_set_self (by rw [List.length_map]; exact hlt), hj]
    · rw [List.getElem?_set_ne hn]
  have mem : ∀ q C' gs, (q, C', gs) ∈ ι' → (q = p ∧ C' = C ∧ gs = fs') ∨ (q ≠ p ∧ (q, C', gs) ∈ s.ι.l) := fun q C' gs hq => by
    rw [hp.eq] at hq
    obtain ⟨n, hn⟩ := List.mem_iff_getElem?.mp hq
    by_cases hj : j = n
    · subst hj
      rw [List.getElem?_set_self hlt] at hn
      cases hn
      exact .inl ⟨rfl, rfl, rfl⟩
    · rw [List.getElem?_set_ne hj] at hn
      refine .inr ⟨fun z2 => ?_, List.mem_of_getElem? hn⟩
      subst z2
      have a1 : (s.ι.l.map (·.1))[n]? = some q := by rw [List.getElem?_map, hn]; rfl
      have a2 : (s.ι.l.map (·.1))[j]? = some q := by rw [List.getElem?_map, ha.get]; rfl
      exact hj (nd_ix z.ndi a2 a1)
  refine ⟨A, ⟨fun i d hd => ?_, z.len, fun q ds hq => ?_, z.nd, fun v d hv => (z.tmp v d hv).keep k, fun a hA => ?_, fun q C' gs hq => ?_, by show (ι'.map (·.1)).Nodup; rw [es]; exact z.ndi⟩, ⟨rl.sub, rl.up, fun a o h0 no => ?_, rl.own, fun q hq => ?_, rl.nA, rl.o0, rl.ro, fun q C' gs hq => ?_, rl.tab.put h1 (fun z => z) (fun ps z => by cases z)⟩⟩
  · obtain ⟨v, hv, hr⟩ := z.slots i d hd
    exact ⟨v, hv, hr.keep k⟩
  · obtain ⟨⟨ys, q1, q2⟩, q3⟩ := z.own q ds hq
    have hne : q ≠ p := fun w => by
      rw [w, h1] at q1
      cases q1
    exact ⟨⟨ys, by rw [upd_ne hne]; exact q1, q2.keep k⟩, q3⟩
  · by_cases hap : a = p
    · subst hap
      exact absurd hA nA
    · obtain ⟨o, q⟩ := z.dom a hA
      exact ⟨o, by rw [upd_ne hap]; exact q⟩
  · rcases mem q C' gs hq with ⟨rfl, rfl, rfl⟩ | ⟨hne, hq⟩
    · exact ⟨⟨dx, vs', upd_same, r.keep k⟩, nA⟩
    · obtain ⟨⟨dy, ws, q1, q2⟩, q3⟩ := z.ins q C' gs hq
      exact ⟨⟨dy, ws, by rw [upd_ne hne]; exact q1, q2.keep k⟩, q3⟩
  · have hap : a ≠ p := fun w => by
      subst w
      rcases rl.ins a C fs hm with w | w
      · exact no w
      · rw [h0] at w
        cases w
    rw [upd_ne hap]
    exact rl.keep a o h0 no
  · by_cases hap : q = p
    · subst hap
      exact ⟨_, upd_same⟩
    · obtain ⟨ys, w⟩ := rl.there q hq
      exact ⟨ys, by rw [upd_ne hap]; exact w⟩
  · rcases mem q C' gs hq with ⟨rfl, rfl, rfl⟩ | ⟨hne, hq⟩
    · exact rl.ins q C' fs hm
    · exact rl.ins q C' gs hq
end
section
variable {X : Cx} {c : Cc} {W : WX} {s : S} {nx : S → Prop} {rt : D → S → Prop} {bk ct : S → Prop} {ex : PX} {Φ : D → S → Prop} {Ξ : PX} {e o : Expr} {f : Str} {pos pos' : Pos} {C : Addr}
inductive FldR (K : PySem.W.Frag) (f : Str) : D → S → (D → S → Prop) → Prop
  | mk {d x : D} {C : Addr} {fs : List (Str × D)} {s : S} {Φ : D → S → Prop} (h : ObjD s d C fs) (cl : Cls K C) (na : NoAttr K C f) (l : fs.lookup f = some x) (k : Φ x s) : FldR K f d s Φ
theorem ew_fld (h : EW X c W s (fun d s1 => FldR X.K f d s1 Φ) Ξ e) (hb : attributeBase e f X.env (eval e X.env) = eval e X.env := by rfl) : EW X c W s Φ Ξ (.Attribute e f pos) :=
  PE.mono (pe_fld pe_any hb) fun σ H Q ⟨τ, e0, k, hx⟩ => h.use e0 (fun v d s1 H1 q e1 => by
    cases q with
    | mk ho cl na l q =>
      obtain ⟨A, z, rl⟩ := e1
      obtain ⟨a, dx, vs, rfl, g1, g2⟩ := ho.rd z (z.tmp v _ List.mem_cons_self)
      obtain ⟨y, g3, g4⟩ := g2.look l
      refine ⟨a, _, dx, vs, y, rfl, g1, cl, na, g3, k y _ s1 H1 q ⟨A, ?_, rl⟩⟩
      exact (z.sub fun x hx => List.mem_cons_of_mem _ hx : En X.K A σ H1 s1 τ).push g4) hx
inductive StFR (K : PySem.W.Frag) (f : Str) (d : D) : D → S → (S → Prop) → Prop
  | mk {p C : Addr} {fs : List (Str × D)} {s : S} {Φ : S → Prop} {j : Nat} {ι' : List (Addr × Addr × List (Str × D))} (cl : Cls K C) (na : NoAttr K C f) (ha : At s.ι.l j (p, C, fs)) (hl : fs.length < 1000) (hp : Pt s.ι.l j (p, C, setF f d fs) ι') (k : Φ (@S.mk s.δ s.ω ⟨ι'⟩)) : StFR K f d (.ref p) s Φ
theorem sw_fld (h : EW X c W s (fun d s1 => EW X c W s1 (fun x s2 => StFR X.K f d x s2 nx) ex o) ex e) (hs : swapsWith e (some (.Attribute o f pos')) pos.line X.env = pure false := by rfl) : SW X c W s ⟨nx, rt, bk, ct, ex⟩ (.Assign [.Attribute o f pos'] e pos) :=
  PS.mono (ps_fld pe_any pe_any hs) fun E σ H ⟨τ, e0, h1, h2, h3, h4, h5⟩ => h.use e0 (fun v d s1 H1 q e1 => q.use e1 (fun w x s2 H2 q2 e2 => by
    cases q2 with
    | @mk p C fs _ _ j ι' cl na ha hl hp k =>
      obtain ⟨A, z, rl⟩ := e2
      have rx := z.tmp w _ List.mem_cons_self
      unfold Rp at rx
      subst rx
      obtain ⟨⟨dx, vs, g1, g2⟩, _⟩ := z.ins _ _ _ (List.mem_of_getElem? ha.get)
      refine ⟨p, C, dx, vs, rfl, g1, cl, na, by rw [g2.len]; exact hl, h1 _ _ _ k ?_⟩
      exact (SE.setI z rl ha hp g1 (g2.set (z.tmp v d (List.mem_cons_of_mem _ List.mem_cons_self)))).sub fun x hx => List.mem_cons_of_mem _ (List.mem_cons_of_mem _ hx)) fun cls x dd s' H' q e1 => h5 cls x dd s' σ H' q e1.pop) fun cls x dd s' H' q e1 => h5 cls x dd s' σ H' q e1
end
end DL

namespace DL
open PySem PySem.Spec PyProof.Rows L2
def FnA (P : Program) (w : World) (K : PySem.W.Frag) (mg : Str → Option Value) (base : Heap) (k : Nat) (f : Addr) (sp : Sp) : Prop := ∃ fd ps, FnOk P w K mg base (L2.CX P w) k f fd ps sp ∧ Binds K fd ps []
section
variable {X : Cx} {c : Cc} {W : WX} {f C g : Addr} {k : Nat} {sp : Sp} {σ : L2.St} {o e fe a b : Expr} {es : List Expr} {m : Str} {pos apos : Pos} {ta tb tf : TE} {t : TA} {pins : List (Addr × Obj)} {H : Hp} {s : Shared} {Q : VK}
theorem pe_makeW {x : Str} {p : Pos} (M : Mk X.K C f) (F : FnA X.prog X.w X.K X.mg X.base k f sp) (hr : Room (k + 1) X.A) (tk : Takes X W) (hg : Gl X x) (hm : X.mg x = some (.ref C)) (ha : PA X (e :: es) t) (hdb : (x == ("__debug__" : Str)) = false)
    (he : starEach (e :: es) X.env = (false, eval e X.env) :: starEach es X.env) (hpl : (backTo pos (starEach es X.env)).any (·.1) = false) : PE X (.Call (.Name x p) (e :: es) [] pos) (fun σ H Q => t σ H fun vs H1 => ∀ x dx, H1 x = Option.none → H1 dx = Option.none → dx ≠ x →
      sp (V.ref x :: vs) (upd (upd H1 dx (.own x)) x (.ins C dx [])) (fun v H2 => v = .non ∧ Q (.ref x) H2) (WE W σ)) := by
  refine ⟨fun pins s σ H Q I h => wpAny_Call_Name_kw (ld_glob I hg hm (PySem.W.callWith_K (h₀ := X.base) I.ok.mod.kin M.kp (thn (ha.run pos pins s σ H _ I h) fun us s1 ⟨vs, H1, I1, r, q⟩ => ⟨I1.kIn, ?_⟩) he hpl) hdb)⟩
  obtain ⟨fd, ps, F, b⟩ := F
  have hq := q (s1.heap.objs.size + 1) s1.heap.objs.size (I1.hok.fresh (Nat.le_succ _)) (I1.hok.fresh (Nat.le_refl _)) (Nat.ne_of_lt (Nat.lt_succ_self _))
  have I2 := Inv.made (C := C) I1
  have r2 : Vals (V.ref (s1.heap.objs.size + 1) :: vs) (Value.ref (s1.heap.objs.size + 1) :: us) := .cons rfl r
  have hl : (Value.ref (s1.heap.objs.size + 1) :: us ++ []).length = ps.length := by
    have e1 := r2.length
    rw [F.len _ _ _ _ hq] at e1
    rw [List.append_nil]
    exact e1.symm
  have bb := b _ (Value.ref (s1.heap.objs.size + 1) :: us) I2.kIn hl
  rw [List.append_nil] at bb
  refine wpAny_call (make_map (f := f) I1.kIn M.makes M.init (beq_iff_eq.mp M.fn) (codeAny_mono (F.run _ X.stack _ _ ⟨Value.ref (s1.heap.objs.size + 1) :: us, []⟩ (Value.ref (s1.heap.objs.size + 1) :: us) _ _ (WE W σ) (hr.make C us []) (I2.env0.make C us []) bb r2 hq) fun r' s' hq' => ?_))
  cases r' with
  | error er => exact passAt tk σ pins _ _ er s' I2 hq'
  | ok fl =>
    cases fl with
    | ret u =>
      obtain ⟨v, H', I3, rv, ev, q3⟩ := I2.after hq'
      subst ev
      exact ⟨rv, ⟨V.ref (s1.heap.objs.size + 1), H', I3, rfl, q3⟩⟩
    | next => exact False.elim hq'
    | brk => exact False.elim hq'
    | cont => exact False.elim hq'
end

theorem paired_imp {α β : Type} {R R' : α → β → Prop} (h : ∀ a b, R a b → R' a b) : ∀ {as : List α} {bs : List β}, Paired R as bs → Paired R' as bs
  | _, _, .nil => .nil
  | _, _, .cons q t => .cons (h _ _ q) (paired_imp h t)
def MetD (K : PySem.W.Frag) (c : Cc) (W : WX) (sp : Sp) (ds : List D) (s : S) (Φ : D → S → Prop) (Ξ : PX) : Prop := ∀ (σ : L2.St) (H : Hp) (τ τ' : List (V × D)) (vs : List V) (Q : VK), SE K c σ H s τ' → (∀ x ∈ τ, x ∈ τ') → Paired (fun v d => (v, d) ∈ τ') vs ds →
  (∀ v d s' H', Φ d s' → SE K c σ H' s' ((v, d) :: τ) → Q v H') → (∀ cls x dd s' H', Ξ cls x s' → SE K c σ H' s' τ → XR K H' x dd → W cls dd σ H') → sp vs H Q (WE W σ)
section
variable {X : Cx} {c : Cc} {W : WX} {s : S} {Φ : D → S → Prop} {Ξ : PX} {ds : List D}
theorem met_p {bs : List Bool} {Fs : List D → (Rs → Prop) → Prop} (h : ∃ ds', VwB c s bs ds ds' ∧ Fs ds' (CallP c Φ Ξ s)) : MetD X.K c W (spP X.K bs Fs) ds s Φ Ξ := fun σ H τ τ' vs Q e1 sb pr k hx => by
  obtain ⟨ds', hv, hF⟩ := h
  exact spP_met (X := X) hv hF e1 sb pr k hx
end
section
variable {X : Cx} {c : Cc} {W : WX} {s : S} {nx : S → Prop} {rt : D → S → Prop} {bk ct : S → Prop} {ex : PX} {Φ : D → S → Prop} {Ξ : PX} {o e fe : Expr} {es : List Expr} {m : Str} {pos apos : Pos} {C f g : Addr} {k : Nat} {sp : Sp}
theorem ew_make {x : Str} {p : Pos} (M : Mk X.K C f) (F : FnA X.prog X.w X.K X.mg X.base k f sp) (hr : Room (k + 1) X.A) (tk : Takes X W) (hm : X.mg x = some (.ref C))
    (h : AW X c W s (fun ds s1 => ∀ q, q ∉ c.O0 → MetD X.K c W sp (.ref q :: ds) (@S.mk s1.δ s1.ω ⟨(q, C, []) :: s1.ι.l⟩) (fun d s2 => d = .non ∧ Φ (.ref q) s2) Ξ) Ξ (e :: es)) (hg : Gl X x := by rfl) (hdb : (x == ("__debug__" : Str)) = false := by decide)
    (he : starEach (e :: es) X.env = (false, eval e X.env) :: starEach es X.env := by rfl) (hpl : (backTo pos (starEach es X.env)).any (·.1) = false := by rfl) : EW X c W s Φ Ξ (.Call (.Name x p) (e :: es) [] pos) :=
  PE.mono (pe_makeW M F hr tk hg hm pa_any hdb he hpl) fun σ H Q ⟨τ, e0, k, hx⟩ => h.use e0 (fun vs ds s1 H1 τ1 q e1 sb pr q0 dx n n2 ne => by
    have np : q0 ∉ c.O0 := fun z => by
      obtain ⟨A, _, rl⟩ := e1
      obtain ⟨o, w⟩ := rl.there q0 z
      rw [n] at w
      cases w
    refine q q0 np σ _ ((.ref q0, .ref q0) :: τ) _ _ _ (SE.newI e1 n n2 ne) (fun x hx => ?_) (.cons List.mem_cons_self (paired_imp (fun _ _ h => List.mem_cons_of_mem _ h) pr)) (fun v d s2 H2 ⟨ed, q2⟩ e2 => ?_) fun cls x dd s' H' q e1 => hx cls x dd s' H' q e1.pop
    · rcases List.mem_cons.mp hx with hx | hx
      · rw [hx]; exact List.mem_cons_self
      · exact List.mem_cons_of_mem _ (sb x hx)
    · subst ed
      obtain ⟨A, z, rl⟩ := id e2
      exact ⟨(z.tmp v _ List.mem_cons_self).non_, k _ _ s2 H2 q2 e2.pop⟩) hx
theorem ew_frzI (h : EW X c W s (fun d s' => ∃ p C fs ι, d = .ref p ∧ p ∉ c.O0 ∧ s'.ι.l = (p, C, fs) :: ι ∧ Φ (.ins C fs) (@S.mk s'.δ s'.ω ⟨ι⟩)) Ξ e) : EW X c W s Φ Ξ e :=
  PE.mono h fun σ H Q ⟨τ, e0, k, hx⟩ => ⟨τ, e0, fun v d s' H' ⟨p, C, fs, ι, ed, np, eo, q⟩ z => by
    obtain @⟨δ, ω, ⟨l⟩⟩ := s'
    have eo2 : l = (p, C, fs) :: ι := eo
    subst eo2 ed
    exact k v _ _ H' q (SE.frzI z np), hx⟩
end
end DL

namespace DL
open PySem PySem.Spec PyProof.Rows L2
structure Ow where
  l : List (Addr × List D)
  i : List (Addr × Addr × List (Str × D))
def Ow.ad (o : Ow) : List Addr := o.l.map (·.1) ++ o.i.map (·.1)
structure Owns (K : PySem.W.Frag) (A : Addr → Prop) (H : Hp) (o : Ow) : Prop where
  lst : ∀ p ds, (p, ds) ∈ o.l → (∃ xs, H p = some (.lst xs) ∧ RpL K A H ds xs) ∧ ¬ A p
  ins : ∀ p C fs, (p, C, fs) ∈ o.i → OwI K A H p C fs ∧ ¬ A p
  nd : (o.l.map (·.1)).Nodup
  ndi : (o.i.map (·.1)).Nodup
theorem Ow.mem {o : Ow} {p : Addr} (h : p ∈ o.ad) : (∃ ds, (p, ds) ∈ o.l) ∨ ∃ C fs, (p, C, fs) ∈ o.i := by
  rcases List.mem_append.mp h with h | h
  · obtain ⟨⟨q, ds⟩, h1, h2⟩ := List.mem_map.mp h
    cases h2
    exact .inl ⟨ds, h1⟩
  · obtain ⟨⟨q, C, fs⟩, h1, h2⟩ := List.mem_map.mp h
    cases h2
    exact .inr ⟨C, fs, h1⟩
theorem Ow.meml {o : Ow} {p : Addr} {ds : List D} (h : (p, ds) ∈ o.l) : p ∈ o.ad := List.mem_append_left _ (List.mem_map.mpr ⟨_, h, rfl⟩)
theorem Ow.memi {o : Ow} {p C : Addr} {fs : List (Str × D)} (h : (p, C, fs) ∈ o.i) : p ∈ o.ad := List.mem_append_right _ (List.mem_map.mpr ⟨_, h, rfl⟩)
section
variable {K : PySem.W.Frag} {A : Addr → Prop} {H : Hp} {o : Ow} {p : Addr}
theorem Owns.there (h : Owns K A H o) (hp : p ∈ o.ad) : ∃ u, H p = some u ∧ ¬ Fixd u := by
  rcases Ow.mem hp with ⟨ds, q⟩ | ⟨C, fs, q⟩
  · obtain ⟨⟨xs, e, _⟩, _⟩ := h.lst _ _ q
    exact ⟨_, e, fun z => z⟩
  · obtain ⟨⟨dx, vs, e, _⟩, _⟩ := h.ins _ _ _ q
    exact ⟨_, e, fun z => z⟩
theorem Owns.nt (h : Owns K A H o) (hp : p ∈ o.ad) {ps : Array Value} (e2 : H p = some (.tbl ps)) : False := by
  rcases Ow.mem hp with ⟨ds, q⟩ | ⟨C, fs, q⟩
  · obtain ⟨⟨xs, e, _⟩, _⟩ := h.lst _ _ q
    rw [e] at e2
    cases e2
  · obtain ⟨⟨dx, vs, e, _⟩, _⟩ := h.ins _ _ _ q
    rw [e] at e2
    cases e2
theorem Owns.nA (h : Owns K A H o) (hp : p ∈ o.ad) : ¬ A p := by
  rcases Ow.mem hp with ⟨ds, q⟩ | ⟨C, fs, q⟩
  · exact (h.lst _ _ q).2
  · exact (h.ins _ _ _ q).2
end
def spG (K : PySem.W.Frag) (F : Ow → List D → (Rs → Ow → Prop) → Prop) : Sp := fun vs H Q E => ∃ A o ds P, (∀ a, A a → ∃ u, H a = some u) ∧ Owns K A H o ∧ RpL K A H ds vs ∧ F o ds P ∧
  (∀ v d o' H' A', P (.ok d) o' → (∀ a u, a ∉ o.ad → H a = some u → H' a = some u) → (∀ a u, H a = some u → ∃ u', H' a = some u') → Owns K A' H' o' → (∀ p ∈ o'.ad, p ∈ o.ad ∨ H p = none) → (∀ a, A' a → A a ∨ H a = none) → (∀ a, A' a → ∃ u, H' a = some u) → Rp K A' H' d v → Q v H') ∧
  (∀ cls x dd o' H' A', P (.exc cls x) o' → (∀ a u, a ∉ o.ad → H a = some u → H' a = some u) → (∀ a u, H a = some u → ∃ u', H' a = some u') → Owns K A' H' o' → (∀ p ∈ o'.ad, p ∈ o.ad ∨ H p = none) → (∀ a, A' a → A a ∨ H a = none) → (∀ a, A' a → ∃ u, H' a = some u) → XR K H' x dd → E cls dd H')
inductive RetG (O : List Addr) (P : Rs → Ow → Prop) : D → S → Prop
  | mk {d d' : D} {s : S} (o' : Ow) (h1 : o'.l.Sublist s.ω) (h2 : o'.i.Sublist s.ι.l) (h : Fz (O ++ o'.ad) s.ω s.ι.l d d') (k : P (.ok d') o') : RetG O P d s
abbrev fnNdG (O : List Addr) (P : Rs → Ow → Prop) : Nd := { nx := fun s => RetG O P .non s, rt := RetG O P, ex := fun cls x s => ∃ o' : Ow, o'.l.Sublist s.ω ∧ o'.i.Sublist s.ι.l ∧ P (.exc cls x) o' }
section
variable {P : Program} {w : World} {K : PySem.W.Frag} {mg : Str → Option Value} {base : Heap} {x qual : Str} {params : Arguments} {body : List Stmt} {scope : Scope} {dvs : List V} {kws : List (Str × V)} {f : Addr} {fd : FuncData}
theorem fn_gen {N ps : List Str} {k : Nat} {Fs : Ow → List D → (Rs → Ow → Prop) → Prop} (F : FunD K x qual params body scope dvs kws f fd) (S0 : FnScope N ps scope) (hN : ps.length ≤ N.length) (hn : ∀ o ds Q, Fs o ds Q → ds.length = ps.length)
    (h : ∀ (X : Cx) (cdv : Value) (A : Around) (outer : List PySem.Env) (s : Shared) (H : Hp) (E : XK), X = FX P w K mg base N qual scope f cdv A outer s H E → Room k X.A → PassesOwn (model X.prog X.w) X.A X.env X.xe →
      ∀ (c : Cc) (W : WX) (o : Ow), c.O0 = o.ad → c.ρ = [] → Takes X W → ∀ ds (Q : Rs → Ow → Prop), Fs o ds Q → LW X c W (@S.mk (ds.map some ++ List.replicate (N.length - ps.length) none) o.l ⟨o.i⟩) (fnNdG o.ad Q) body) : FnOk P w K mg base (L2.CX P w) (k + 1) f fd ps (spG K Fs) := by
  refine F.ok S0 (fun vs H Q E hs => ?_) (fun cdv Ar outer s H vs Q E hr hs => ?_)
  · obtain ⟨A, o, ds, P', _, _, h2, hF, _⟩ := hs
    rw [h2.len, hn _ _ _ hF]
  · obtain ⟨A, o, ds, P', hA, ho, h2, hF, q1, q2⟩ := hs
    have hvl : vs.length = ps.length := by rw [h2.len, hn _ _ _ hF]
    have tk : Takes (FX P w K mg base N qual scope f cdv Ar outer s H E) (fun cls d _ H => E cls d H) := takes_of rfl rfl rfl rfl
    have po : PassesOwn (model P w) (FX P w K mg base N qual scope f cdv Ar outer s H E).A (FX P w K mg base N qual scope f cdv Ar outer s H E).env (FX P w K mg base N qual scope f cdv Ar outer s H E).xe := passes_of rfl
    have hbody := h _ cdv Ar outer s H E rfl hr po ⟨H, A, o.ad, [], []⟩ _ o rfl rfl tk ds P' hF
    refine ⟨_, hbody, [], ?_⟩
    have hl : (ds.map some).length = vs.length := by rw [List.length_map, h2.len]
    have hsl : ∀ (i : Nat) (d : D), (ds.map some)[i]? = some (some d) → ∃ v, vs[i]? = some v ∧ Rp K A H d v := fun i d hd => by
      rw [List.getElem?_map] at hd
      cases z : ds[i]? with
      | none =>
        rw [z] at hd
        cases hd
      | some f =>
        rw [z] at hd
        cases hd
        exact h2.get z
    obtain ⟨sl1, sl2⟩ := start_slots (N := N) hl (by omega) hsl
    rw [hvl] at sl1 sl2
    have e0 : SE K ⟨H, A, o.ad, [], []⟩ (L2.start N vs) H (@S.mk (ds.map some ++ List.replicate (N.length - ps.length) none) o.l ⟨o.i⟩) [] :=
      ⟨A, ⟨sl2, sl1, ho.lst, ho.nd, fun v d h => (by cases h), hA, ho.ins, ho.ndi⟩, ⟨fun a h => h, fun a h => .inl h, fun a u h _ => h, fun p ds hp => .inl (Ow.meml hp), fun p hp => let ⟨u, e, _⟩ := ho.there hp; ⟨u, e⟩, fun p hp => ho.nA hp, fun p hp => ho.there hp, fun p l hp => (by cases hp), fun p C fs hp => .inl (Ow.memi hp), fun x h => (by cases h)⟩⟩
    have lv : ∀ {B : Addr → Prop} {H' : Hp} {s' : S} {σ' : List (Option V)} {τ : List (V × D)} {o' : Ow}, En K B σ' H' s' τ → Rel K ⟨H, A, o.ad, [], []⟩ B H' s'.ω s'.ι → o'.l.Sublist s'.ω → o'.i.Sublist s'.ι.l →
        (∀ a u, a ∉ o.ad → H a = some u → H' a = some u) ∧ (∀ a u, H a = some u → ∃ u', H' a = some u') ∧ Owns K (ext (o.ad ++ o'.ad) B s'.ω s'.ι.l) H' o' ∧ (∀ p ∈ o'.ad, p ∈ o.ad ∨ H p = none) :=
      fun {B H' s' σ' τ o'} z rl h1 h2 => by
        have nA : ∀ p, p ∈ o'.ad → ¬ B p → ¬ ext (o.ad ++ o'.ad) B s'.ω s'.ι.l p := fun p hp nB q => q.elim nB fun q => q.1 (List.mem_append_right _ hp)
        refine ⟨fun a u na ha => rl.keep a u ha na, fun a u ha => ?_, ⟨fun p ds hp => ?_, fun p C fs hp => ?_, (h1.map _).nodup z.nd, (h2.map _).nodup z.ndi⟩, fun p hp => ?_⟩
        · by_cases na : a ∈ o.ad
          · exact rl.there a na
          · exact ⟨u, rl.keep a u ha na⟩
        · obtain ⟨⟨xs, g1, g2⟩, g3⟩ := z.own p ds (h1.subset hp)
          exact ⟨⟨xs, g1, RpL.mono (fun a h => .inl h) Keeps.refl _ _ g2⟩, nA p (Ow.meml hp) g3⟩
        · obtain ⟨⟨dx, vs, g1, g2⟩, g3⟩ := z.ins p C fs (h2.subset hp)
          exact ⟨⟨dx, vs, g1, RpF.mono (fun a h => .inl h) Keeps.refl _ _ g2⟩, nA p (Ow.memi hp) g3⟩
        · rcases Ow.mem hp with ⟨ds, q⟩ | ⟨C, fs, q⟩
          · exact rl.own p ds (h1.subset q)
          · exact rl.ins p C fs (h2.subset q)
    have fin : ∀ (v : V) (d : D) (s' : S) (σ' : List (Option V)) (H' : Hp), RetG o.ad P' d s' → SE K ⟨H, A, o.ad, [], []⟩ σ' H' s' [(v, d)] → Q v H' := fun v d s' σ' H' r ⟨B, z, rl⟩ => by
      cases r with
      | mk o' h1 h2 hz hk =>
        obtain ⟨g1, g2, g3, g4⟩ := lv z rl h1 h2
        exact q1 v _ o' H' _ hk g1 g2 g3 g4 (ext_up (O := o.ad ++ o'.ad) (fun a h => List.mem_append_left _ h) rl) (ext_dom z) (Fz.rp z hz (z.tmp v d List.mem_cons_self))
    refine ⟨e0, fun s' σ' H' r e => fin .non .non s' σ' H' r (e.atom rfl), fun v d s' σ' H' r e => fin v d s' σ' H' r e, fun _ _ _ z => z.elim, fun _ _ _ z => z.elim, fun cls x dd s' σ' H' ⟨o', h1, h2, r⟩ ⟨B, z, rl⟩ xr => ?_⟩
    obtain ⟨g1, g2, g3, g4⟩ := lv z rl h1 h2
    exact q2 cls x dd o' H' _ r g1 g2 g3 g4 (ext_up (O := o.ad ++ o'.ad) (fun a h => List.mem_append_left _ h) rl) (ext_dom z) xr
end
inductive Spl {α : Type} : List α → List α → List α → Prop
  | nil : Spl [] [] []
  | take {a : α} {l o r : List α} (h : Spl l o r) : Spl (a :: l) (a :: o) r
  | skip {a : α} {l o r : List α} (h : Spl l o r) : Spl (a :: l) o (a :: r)
theorem Spl.perm {α : Type} {l o r : List α} (h : Spl l o r) : l.Perm (o ++ r) := by
  induction h with
  | nil => exact .refl _
  | take _ ih => exact ih.cons _
  | skip _ ih => exact (ih.cons _).trans List.perm_middle.symm
def CallG (Φ : D → S → Prop) (Ξ : PX) (s1 : S) : Rs → Prop
  | .ok d => Φ d s1
  | .own _ => False
  | .exc cls x => Ξ cls x s1
section
variable {K : PySem.W.Frag} {c : Cc} {W : WX} {s : S} {Φ : D → S → Prop} {Ξ : PX} {ds : List D}
theorem met_g {Fs : Ow → List D → (Rs → Ow → Prop) → Prop} (h : ∃ (o : Ow) (ω2 : List (Addr × List D)) (ι2 : List (Addr × Addr × List (Str × D))), Spl s.ω o.l ω2 ∧ Spl s.ι.l o.i ι2 ∧ Fs o ds fun r o' => (∀ p ∈ o'.ad, p ∈ o.ad ∨ p ∉ c.O0) → CallG Φ Ξ (@S.mk s.δ (o'.l ++ ω2) ⟨o'.i ++ ι2⟩) r) : MetD K c W (spG K Fs) ds s Φ Ξ := fun σ H1 τ τ' vs Q ⟨A, z0, rl⟩ sb pr k hx => by
  obtain ⟨o, ω2, ι2, hl, hi, hF⟩ := h
  have z : En K A σ H1 s τ := z0.sub sb
  have ml : ∀ x, x ∈ o.l → x ∈ s.ω := fun x h => hl.perm.mem_iff.mpr (List.mem_append_left _ h)
  have ml2 : ∀ x, x ∈ ω2 → x ∈ s.ω := fun x h => hl.perm.mem_iff.mpr (List.mem_append_right _ h)
  have mi : ∀ x, x ∈ o.i → x ∈ s.ι.l := fun x h => hi.perm.mem_iff.mpr (List.mem_append_left _ h)
  have mi2 : ∀ x, x ∈ ι2 → x ∈ s.ι.l := fun x h => hi.perm.mem_iff.mpr (List.mem_append_right _ h)
  have ndl : ((o.l ++ ω2).map (·.1)).Nodup := (hl.perm.map _).nodup_iff.mp z.nd
  have ndi : ((o.i ++ ι2).map (·.1)).Nodup := (hi.perm.map _).nodup_iff.mp z.ndi
  rw [List.map_append] at ndl ndi
  obtain ⟨nl1, nl2, nl3⟩ := List.nodup_append.mp ndl
  obtain ⟨ni1, ni2, ni3⟩ := List.nodup_append.mp ndi
  have ow : Owns K A H1 o := ⟨fun p ds h => z.own p ds (ml _ h), fun p C fs h => z.ins p C fs (mi _ h), nl1, ni1⟩
  -- what is not handed over is not among what is
  have nol : ∀ p ds, (p, ds) ∈ ω2 → p ∉ o.ad := fun p ds hp q => by
    obtain ⟨⟨xs, e, _⟩, _⟩ := z.own p ds (ml2 _ hp)
    rcases Ow.mem q with ⟨ds', q⟩ | ⟨C, fs, q⟩
    · exact nl3 p (List.mem_map.mpr ⟨_, q, rfl⟩) p (List.mem_map.mpr ⟨_, hp, rfl⟩) rfl
    · obtain ⟨⟨dx, vs, e2, _⟩, _⟩ := z.ins p C fs (mi _ q)
      rw [e] at e2
      cases e2
  have noi : ∀ p C fs, (p, C, fs) ∈ ι2 → p ∉ o.ad := fun p C fs hp q => by
    obtain ⟨⟨dx, vs, e, _⟩, _⟩ := z.ins p C fs (mi2 _ hp)
    rcases Ow.mem q with ⟨ds', q⟩ | ⟨C', fs', q⟩
    · obtain ⟨⟨xs, e2, _⟩, _⟩ := z.own p ds' (ml _ q)
      rw [e] at e2
      cases e2
    · exact ni3 p (List.mem_map.mpr ⟨_, q, rfl⟩) p (List.mem_map.mpr ⟨_, hp, rfl⟩) rfl
  have own0 : ∀ p, p ∈ o.ad → p ∈ c.O0 ∨ c.H0 p = none := fun p hp => by
    rcases Ow.mem hp with ⟨ds', q⟩ | ⟨C, fs, q⟩
    · exact rl.own p ds' (ml _ q)
    · exact rl.ins p C fs (mi _ q)
  have back : ∀ {o' : Ow} {H' : Hp} {A' : Addr → Prop}, (∀ a u, a ∉ o.ad → H1 a = some u → H' a = some u) → (∀ a u, H1 a = some u → ∃ u', H' a = some u') → Owns K A' H' o' → (∀ p ∈ o'.ad, p ∈ o.ad ∨ H1 p = none) → (∀ a, A' a → A a ∨ H1 a = none) → (∀ a, A' a → ∃ u, H' a = some u) →
      En K (fun a => A a ∨ A' a) σ H' (@S.mk s.δ (o'.l ++ ω2) ⟨o'.i ++ ι2⟩) τ ∧ Rel K c (fun a => A a ∨ A' a) H' (o'.l ++ ω2) ⟨o'.i ++ ι2⟩ ∧ (∀ p ∈ o'.ad, p ∈ o.ad ∨ p ∉ c.O0) := by
    intro o' H' A' cg dm ow' nw up dm'
    have sb2 : ∀ a, A a → (A a ∨ A' a) := fun a h => .inl h
    have k2 : Keeps A H1 H' := fun a u h w => cg a u (fun q => by
      rcases w with w | w
      · exact ow.nA q w
      · obtain ⟨u2, e, nf⟩ := ow.there q
        rw [h] at e
        cases e
        exact nf w) h
    have nAA : ∀ b, ¬ A b → (∃ u, H1 b = some u) → ¬ (A b ∨ A' b) := fun b w1 ⟨u, w2⟩ w => w.elim w1 fun w => (up b w).elim w1 fun w => by
      rw [w2] at w
      cases w
    have nO : ∀ p, p ∈ o'.ad → ¬ A p := fun p hp => by
      rcases nw p hp with q | q
      · exact ow.nA q
      · exact fun w => by
          obtain ⟨u, e⟩ := z.dom p w
          rw [q] at e
          cases e
    have fresh : ∀ p, H1 p = none → c.H0 p = none := fun p hp => by
      cases w0 : c.H0 p with
      | none => rfl
      | some u =>
        by_cases hO : p ∈ c.O0
        · obtain ⟨y, g⟩ := rl.there p hO
          rw [hp] at g
          cases g
        · have g := rl.keep p u w0 hO
          rw [hp] at g
          cases g
    have no0 : ∀ p, p ∈ o'.ad → p ∈ c.O0 ∨ c.H0 p = none := fun p hp => (nw p hp).elim (own0 p) fun q => .inr (fresh p q)
    refine ⟨⟨fun i d hd => ?_, z.len, fun p ds hp => ?_, ?_, fun v d hv => Rp.mono sb2 k2 _ _ (z.tmp v d hv), fun a hA => ?_, fun p C fs hp => ?_, ?_⟩, ⟨fun a h => .inl (rl.sub a h), fun a hA => ?_, fun a u h0 no => ?_, fun p ds hp => ?_, fun p hp => ?_, fun p hp => ?_, rl.o0, rl.ro, fun p C fs hp => ?_, rl.tab.step fun a u h f => cg a u (fun q => by
      rcases f with f | ⟨ps, f⟩
      · obtain ⟨u2, e, nf⟩ := ow.there q
        rw [h] at e
        cases e
        exact nf f
      · subst f
        exact ow.nt q h) h⟩, fun p hp => ?_⟩
    · obtain ⟨v, g, r⟩ := z.slots i d hd
      exact ⟨v, g, Rp.mono sb2 k2 _ _ r⟩
    · rcases List.mem_append.mp hp with hp | hp
      · obtain ⟨⟨xs, g1, g2⟩, g3⟩ := ow'.lst p ds hp
        exact ⟨⟨xs, g1, RpL.mono (fun a h => .inr h) Keeps.refl _ _ g2⟩, fun w => w.elim (nO p (Ow.meml hp)) g3⟩
      · obtain ⟨⟨xs, g1, g2⟩, g3⟩ := z.own p ds (ml2 _ hp)
        exact ⟨⟨xs, cg p _ (nol p ds hp) g1, RpL.mono sb2 k2 _ _ g2⟩, nAA p g3 ⟨_, g1⟩⟩
    · show ((o'.l ++ ω2).map (·.1)).Nodup
      rw [List.map_append]
      refine List.nodup_append.mpr ⟨ow'.nd, nl2, fun p hp q hq e => ?_⟩
      subst e
      obtain ⟨⟨p1, ds1⟩, h1, e1⟩ := List.mem_map.mp hp
      obtain ⟨⟨p2, ds2⟩, h2, e2⟩ := List.mem_map.mp hq
      dsimp only at e1 e2
      subst e1
      subst e2
      rcases nw _ (Ow.meml h1) with w | w
      · exact nol _ _ h2 w
      · obtain ⟨⟨xs, g1, _⟩, _⟩ := z.own _ ds2 (ml2 _ h2)
        rw [w] at g1
        cases g1
    · rcases hA with hA | hA
      · obtain ⟨u, g⟩ := z.dom a hA
        exact dm a u g
      · exact dm' a hA
    · rcases List.mem_append.mp hp with hp | hp
      · obtain ⟨⟨dx, vs, g1, g2⟩, g3⟩ := ow'.ins p C fs hp
        exact ⟨⟨dx, vs, g1, RpF.mono (fun a h => .inr h) Keeps.refl _ _ g2⟩, fun w => w.elim (nO p (Ow.memi hp)) g3⟩
      · obtain ⟨⟨dx, vs, g1, g2⟩, g3⟩ := z.ins p C fs (mi2 _ hp)
        exact ⟨⟨dx, vs, cg p _ (noi p C fs hp) g1, RpF.mono sb2 k2 _ _ g2⟩, nAA p g3 ⟨_, g1⟩⟩
    · show ((o'.i ++ ι2).map (·.1)).Nodup
      rw [List.map_append]
      refine List.nodup_append.mpr ⟨ow'.ndi, ni2, fun p hp q hq e => ?_⟩
      subst e
      obtain ⟨⟨p1, C1, fs1⟩, h1, e1⟩ := List.mem_map.mp hp
      obtain ⟨⟨p2, C2, fs2⟩, h2, e2⟩ := List.mem_map.mp hq
      dsimp only at e1 e2
      subst e1
      subst e2
      rcases nw _ (Ow.memi h1) with w | w
      · exact noi _ _ _ h2 w
      · obtain ⟨⟨dx, vs, g1, _⟩, _⟩ := z.ins _ C2 fs2 (mi2 _ h2)
        rw [w] at g1
        cases g1
    · rcases hA with hA | hA
      · exact rl.up a hA
      · rcases up a hA with w | w
        · exact rl.up a w
        · exact .inr (fresh a w)
    · refine cg a u (fun q => ?_) (rl.keep a u h0 no)
      rcases own0 a q with w | w
      · exact no w
      · rw [h0] at w
        cases w
    · rcases List.mem_append.mp hp with hp | hp
      · exact no0 p (Ow.meml hp)
      · exact rl.own p ds (ml2 _ hp)
    · obtain ⟨u, g⟩ := rl.there p hp
      exact dm p u g
    · obtain ⟨u, g⟩ := rl.there p hp
      exact nAA p (rl.nA p hp) ⟨u, g⟩
    · rcases List.mem_append.mp hp with hp | hp
      · exact no0 p (Ow.memi hp)
      · exact rl.ins p C fs (mi2 _ hp)
    · rcases nw p hp with q | q
      · exact .inl q
      · refine .inr fun w => ?_
        obtain ⟨u, g⟩ := rl.there p w
        rw [q] at g
        cases g
  refine ⟨A, o, ds, _, z.dom, ow, Paired.toR pr z0, hF, fun v d o' H' A' q cg dm ow' nw up dm' r => ?_, fun cls x dd o' H' A' q cg dm ow' nw up dm' xr => ?_⟩
  · obtain ⟨g1, g2, g3⟩ := back cg dm ow' nw up dm'
    exact k v d _ H' (q g3) ⟨_, g1.push (Rp.mono (fun a h => .inr h) Keeps.refl _ _ r), g2⟩
  · obtain ⟨g1, g2, g3⟩ := back cg dm ow' nw up dm'
    exact hx cls x dd _ H' (q g3) ⟨_, g1, g2⟩ xr
end
end DL

namespace DL
open PySem PySem.Spec PyProof.Rows L2
def prAt (K : PySem.W.Frag) (C : Addr) (m : Str) : Addr := match PySem.W.recIn K (He.ma K C m) "property" with
  | some (.ref g :: _) => g
  | _ => 0
def eqO (a b : Option (Option Value)) : Bool := decide (a = b)
theorem eqO_ok {a b : Option (Option Value)} (h : eqO a b = true) : a = b := of_decide_eq_true h
def propB (K : PySem.W.Frag) (C : Addr) (m : Str) : Bool := eqO (PySem.W.findIn K (.ref C) m) (some (some (.ref (He.ma K C m)))) && (eqO (PySem.W.specialIn K (.ref (He.ma K C m)) "__get__") (some (some (.builtin "property.__get__"))) && (decide (PySem.W.takesIn K (.ref (He.ma K C m)) = some true) &&
  (match PySem.W.recIn K (He.ma K C m) "property" with
  | some (.ref _ :: _) => true
  | _ => false)))
theorem propB_ok {K : PySem.W.Frag} {C : Addr} {m : Str} (h : propB K C m = true) : PropOf K C m (He.ma K C m) (prAt K C m) := by
  obtain ⟨h1, h2⟩ := He.ba h
  obtain ⟨h2, h3⟩ := He.ba h2
  obtain ⟨h3, h4⟩ := He.ba h3
  refine ⟨eqO_ok h1, eqO_ok h2, of_decide_eq_true h3, ?_⟩
  unfold prAt
  split at h4
  · rename_i q r e
    rw [e]
    exact ⟨_, rfl⟩
  · cases h4
def callB (K : PySem.W.Frag) (C : Addr) : Bool := eqO (PySem.W.findIn K (.ref C) "__call__") (some (some (.ref (He.ma K C "__call__")))) && (PySem.W.isFn K (.ref (He.ma K C "__call__")) && PySem.W.fnIn K (He.ma K C "__call__"))
theorem callB_ok {K : PySem.W.Frag} {C : Addr} (h : callB K C = true) : StX.CallO K C (He.ma K C "__call__") := by
  obtain ⟨h1, h2⟩ := He.ba h
  obtain ⟨h2, h3⟩ := He.ba h2
  exact ⟨eqO_ok h1, h2, h3⟩
def insB (K : PySem.W.Frag) (C : Addr) : Bool := eqO (PySem.W.findIn K (.ref C) "__class__") (some (some (.builtin "object.__class__"))) && (eqO (PySem.W.specialIn K (.builtin "object.__class__") "__get__") (some (some (.builtin "getset_descriptor.__get__"))) &&
  (decide (PySem.W.takesIn K (.builtin "object.__class__") = some true) && decide (PySem.W.mroIn K C (.type "object") = some true)))
theorem insB_ok {K : PySem.W.Frag} {C : Addr} (c : Cls K C) (h : insB K C = true) : InsTy K C := by
  obtain ⟨h1, h2⟩ := He.ba h
  obtain ⟨h2, h3⟩ := He.ba h2
  obtain ⟨h3, h4⟩ := He.ba h3
  exact ⟨c, eqO_ok h1, eqO_ok h2, of_decide_eq_true h3, of_decide_eq_true h4⟩
def kitB (K : PySem.W.Frag) (t u : Value) (b : Bool) : Bool := decide (PySem.W.kitOne K t u = some b)
theorem kitB_ok {K : PySem.W.Frag} {t u : Value} {b : Bool} (h : kitB K t u b = true) : PySem.W.kitOne K t u = some b := of_decide_eq_true h
def excB (K : PySem.W.Frag) (D : Addr) : Bool := eqO (PySem.W.findIn K (.ref D) "__getattribute__") (some (some (.builtin "BaseException.__getattribute__"))) && (eqO (PySem.W.findIn K (.ref D) "__getattr__") (some none) && (decide (PySem.W.subIn K (.ref D) (.type "BaseException") = some true) && (PySem.W.hasDictIn K D &&
  (eqO (PySem.W.findIn K (.ref D) "__class__") (some (some (.builtin "object.__class__"))) && (eqO (PySem.W.specialIn K (.builtin "object.__class__") "__get__") (some (some (.builtin "getset_descriptor.__get__"))) && (decide (PySem.W.takesIn K (.builtin "object.__class__") = some true) && decide (PySem.W.mroIn K D (.type "object") = some true)))))))
theorem excB_ok {K : PySem.W.Frag} {D : Addr} (h : excB K D = true) : ExcC K D := by
  obtain ⟨h1, h⟩ := He.ba h
  obtain ⟨h2, h⟩ := He.ba h
  obtain ⟨h3, h⟩ := He.ba h
  obtain ⟨h4, h⟩ := He.ba h
  obtain ⟨h5, h⟩ := He.ba h
  obtain ⟨h6, h⟩ := He.ba h
  obtain ⟨h7, h8⟩ := He.ba h
  exact ⟨eqO_ok h1, eqO_ok h2, of_decide_eq_true h3, h4, eqO_ok h5, eqO_ok h6, of_decide_eq_true h7, of_decide_eq_true h8⟩

section
variable {P : Program} {w : World} {K : PySem.W.Frag} {mg : Str → Option Value} {base : Heap} {x : Str} {params : Arguments} {body : List Stmt} {scope : Scope} {f : Addr}
theorem FnA.mono {j k : Nat} {sp : Sp} (h : FnA P w K mg base j f sp) (hj : j ≤ k) : FnA P w K mg base k f sp := let ⟨fd, ps, F, b⟩ := h; ⟨fd, ps, F.mono hj, b⟩
theorem fa_gen {qual : Str} {N ps : List Str} {k : Nat} {Fs : Ow → List D → (Rs → Ow → Prop) → Prop} (F : ∃ fd, FunD K x qual params body scope [] [] f fd) (S0 : FnScope N ps scope)
    (hbd : ∀ (kV doc pm : Value) (an : Option Addr) (cdv ct : Value) (us : List Value), us.length = ps.length → bindArgs (PySem.W.fnOf x qual params body scope .none kV doc pm an cdv ct) ⟨us, []⟩ = pure (ps.zip us)) (hN : ps.length ≤ N.length) (hn : ∀ o ds Q, Fs o ds Q → ds.length = ps.length)
    (h : ∀ (cdv : Value) (A : Around) (outer : List PySem.Env) (s : Shared) (H : Hp) (E : XK), Room k (FX P w K mg base N qual scope f cdv A outer s H E).A → PassesOwn (model P w) (FX P w K mg base N qual scope f cdv A outer s H E).A (FX P w K mg base N qual scope f cdv A outer s H E).env (FX P w K mg base N qual scope f cdv A outer s H E).xe →
      ∀ (c : Cc) (W : WX) (o : Ow), c.O0 = o.ad → Takes (FX P w K mg base N qual scope f cdv A outer s H E) W → (FX P w K mg base N qual scope f cdv A outer s H E).N = N → N.Nodup → ∀ ds (Q : Rs → Ow → Prop), Fs o ds Q → LW (FX P w K mg base N qual scope f cdv A outer s H E) c W (@S.mk (ds.map some ++ List.replicate (N.length - ps.length) none) o.l ⟨o.i⟩) (fnNdG o.ad Q) body) : FnA P w K mg base (k + 1) f (spG K Fs) := by
  obtain ⟨fd, F⟩ := F
  exact ⟨fd, ps, fn_gen F S0 hN hn (fun X cdv A outer s H E hX hr po c W o hO _ tk ds Q hF => by
    subst hX
    exact h cdv A outer s H E hr po c W o hO tk rfl S0.nd ds Q hF), F.bindsN hbd⟩
end
section
variable {X : Cx} {c : Cc} {W : WX} {s : S} {Φ : D → S → Prop} {Ξ : PX} {e : Expr} {es : List Expr} {pos : Pos} {x : Str} {p : Pos} {ps : List Str} {k : Nat} {sp : Sp}
end
end DL

namespace DL
open PySem PySem.Spec PyProof.Rows L2
section
variable {K : PySem.W.Frag} {c : Cc} {H : Hp}
theorem wipe_twice (σ : List (Option V)) (vs : List Nat) : wipe (wipe σ vs) vs = wipe σ vs := by
  have h1 : ∀ (σ : List (Option V)) (n : Nat), n ∈ vs → (wipe σ vs)[n]? = if n < σ.length then some none else none := fun σ n => by
    induction vs with
    | nil => intro h; cases h
    | cons v ws ih =>
      intro h
      show ((wipe σ ws).set v none)[n]? = _
      by_cases hv : v = n
      · subst hv
        by_cases hl : v < σ.length
        · rw [List.getElem?_set_self (by rw [wipe_length]; exact hl), if_pos hl]
        · rw [List.getElem?_eq_none (by rw [List.length_set, wipe_length]; omega), if_neg hl]
      · rw [List.getElem?_set_ne hv]
        exact ih ((List.mem_cons.mp h).elim (fun q => absurd q.symm hv) id)
  refine List.ext_getElem? fun n => ?_
  by_cases hn : n ∈ vs
  · rw [h1 _ n hn, h1 _ n hn, wipe_length]
  · rw [wipe_out hn]
theorem SE.slotsBack {τ : List (V × D)} {σ σ2 : List (Option V)} {δ δ2 : List (Option D)} {ω : List (Addr × List D)} {ι : Is} {x : V × D} (e : SE K c σ2 H (@S.mk δ2 ω ι) (x :: (slotT σ δ ++ τ))) (hl : σ.length = δ.length) (hs : ∀ (i : Nat) (d : D), δ[i]? = some (some d) → ∃ v, σ[i]? = some (some v)) :
    SE K c σ H (@S.mk δ ω ι) (x :: (slotT σ δ ++ τ)) := by
  have e1 := (e.sub (τ' := slotT σ δ ++ (x :: τ)) fun y hy => by
    rcases List.mem_append.mp hy with hy | hy
    · exact List.mem_cons_of_mem _ (List.mem_append_left _ hy)
    · rcases List.mem_cons.mp hy with hy | hy
      · rw [hy]; exact List.mem_cons_self
      · exact List.mem_cons_of_mem _ (List.mem_append_right _ hy)).backSlots hl hs
  exact e1.sub fun y hy => by
    rcases List.mem_cons.mp hy with hy | hy
    · rw [hy]; exact List.mem_append_right _ List.mem_cons_self
    · rcases List.mem_append.mp hy with hy | hy
      · exact List.mem_append_left _ hy
      · exact List.mem_append_right _ (List.mem_cons_of_mem _ hy)
end
section
variable {X : Cx} {c : Cc} {W : WX} {s : S} {Φ : D → S → Prop} {Ξ : PX} {elt iter iter1 tg tg1 : Expr} {scope : Scope} {pos : Pos} {H : Hp}
def blkI (X : Cx) (scope : Scope) (tg iter : Expr) : TI := fun σ H R => ∃ t, (∀ (s : Shared) (H : Hp) (C : Addr) (cl : List (Str × Addr)) (fp : List Addr), PI (X.blk s H scope (compEnvC scope cl C X.env) fp) tg iter t) ∧ t σ H R
def LcIn (X : Cx) (c : Cc) (scope : Scope) (vs1 : List Nat) (R1 : D → S → (S → Prop) → Prop) (elt : Expr) (p : Addr) (acc0 : List D) (fin : List D → List (Addr × List D) → Is → Prop) (l1 : List D) (C1 : S → Prop) (s3 : S) : Prop := ∃ (ω3 : List (Addr × List D)) (J : Nat → List D → List (Addr × List D) → Is → Prop), s3.ω = (p, acc0) :: ω3 ∧ J 0 acc0 ω3 s3.ι ∧ (∀ j acc ω ι δ, J j acc ω ι → C1 (@S.mk δ ((p, acc) :: ω) ι)) ∧
  (∀ j d acc ω ι, l1[j]? = some d → J j acc ω ι → R1 d (@S.mk (wipeD s3.δ vs1) ((p, acc) :: ω) ι) fun s4 => ∀ (s0 : Shared) (H0 : Hp) (C : Addr) (cl : List (Str × Addr)) (fp : List Addr), EW (X.blk s0 H0 scope (compEnvC scope cl C X.env) fp) c WF s4 (fun y s5 => acc.length < 16777216 ∧ ∃ ω5, s5.ω = (p, acc) :: ω5 ∧ J (j + 1) (acc ++ [y]) ω5 s5.ι) XF elt) ∧
  (∀ acc ω ι, J l1.length acc ω ι → fin acc ω ι)
def LcPost2 (X : Cx) (c : Cc) (scope : Scope) (vs vs1 : List Nat) (R R1 : D → S → (S → Prop) → Prop) (tg1 iter1 elt : Expr) (Φ : D → S → Prop) (l : List D) (C : S → Prop) (s1 : S) : Prop := ∃ I : Nat → List D → List (Addr × List D) → Is → Prop,
  I 0 [] s1.ω s1.ι ∧ (∀ i acc ω ι p δ, I i acc ω ι → C (@S.mk δ ((p, acc) :: ω) ι)) ∧
  (∀ i d acc ω ι p, l[i]? = some d → I i acc ω ι → p ∉ c.O0 → R d (@S.mk (wipeD s1.δ vs) ((p, acc) :: ω) ι) fun s2 => ∀ (s0 : Shared) (H0 : Hp) (C' : Addr) (cl : List (Str × Addr)) (fp : List Addr), IW (X.blk s0 H0 scope (compEnvC scope cl C' X.env) fp) c WF s2 (LcIn X c scope vs1 R1 elt p acc (I (i + 1))) XF tg1 iter1) ∧
  (∀ acc ω ι p, I l.length acc ω ι → p ∉ c.O0 → Φ (.ref p) (@S.mk s1.δ ((p, acc) :: ω) ι))
theorem lc_turns2 {vs vs1 : List Nat} {R R1 : D → S → (S → Prop) → Prop} {τ : List (V × D)} {Q : VK} {σ : List (Option V)} {Jt : It} {l : List D} {C : S → Prop}
    (e0 : SE X.K c σ H s τ) (js : JS X.K c l C τ Jt) (hp : LcPost2 X c scope vs vs1 R R1 tg1 iter1 elt Φ l C s) (k : ∀ v d s' H', Φ d s' → SE X.K c σ H' s' ((v, d) :: τ) → Q v H') :
    ∀ Dp, H Dp = none → ∃ W : Nat → Nat → Hp → Prop, (∃ m, W 0 m (upd H Dp (.lst []))) ∧ ∀ i m H, W i m H →
      (Jt.stop i H ∧ Q (.ref Dp) H) ∨ (Jt.go i H ∧ ∃ Nx : Hp → Prop, (∀ H', Nx H' → ∃ m', m' < m ∧ W (i + 1) m' H') ∧ ∀ x H', Jt.yld i H x H' → gR X.K c vs R x (wipe σ vs) H' fun σ2 H2 => wipe σ2 vs = wipe σ vs ∧ blkT X scope [] σ2 H2 fun b H3 =>
        if b = true then blkI X scope tg1 iter1 σ2 H3 fun J1 H4 => ∃ W1 : Nat → Nat → Hp → Prop, (∃ m, W1 0 m H4) ∧ ∀ j k H, W1 j k H →
          (J1.stop j H ∧ Nx H) ∨ (J1.go j H ∧ ∃ Nx1 : Hp → Prop, (∀ H', Nx1 H' → ∃ k', k' < k ∧ W1 (j + 1) k' H') ∧ ∀ x H', J1.yld j H x H' → gR X.K c vs1 R1 x (wipe σ2 vs1) H' fun σ3 H5 => wipe σ3 vs1 = wipe σ2 vs1 ∧ blkT X scope [] σ3 H5 fun b H6 =>
            if b = true then blkE X scope elt σ3 H6 fun y H7 => ∃ acc, H7 Dp = some (.lst acc) ∧ acc.length < sizeLine ∧ Nx1 (upd H7 Dp (.lst (acc ++ [y]))) else Nx1 H6)
        else Nx H3) := by
  intro p hn
  obtain ⟨I, i0, iC, iS, iE⟩ := hp
  have hlen : σ.length = s.δ.length := by
    obtain ⟨A, z, _⟩ := e0
    exact z.len
  have hsl : ∀ (i : Nat) (d : D), s.δ[i]? = some (some d) → ∃ v, σ[i]? = some (some v) := fun i d hd => by
    obtain ⟨A, z, _⟩ := e0
    obtain ⟨v, hv, _⟩ := z.slots i d hd
    exact ⟨v, hv⟩
  obtain ⟨A0, z0, rl0⟩ := id e0
  have np : p ∉ c.O0 := fun w => by
    obtain ⟨ys, q⟩ := rl0.there p w
    rw [hn] at q
    cases q
  have first : SE X.K c σ (upd H p (.lst [])) (@S.mk s.δ ((p, []) :: s.ω) s.ι) ((.ref p, .ref p) :: (slotT σ s.δ ++ τ)) := by
    obtain ⟨A, z, rl⟩ := e0.keepSlots
    exact SE.newL z rl hn RpL.nil
  refine ⟨fun i m H' => m = l.length - i ∧ i ≤ l.length ∧ ∃ acc ω ι, I i acc ω ι ∧ SE X.K c σ H' (@S.mk s.δ ((p, acc) :: ω) ι) ((.ref p, .ref p) :: (slotT σ s.δ ++ τ)), ⟨l.length, rfl, Nat.zero_le _, [], s.ω, s.ι, i0, first⟩, ?_⟩
  rintro i m H' ⟨rfl, hi, acc, ω, ι, w, e1⟩
  have toT : ∀ x ∈ τ, x ∈ (V.ref p, D.ref p) :: (slotT σ s.δ ++ τ) := fun x hx => List.mem_cons_of_mem _ (List.mem_append_right _ hx)
  -- an iterator's step keeps all
  have keepT : ∀ {x : V} {d : D} {H2 : Hp} {σ : List (Option V)} {s' : S} {τ0 τ1 : List (V × D)}, SE X.K c σ H2 s' ((x, d) :: τ0) → (∀ y ∈ τ1, y ∈ τ0 ∨ y ∈ slotT σ s'.δ ∨ y = (V.ref p, D.ref p)) → SE X.K c σ H2 s' ((x, d) :: τ1) := by
    intro x d H2 σ s' τ0 τ1 ⟨A, z, rl⟩ hs
    refine ⟨A, ⟨z.slots, z.len, z.own, z.nd, fun v f hv => ?_, z.dom, z.ins, z.ndi⟩, rl⟩
    rcases List.mem_cons.mp hv with hv | hv
    · exact z.tmp v f (hv ▸ List.mem_cons_self)
    · rcases hs _ hv with hv | hv | hv
      · exact z.tmp v f (List.mem_cons_of_mem _ hv)
      · obtain ⟨n, h1, h2⟩ := slotT_of hv
        obtain ⟨v', g2, g3⟩ := z.slots n f h2
        rw [h1] at g2
        cases g2
        exact g3
      · cases hv
        unfold Rp
        rfl
  by_cases hlt : i < l.length
  · refine .inr ⟨js.go i σ H' _ (iC i acc ω ι p s.δ w) (e1.sub toT) hlt, fun H2 => ∃ acc2 ω2 ι2, I (i + 1) acc2 ω2 ι2 ∧ SE X.K c σ H2 (@S.mk s.δ ((p, acc2) :: ω2) ι2) ((.ref p, .ref p) :: (slotT σ s.δ ++ τ)), fun H2 q => ⟨l.length - (i + 1), by omega, rfl, hlt, q⟩, fun x H2 hy => ?_⟩
    obtain ⟨d, g1, e2'⟩ := js.yld i x σ H' H2 _ (iC i acc ω ι p s.δ w) (e1.sub toT) hlt hy
    have e2 := keepT (τ1 := (V.ref p, D.ref p) :: (slotT σ s.δ ++ τ)) e2' fun y hy => by
      rcases List.mem_cons.mp hy with hy | hy
      · exact .inr (.inr hy)
      · rcases List.mem_append.mp hy with hy | hy
        · exact .inr (.inl hy)
        · exact .inl hy
    refine ⟨_, d, _, _, SE.wipe e2 vs, iS i d acc ω ι p g1 w np, fun s2 σ2 H3 q wq e4 => ⟨by rw [wq, wipe_twice], ?_⟩⟩
    refine ⟨tB2 X.K c WF s2 (fun b s' => b = true ∧ s' = s2) XF, fun s0 H0 C' cl fp => ts_nil ⟨rfl, rfl⟩, _, e4, fun b s3 H4 ⟨eb, es⟩ e5 => ?_, fun _ _ _ _ _ z => z.elim⟩
    subst eb es
    rw [if_pos rfl]
    refine ⟨iW X.K c WF s3 (LcIn X c scope vs1 R1 elt p acc (I (i + 1))) XF, q, _, e5, fun J1 l1 C1 s4 H5 τ4 ⟨ω3, J, ew, j0, jC, jS, jE⟩ e6 sb6 js1 => ?_, fun _ _ _ _ _ z => z.elim⟩
    obtain @⟨δ4, o4, ι4⟩ := s4
    have ew2 : o4 = (p, acc) :: ω3 := ew
    subst ew2
    have hlen2 : σ2.length = δ4.length := by
      obtain ⟨A, z, _⟩ := e6
      exact z.len
    have hsl2 : ∀ (i : Nat) (d : D), δ4[i]? = some (some d) → ∃ v, σ2[i]? = some (some v) := fun i d hd => by
      obtain ⟨A, z, _⟩ := e6
      obtain ⟨v, hv, _⟩ := z.slots i d hd
      exact ⟨v, hv⟩
    have e6k := e6.keepSlots
    have pin4 : (V.ref p, D.ref p) ∈ τ4 := sb6 _ List.mem_cons_self
    have sin4 : ∀ y ∈ slotT σ s.δ ++ τ, y ∈ τ4 := fun y hy => sb6 _ (List.mem_cons_of_mem _ hy)
    refine ⟨fun j m H' => m = l1.length - j ∧ j ≤ l1.length ∧ ∃ acc ω ι, J j acc ω ι ∧ SE X.K c σ2 H' (@S.mk δ4 ((p, acc) :: ω) ι) (slotT σ2 δ4 ++ τ4), ⟨l1.length, rfl, Nat.zero_le _, acc, ω3, ι4, j0, e6k⟩, ?_⟩
    rintro j m H7 ⟨rfl, hj, acc7, ω7, ι7, w7, e7⟩
    have toT4 : ∀ x ∈ τ4, x ∈ slotT σ2 δ4 ++ τ4 := fun x hx => List.mem_append_right _ hx
    by_cases hlt1 : j < l1.length
    · refine .inr ⟨js1.go j σ2 H7 _ (jC j acc7 ω7 ι7 δ4 w7) (e7.sub toT4) hlt1, fun H8 => ∃ acc2 ω2 ι2, J (j + 1) acc2 ω2 ι2 ∧ SE X.K c σ2 H8 (@S.mk δ4 ((p, acc2) :: ω2) ι2) (slotT σ2 δ4 ++ τ4), fun H8 q => ⟨l1.length - (j + 1), by omega, rfl, hlt1, q⟩, fun x8 H8 hy8 => ?_⟩
      obtain ⟨d8, g8, e8'⟩ := js1.yld j x8 σ2 H7 H8 _ (jC j acc7 ω7 ι7 δ4 w7) (e7.sub toT4) hlt1 hy8
      have e8 := keepT (τ1 := slotT σ2 δ4 ++ τ4) e8' fun y hy => by
        rcases List.mem_append.mp hy with hy | hy
        · exact .inr (.inl hy)
        · exact .inl hy
      refine ⟨_, d8, _, _, SE.wipe e8 vs1, jS j d8 acc7 ω7 ι7 g8 w7, fun s9 σ9 H9 q9 wq9 e9 => ⟨by rw [wq9, wipe_twice], ?_⟩⟩
      refine ⟨tB2 X.K c WF s9 (fun b s' => b = true ∧ s' = s9) XF, fun s0 H0 C' cl fp => ts_nil ⟨rfl, rfl⟩, _, e9, fun b s10 H10 ⟨eb, es⟩ e10 => ?_, fun _ _ _ _ _ z => z.elim⟩
      subst eb es
      rw [if_pos rfl]
      refine ⟨tW X.K c WF s10 _ XF, q9, _, e10, fun y f s11 H11 ⟨hl, ω11, ew, w11⟩ e11 => ?_, fun _ _ _ _ _ z => z.elim⟩
      obtain @⟨δ11, o11, ι11⟩ := s11
      have ew2 : o11 = (p, acc7) :: ω11 := ew
      subst ew2
      obtain ⟨A, z, rl⟩ := e11
      obtain ⟨⟨xs, h1, h2⟩, _⟩ := z.own p acc7 List.mem_cons_self
      have ry := z.tmp y f List.mem_cons_self
      refine ⟨xs, h1, by rw [RpL.len h2, sizeLine_eq]; exact hl, acc7 ++ [f], ω11, ι11, w11, ?_⟩
      have e12 := SE.setO (s := @S.mk δ11 ((p, acc7) :: ω11) ι11) z rl At.z Pt.z (h2.append (.one ry))
      exact (e12.sub fun x hx => List.mem_cons_of_mem _ hx).backSlots hlen2 hsl2
    · have e : j = l1.length := by omega
      subst e
      refine .inl ⟨js1.stop _ σ2 H7 _ (jC _ acc7 ω7 ι7 δ4 w7) (e7.sub toT4) (Nat.le_refl _), acc7, ω7, ι7, jE _ _ _ w7, ?_⟩
      exact SE.slotsBack (e7.sub fun x hx => by
        rcases List.mem_cons.mp hx with hx | hx
        · rw [hx]; exact List.mem_append_right _ pin4
        · exact List.mem_append_right _ (sin4 _ hx)) hlen hsl
  · have e : i = l.length := by omega
    subst e
    exact .inl ⟨js.stop _ σ H' _ (iC _ acc ω ι p s.δ w) (e1.sub toT) (Nat.le_refl _), k _ _ _ H' (iE acc ω ι p w np) (e1.sub fun x hx => by
      rcases List.mem_cons.mp hx with hx | hx
      · rw [hx]; exact List.mem_cons_self
      · exact toT x hx)⟩
theorem ew_lc2 {own : List (Str × Nat)} {vs1 : List Nat} {R R1 : D → S → (S → Prop) → Prop} (hc : X.calm = true) (hN : X.N.Nodup) (ok : BlkOk X.N X.env.scope scope own) (hv : ∀ i ∈ vs1, i ∈ own.map (·.2))
    (hg : ∀ (s0 : Shared) (H0 : Hp) (C : Addr) (cl : List (Str × Addr)) (fp : List Addr), GW (X.blk s0 H0 scope (compEnvC scope cl C X.env) fp) c (own.map fun q : Str × Nat => q.2) tg R)
    (hg1 : ∀ (s0 : Shared) (H0 : Hp) (C : Addr) (cl : List (Str × Addr)) (fp : List Addr), GW (X.blk s0 H0 scope (compEnvC scope cl C X.env) fp) c vs1 tg1 R1)
    (h : IW X c W s (LcPost2 X c scope (own.map fun q : Str × Nat => q.2) vs1 R R1 tg1 iter1 elt Φ) Ξ tg iter) (hs : ∀ x, foldedSetIterable iter X.env x = pure x := by intro _; rfl) (hs1 : ∀ env x, foldedSetIterable iter1 env x = pure x := by intro _ _; rfl) :
    EW X c W s Φ Ξ (.ListComp elt [⟨tg, iter, [], 0⟩, ⟨tg1, iter1, [], 0⟩] scope pos) :=
  PE.mono (pe_lc2 hc hN h ok hv (g := gR X.K c (own.map fun q : Str × Nat => q.2) R) (g1 := gR X.K c vs1 R1) (tt := blkT X scope []) (tt1 := blkT X scope []) (te := blkE X scope elt) (wi1 := blkI X scope tg1 iter1) hg (fun s0 H0 C cl fp => ⟨fun pins s σ H Q I ⟨t, ht, q⟩ => (ht s0 H0 C cl fp).run pins s σ H Q I q⟩)
    (fun s0 H0 C cl fp => ⟨fun pins s σ H R I ⟨t, ht, q⟩ => (ht s0 H0 C cl fp).run pins s σ H R I q⟩) hg1 (fun s0 H0 C cl fp => ⟨fun pins s σ H Q I ⟨t, ht, q⟩ => (ht s0 H0 C cl fp).run pins s σ H Q I q⟩) (fun s0 H0 C cl fp => ⟨fun pins s σ H Q I ⟨t, ht, q⟩ => (ht s0 H0 C cl fp).run pins s σ H Q I q⟩) hs hs1) fun σ H Q ⟨τ, e0, k, hx⟩ =>
      ⟨τ, e0, fun J l C s1 H1 τ1 hp e1 sb js => lc_turns2 e1 js hp fun v d s' H' q e2 => k v d s' H' q (e2.sub fun x hx => by
        rcases List.mem_cons.mp hx with hx | hx
        · rw [hx]; exact List.mem_cons_self
        · exact List.mem_cons_of_mem _ (sb x hx)), hx⟩
end
end DL

namespace DL
open PySem PySem.Spec PyProof.Rows L2
section
variable {X : Cx} {c : Cc} {W : WX} {s : S} {N : List Str} {Φ : D → S → Prop} {Ξ : PX} {elt iter iter1 : Expr} {scope sc : Scope} {pos px : Pos} {x y z : Str}
def BlkL (X : Cx) (scope : Scope) (x : Str) : Prop := ∀ (s0 : Shared) (H0 : Hp) (C : Addr) (cl : List (Str × Addr)) (fp : List Addr), Loc (X.blk s0 H0 scope (compEnvC scope cl C X.env) fp).env.scope x ∧ ((X.blk s0 H0 scope (compEnvC scope cl C X.env) fp).fn x = true ∨ (X.blk s0 H0 scope (compEnvC scope cl C X.env) fp).env.scope.names.lookup x = some .local)
theorem lc2NP {i j l k : Nat} {q r pt : Pos} (hN : X.N = N) (nd : N.Nodup) (ix : Ix N x i) (iy : Ix N y j) (iz : Ix N z l) (hsc : X.env.scope = sc) (hb : blkC N sc scope [(x, i), (y, j), (z, l)] = true)
    (h : IW X c W s (LcPost2 X c scope [i, j, l] [j, l] (GN i) (GT 2 (GC (GN j) (GC (GN l) GZ))) (.Tuple [.Name y q, .Name z r] k pt) iter1 elt Φ) Ξ (.Name x px) iter) (hc : X.calm = true := by rfl)
    (bx : BlkL X scope x := by intro _ _ _ _ _; constructor <;> first | exact .inl rfl | exact .inr rfl) (bY : BlkL X scope y := by intro _ _ _ _ _; constructor <;> first | exact .inl rfl | exact .inr rfl) (bz : BlkL X scope z := by intro _ _ _ _ _; constructor <;> first | exact .inl rfl | exact .inr rfl)
    (hs : ∀ x, foldedSetIterable iter X.env x = pure x := by intro _; rfl) (hs1 : ∀ env x, foldedSetIterable iter1 env x = pure x := by intro _ _; rfl) :
    EW X c W s Φ Ξ (.ListComp elt [⟨.Name x px, iter, [], 0⟩, ⟨.Tuple [.Name y q, .Name z r] k pt, iter1, [], 0⟩] scope pos) :=
  ew_lc2 (own := [(x, i), (y, j), (z, l)]) (vs1 := [j, l]) hc (by rw [hN]; exact nd) (blk_ok hN hsc hb) (fun n hn => List.mem_cons_of_mem _ hn) (fun s0 H0 C cl fp => gw_name (by show X.N.Nodup; rw [hN]; exact nd) List.mem_cons_self (by show X.N[i]? = some x; rw [hN]; exact ix.get) (bx s0 H0 C cl fp).1 (bx s0 H0 C cl fp).2)
    (fun s0 H0 C cl fp => gwP hc (by show X.N.Nodup; rw [hN]; exact nd) List.mem_cons_self (List.mem_cons_of_mem _ List.mem_cons_self) (by show X.N[j]? = some y; rw [hN]; exact iy.get) (by show X.N[l]? = some z; rw [hN]; exact iz.get) (bY s0 H0 C cl fp).1 (bz s0 H0 C cl fp).1 (bY s0 H0 C cl fp).2 (bz s0 H0 C cl fp).2) h hs hs1
end
section
variable {X : Cx} {c : Cc} {scope : Scope} {vs vs1 : List Nat} {R R1 : D → S → (S → Prop) → Prop} {tg1 iter1 elt : Expr} {Φ : D → S → Prop} {l : List D} {C : S → Prop} {s1 : S}
theorem lc2_res (res : Nat → List D) (hz : ((List.range l.length).flatMap res).length ≤ 16777216) (hC : ∀ acc p δ, C (@S.mk δ ((p, acc) :: s1.ω) s1.ι))
    (hm : ∀ {d s Φ Φ'}, R d s Φ → (∀ s', Φ s' → Φ' s') → R d s Φ') (hm1 : ∀ {d s Φ Φ'}, R1 d s Φ → (∀ s', Φ s' → Φ' s') → R1 d s Φ')
    (turn : ∀ i d p, l[i]? = some d → i < l.length → p ∉ c.O0 → R d (@S.mk (wipeD s1.δ vs) ((p, (List.range i).flatMap res) :: s1.ω) s1.ι) fun s2 => ∀ (s0 : Shared) (H0 : Hp) (C' : Addr) (cl : List (Str × Addr)) (fp : List Addr), IW (X.blk s0 H0 scope (compEnvC scope cl C' X.env) fp) c WF s2 (fun l1 C1 s3 =>
      (s3.ω, s3.ι) = ((p, (List.range i).flatMap res) :: s1.ω, s1.ι) ∧ l1.length = (res i).length ∧ (∀ acc δ, C1 (@S.mk δ ((p, acc) :: s1.ω) s1.ι)) ∧ ∀ j d1, l1[j]? = some d1 → j < l1.length → R1 d1 (@S.mk (wipeD s3.δ vs1) ((p, (List.range i).flatMap res ++ (res i).take j) :: s1.ω) s1.ι) fun s4 => ∀ (s0 : Shared) (H0 : Hp) (C' : Addr) (cl : List (Str × Addr)) (fp : List Addr),
        EW (X.blk s0 H0 scope (compEnvC scope cl C' X.env) fp) c WF s4 (fun y s5 => (res i)[j]? = some y ∧ (s5.ω, s5.ι) = ((p, (List.range i).flatMap res ++ (res i).take j) :: s1.ω, s1.ι)) XF elt) XF tg1 iter1)
    (fin : ∀ p, p ∉ c.O0 → Φ (.ref p) (@S.mk s1.δ ((p, (List.range l.length).flatMap res) :: s1.ω) s1.ι)) : LcPost2 X c scope vs vs1 R R1 tg1 iter1 elt Φ l C s1 := by
  refine ⟨fun i acc ω ι => acc = (List.range i).flatMap res ∧ ω = s1.ω ∧ ι = s1.ι, ⟨rfl, rfl, rfl⟩, fun i acc ω ι p δ ⟨e1, e2, e3⟩ => by rw [e2, e3]; exact hC acc p δ, fun i d acc ω ι p hd ⟨e1, e2, e3⟩ np => ?_, fun acc ω ι p ⟨e1, e2, e3⟩ np => ?_⟩
  · subst e1 e2 e3
    have hi := (List.getElem?_eq_some_iff.mp hd).1
    refine hm (turn i d p hd hi np) fun s2 h2 s0 H0 C' cl fp => ?_
    refine PI.mono (h2 s0 H0 C' cl fp) fun σ H R0 ⟨τ, e0, k, hx⟩ => ⟨τ, e0, fun J l1 C1 s3 H' τ' ⟨w3, hl, hC1, h3⟩ e1 sb js => k J l1 C1 s3 H' τ' ⟨s1.ω, fun j acc ω ι => acc = (List.range i).flatMap res ++ (res i).take j ∧ ω = s1.ω ∧ ι = s1.ι, congrArg Prod.fst w3, ⟨by simp, rfl, congrArg Prod.snd w3⟩, fun j acc ω ι δ ⟨f1, f2, f3⟩ => by rw [f2, f3]; exact hC1 acc δ,
      fun j d1 acc ω ι hd1 ⟨f1, f2, f3⟩ => ?_, fun acc ω ι ⟨f1, f2, f3⟩ => ⟨?_, f2, f3⟩⟩ e1 sb js, hx⟩
    · subst f1 f2 f3
      have hj := (List.getElem?_eq_some_iff.mp hd1).1
      refine hm1 (h3 j d1 hd1 hj) fun s4 h4 s0 H0 C' cl fp => ?_
      refine PE.mono (h4 s0 H0 C' cl fp) fun σ H Q ⟨τ, e0, k, hx⟩ => ⟨τ, e0, fun v y s5 H' ⟨h5, w5⟩ e5 => k v y s5 H' ⟨?_, s1.ω, congrArg Prod.fst w5, ?_, rfl, congrArg Prod.snd w5⟩ e5, hx⟩
      · have h6 : ((List.range (i + 1)).flatMap res).length ≤ ((List.range l.length).flatMap res).length := by
          have : List.range l.length = List.range (i + 1) ++ (List.range (l.length - (i + 1))).map (i + 1 + ·) := by
            rw [← List.range_add]
            congr 1
            omega
          rw [this, List.flatMap_append, List.length_append]
          exact Nat.le_add_right _ _
        rw [List.range_succ, List.flatMap_append, List.length_append] at h6
        simp only [List.flatMap_cons, List.flatMap_nil, List.append_nil] at h6
        rw [List.length_append, List.length_take]
        omega
      · rw [List.append_assoc, List.take_add_one, h5]
        rfl
    · rw [f1, List.range_succ, List.flatMap_append, hl, List.take_length]
      simp
  · subst e1 e2 e3
    exact fin p np
end
end DL
namespace DL
open PySem PySem.Spec PyProof.Rows L2
theorem mul_m {i j : Int} (h1 : -(2 ^ 250) < i) (h2 : i < 2 ^ 250) (h3 : -(2 ^ 250) < j) (h4 : j < 2 ^ 250) : IntMulOk i j :=
  (wide_mul (a := 250) (b := 250) (by omega) (by omega) (by decide) (by decide) (by decide)).ok
end DL
namespace DL
open PySem PySem.Spec PyProof.Rows L2
theorem ew_gintE {X : Cx} {c : Cc} {W : WX} {s : S} {Φ : D → S → Prop} {Ξ : PX} {pos : Pos} {x : Str} {i : Int} (hm : ∃ t, X.mg x = some (.int i t)) (k : Φ (.int i) s) (hg : Gl X x := by rfl) (hdb : (x == ("__debug__" : Str)) = false := by decide) : EW X c W s Φ Ξ (.Name x pos) :=
  let ⟨_, h⟩ := hm; ew_gint h k hg hdb
end DL
namespace DL
open PySem PySem.Spec PyProof.Rows L2
theorem mul_y {i j : Int} (h1 : -(10 ^ 200) < i) (h2 : i < 10 ^ 200) (h3 : -(10 ^ 200) < j) (h4 : j < 10 ^ 200) : IntMulOk i j := by
  have e : (10 : Int) ^ 200 < 2 ^ 665 := by decide
  exact (wide_mul (a := 665) (b := 665) (by omega) (by omega) (by decide) (by decide) (by decide)).ok
end DL
namespace DL
theorem lw_nn {X : L2.Cx} {c : Cc} {W : L2.WX} {s : S} {N : Nd} {sts : List PySem.Stmt} (h : s.ι = isNil) (k : LW X c W (@S.mk s.δ s.ω isNil) N sts) : LW X c W s N sts := by
  obtain @⟨δ, ω, ι⟩ := s
  have h2 : ι = isNil := h
  subst h2
  exact k
end DL
namespace DL
open PySem PySem.Spec PyProof.Rows L2
end DL

namespace DL
open PySem PySem.Spec PyProof.Rows L2
def endsAs (i : Option Nat) (D : Ends) : Ends := match i with
  | none => D
  | some j => { nx := fun σ h => D.nx (σ.set j none) h, rt := D.rt, bk := fun σ h => D.bk (σ.set j none) h, ct := fun σ h => D.ct (σ.set j none) h }
def slotAs (i : Option Nat) (p : Addr) (σ : L2.St) : L2.St := match i with
  | none => σ
  | some j => σ.set j (some (.ref p))
abbrev Clause := Value × Option Nat × (Addr → Value → Option Addr → TS)
def asks (K : PySem.W.Frag) (W : WX) (D : Ends) : List Clause → WX
  | [] => W
  | q :: more => fun cls d σ H => ∃ yes, PySem.W.exmOne K cls q.1 = some yes ∧ (yes = true → ∀ p, H p = none → q.2.2 p cls d (endsAs q.2.1 D) (slotAs q.2.1 p σ) H) ∧ (yes = false → asks K W D more cls d σ H)
def SuiteOk (X : Cx) (sts : List Stmt) (ts : Addr → Value → Option Addr → TS) : Prop := ∀ (p : Addr) (ob : Obj) (cls : Value) (d : Option Addr) (ps : List (Addr × Obj)), Zc cls d ob → (∃ fl, ob.data = .fields fl) → PSs (X.suite p ((p, ob) :: ps)) sts (ts p cls d)
inductive Clauses (X : Cx) : List ExceptHandler → List Clause → Prop
  | nil : Clauses X [] []
  | bare {x : Str} {C : Value} {ts : Addr → Value → Option Addr → TS} {st : Stmt} {sts : List Stmt} {p1 p2 : Pos} {hs : List ExceptHandler} {l : List Clause} (hn : Names X x C) (ok : SuiteOk X (st :: sts) ts) (h : Clauses X hs l) : Clauses X (.ExceptHandler (some (.Name x p1)) none (st :: sts) p2 :: hs) ((C, none, ts) :: l)
  | named {x n : Str} {i : Nat} {C : Value} {ts : Addr → Value → Option Addr → TS} {st : Stmt} {sts : List Stmt} {p1 p2 : Pos} {hs : List ExceptHandler} {l : List Clause} (hn : Names X x C) (hi : X.N[i]? = some n) (hl : X.env.kindOf n = some .local) (ok : SuiteOk X (st :: sts) ts) (h : Clauses X hs l) :
      Clauses X (.ExceptHandler (some (.Name x p1)) (some n) (st :: sts) p2 :: hs) ((C, some i, ts) :: l)
theorem ps_clauses {X : Cx} {body : List Stmt} {h0 : ExceptHandler} {hs : List ExceptHandler} {l : List Clause} {pos : Pos} {tb : WX → TS} {W : WX} (hst : X.stack = X.env :: X.outer) (hfr : X.env.frame = some X.env.locals) (hN : X.N.Nodup) (tk : Takes X W)
    (hb : ∀ (W' : WX) (ps : List (Addr × Obj)) (xe : Value → Shared → Prop), Takes (X.tr ps xe) W' → PassesOwn (model X.prog X.w) X.A X.env xe → PSs (X.tr ps xe) body (tb W')) (cl : Clauses X (h0 :: hs) l) :
    PS X (.Try body (h0 :: hs) [] [] pos) (fun D σ H => tb (asks X.K W D l) D σ H) := by
  constructor
  intro pins sh σ0 H0 D inv0 ht
  have fr : X.A.frames = some (X.env :: X.outer) := inv0.ok.frames.trans (congrArg some hst)
  apply wpAny_Try_except
  refine wpAny_mono ((hb (asks X.K W D l) (X.pn ++ pins) (fun er s1 => wpAny (model X.prog X.w) X.A (noteFrame er X.env) (fun _ s2 => wpAny (model X.prog X.w) X.A (setFlight er none) (fun _ s3 => wpAny (model X.prog X.w) X.A (handleBy er X.env (h0 :: hs)) (SP X pins D) X.xe s3) X.xe s2) X.xe s1) ?caught PassesOwn.looking).run [] sh σ0 H0 D (inv0.toTry _) ht) ?ended fun _ _ z => z
  case ended =>
    intro fl s1 post
    cases fl <;> first
      | exact wpAny_execs_nil (let ⟨σ, H, iv, q⟩ := post; ⟨σ, H, iv.ofTry inv0.ok, q⟩)
      | exact (let ⟨σ, H, iv, q⟩ := post; ⟨σ, H, iv.ofTry inv0.ok, q⟩)
      | exact (let ⟨v, σ, H, iv, r, q⟩ := post; ⟨v, σ, H, iv.ofTry inv0.ok, r, q⟩)
  case caught =>
    rintro er s1 ⟨p, B, sI, pi1, σ, H, cls, d, rfl, iv1, nb, up1, sk, na, os, ag, wish⟩
    have iv := iv1.ofTry inv0.ok
    have sk2 : Sky B (X.env :: X.outer) p (Zc cls d) X.env.locals s1.heap := hst ▸ sk
    show wpAny (model X.prog X.w) X.A (noteFrame (Value.ref p) X.env) _ _ _
    apply Sky.land Zc.steady fr hfr sk2
    intro g gl gup
    have ivg : Inv X pins σ H { s1 with heap := g } := iv.landed nb gl.1 (up1.trans gup) os ag
    obtain ⟨ob, fl, ge, gz, gd⟩ := gl.there
    have out : p ∉ frs (X.env :: X.outer) := fun hm => by
      obtain ⟨_, ob2, e2, nf⟩ := gl.2.2.1.mem hm
      cases e2.symm.trans ge
      exact nf _ gd
    have ne1 : p ≠ X.env.locals := fun e => out (List.mem_filterMap.mpr ⟨X.env, List.mem_cons_self, hfr.trans (congrArg some e.symm)⟩)
    have ne2 : p ∉ X.fs := fun hm => let ⟨en, h1, h2⟩ := List.mem_filterMap.mp hm; out (List.mem_filterMap.mpr ⟨en, List.mem_cons_of_mem _ h1, h2⟩)
    have ivs := ivg.suite ge gd na ne1 ne2
    have look : PySem.W.Looks (model X.prog X.w) g (typeOf (.ref p)) cls := fun _ _ _ _ kp q => wpAny_typeOf_ref (kp _ _ ge) (gz.1.symm ▸ q)
    -- the class that a clause names
    have named : ∀ {x : Str} {C : Value} {p1 : Pos} {Q E : Value → Shared → Prop}, Names X x C → Q C { s1 with heap := g } → wpAny (model X.prog X.w) (X.A.mark (some (.ref p))) (eval (.Name x p1) X.env) Q E { s1 with heap := g } := fun {x C p1 Q E} hn q => by
      obtain ⟨h1, h2, h3⟩ := hn
      rcases h3 with h3 | ⟨h3, h4, h5⟩
      · exact ld_glob (X := X.suite p ((p, ob) :: (X.pn ++ pins))) ivs h1 h3 q h2
      · exact ld_blt (X := X.suite p ((p, ob) :: (X.pn ++ pins))) ivs h1 h3 h4 q h5 h2
    -- a suite's run, the error again in flight nowhere
    have again : ∀ {Q : Unit → Shared → Prop} {E : Value → Shared → Prop}, (∀ g2 ob2 fl2, g2.get? p = some ob2 → Zc cls d ob2 → ob2.data = .fields fl2 → Inv (X.suite p ((p, ob2) :: (X.pn ++ pins))) [] σ H { s1 with heap := g2 } → Q () { s1 with heap := g2 }) → wpAny (model X.prog X.w) (X.A.mark (some (.ref p))) (setFlight (.ref p) none) Q E { s1 with heap := g } := fun {Q E} k => by
      apply HandSPX.lands_againZ gl
      intro g2 gl2 gup2
      obtain ⟨ob2, fl2, e2, z2, d2⟩ := gl2.there
      have iv2 : Inv X pins σ H { s1 with heap := g2 } := iv.landed nb gl2.1 ((up1.trans gup).trans gup2) os ag
      exact k g2 ob2 _ e2 z2 d2 (iv2.suite e2 d2 na ne1 ne2)
    have go : ∀ {hl : List ExceptHandler} {l' : List Clause}, Clauses X hl l' → asks X.K W D l' cls d σ H → wpAny (model X.prog X.w) X.A (handleBy (.ref p) X.env hl) (SP X pins D) X.xe { s1 with heap := g } := by
      intro hl l' cl wish
      induction cl with
      | nil =>
        apply wpAny_handleBy_nil
        obtain ⟨_, _, _, ob3, fl3, T, oT, ts3, e3, z3, d3, f3, r3⟩ := id gl
        unfold PySem.passOn
        apply wpAny_bind
        apply wpAny_field e3 d3 f3
        rw [if_neg (by simp : ¬ ((Value.ref T == Value.none) = true))]
        have thrown : wpAny (model X.prog X.w) X.A (setFlight (.ref p) X.env.frame) (fun _ s4 => wpAny (model X.prog X.w) X.A (throw (.ref p) : Sem Flow) (SP X pins D) X.xe s4) X.xe { s1 with heap := g } := by
          rw [hfr]
          apply HandSPX.setFlight_upZ gl
          intro g4 hh4 up4
          exact wpAny_throw (tk _ _ ⟨p, B, sI, pins, σ, H, cls, d, rfl, iv, nb, (up1.trans gup).trans up4, .inr (.inr (hst.symm ▸ hh4)), na, os, ag, wish⟩)
        first
          | exact wpAny_bind (wpAny_pure (wpAny_bind thrown))
          | exact wpAny_bind thrown
      | bare hn ok _ ih =>
        obtain ⟨yes, e1, w1, w2⟩ := wish
        apply wpAny_handleBy_cons (codeAny_handlers_test _) (by intro q; cases q)
        apply named hn
        apply (PySem.W.exm_one (M := model X.prog X.w) ivg.kIn look e1).here
        cases yes with
        | false => exact ih (w2 rfl)
        | true =>
          apply codeAny_handlers_suite
          apply again
          intro g2 ob2 fl2 e2 z2 d2 iv2
          refine wpAny_mono ((ok p ob2 cls d (X.pn ++ pins) z2 ⟨_, d2⟩).run [] _ _ H _ iv2 (w1 rfl p na)) (fun fl s6 post => ?_) fun _ _ z => z.elim
          cases fl <;> first
            | exact (let ⟨σ, H, iv, q⟩ := post; ⟨σ, H, iv.unsuite inv0.ok, q⟩)
            | exact (let ⟨v, σ, H, iv, r, q⟩ := post; ⟨v, σ, H, iv.unsuite inv0.ok, r, q⟩)
      | @named x n i C ts st sts p1 p2 hs' l' hn hi hl ok _ ih =>
        obtain ⟨yes, e1, w1, w2⟩ := wish
        apply wpAny_handleBy_cons (codeAny_handlers_test _) (by intro q; cases q)
        apply named hn
        apply (PySem.W.exm_one (M := model X.prog X.w) ivg.kIn look e1).here
        cases yes with
        | false => exact ih (w2 rfl)
        | true =>
          apply codeAny_handlers_suite_as
          apply again
          intro g2 ob2 fl2 e2 z2 d2 iv2
          refine store_ok (X := X.suite p ((p, ob2) :: (X.pn ++ pins))) (v := .ref p) iv2 hN hi (.inl hl) rfl (fun s5 iv5 => ?_) (.inr hl)
          refine wpAny_mono ((ok p ob2 cls d (X.pn ++ pins) z2 ⟨_, d2⟩).run [] s5 _ H _ iv5 (w1 rfl p na)) (fun fl s6 post => ?_) fun _ _ z => z.elim
          have gone : ∀ {σ6 : L2.St} {H6 : Hp} {Q : Shared → Prop}, Inv (X.suite p ((p, ob2) :: (X.pn ++ pins))) [] σ6 H6 s6 → (∀ s7, Inv X pins (σ6.set i none) H6 s7 → Q s7) → wpAny (model X.prog X.w) X.A (do bindName X.env n .none; unbindBehindTheSuite X.env n p2) (fun _ s7 => Q s7) X.xe s6 := fun iv6 k => gone_ok (iv6.unsuite inv0.ok) hN hi hl k
          cases fl <;> first
            | exact (let ⟨σ, H, iv, q⟩ := post; gone iv fun s7 iv7 => ⟨_, _, iv7, q⟩)
            | exact (let ⟨v, σ, H, iv, r, q⟩ := post; gone iv fun s7 iv7 => ⟨_, _, _, iv7, r, q⟩)
    exact go cl wish
end DL

namespace DL
open PySem PySem.Spec PyProof.Rows L2
def asS (i : Option Nat) (p : Addr) (s : S) : S := match i with
  | none => s
  | some j => @S.mk (s.δ.set j (some (.ref p))) s.ω s.ι
def unS (i : Option Nat) (s : S) : S := match i with
  | none => s
  | some j => @S.mk (s.δ.set j none) s.ω s.ι
def ndS (i : Option Nat) (N : Nd) : Nd := { nx := fun s => N.nx (unS i s), rt := N.rt, bk := fun s => N.bk (unS i s), ct := fun s => N.ct (unS i s), ex := fun _ _ _ => False }
def hW (X : Cx) (c : Cc) (N : Nd) : List ExceptHandler → List (Value × Option Nat) → PX
  | .ExceptHandler _ _ sts _ :: hs, (C, i) :: l => fun cls z s => ∃ b, PySem.W.exmOne X.K cls C = some b ∧ (b = true → ∀ (p : Addr) (ob : Obj) (ps : List (Addr × Obj)), (z = none → Zc cls none ob) → (∃ fl, ob.data = .fields fl) → LW (X.suite p ((p, ob) :: ps)) c (fun _ _ _ _ => False) (asS i p s) (ndS i N) sts) ∧ (b = false → hW X c N hs l cls z s)
  | _, _ => N.ex
inductive ClS (X : Cx) : List ExceptHandler → List (Value × Option Nat) → Prop
  | nil : ClS X [] []
  | bare {x : Str} {C : Value} {st : Stmt} {sts : List Stmt} {p1 p2 : Pos} {hs : List ExceptHandler} {l : List (Value × Option Nat)} (hn : Names X x C) (h : ClS X hs l) : ClS X (.ExceptHandler (some (.Name x p1)) none (st :: sts) p2 :: hs) ((C, none) :: l)
  | named {x n : Str} {i : Nat} {C : Value} {st : Stmt} {sts : List Stmt} {p1 p2 : Pos} {hs : List ExceptHandler} {l : List (Value × Option Nat)} (hn : Names X x C) (hi : X.N[i]? = some n) (hl : X.env.kindOf n = some .local) (h : ClS X hs l) : ClS X (.ExceptHandler (some (.Name x p1)) (some n) (st :: sts) p2 :: hs) ((C, some i) :: l)
section
variable {K : PySem.W.Frag} {c : Cc} {σ : List (Option V)} {H : Hp} {s : S} {τ : List (V × D)} {p : Addr} {i : Option Nat}
theorem SE.setAny {j : Nat} {o : Option V} {d : Option D} (e : SE K c σ H s τ) (h : ∀ f, d = some f → ∃ v, o = some v ∧ ∀ A, Rp K A H f v) : SE K c (σ.set j o) H (@S.mk (s.δ.set j d) s.ω s.ι) τ := by
  obtain ⟨A, z, rl⟩ := e
  refine ⟨A, ⟨fun n f hf => ?_, by rw [List.length_set]; show _ = (s.δ.set j d).length; rw [List.length_set]; exact z.len, z.own, z.nd, z.tmp, z.dom, z.ins, z.ndi⟩, rl⟩
  have hf : (s.δ.set j d)[n]? = some (some f) := hf
  by_cases hn : j = n
  · subst hn
    have hlt : j < s.δ.length := by
      rcases Nat.lt_or_ge j s.δ.length with h | h
      · exact h
      · rw [List.getElem?_eq_none (by rw [List.length_set]; exact h)] at hf
        cases hf
    rw [List.getElem?_set_self hlt] at hf
    obtain ⟨v, h1, h2⟩ := h f (Option.some.inj hf)
    exact ⟨v, by rw [List.getElem?_set_self (by rw [z.len]; exact hlt), h1], h2 A⟩
  · rw [List.getElem?_set_ne hn] at hf
    obtain ⟨v, h1, h2⟩ := z.slots n f hf
    exact ⟨v, by rw [List.getElem?_set_ne hn]; exact h1, h2⟩
theorem SE.asS (e : SE K c σ H s τ) : SE K c (slotAs i p σ) H (DL.asS i p s) τ := by
  cases i with
  | none => exact e
  | some j => exact e.setAny fun f hf => ⟨.ref p, rfl, fun A => by cases hf; unfold Rp; rfl⟩
theorem SE.unS {j : Nat} (e : SE K c σ H s τ) : SE K c (σ.set j none) H (DL.unS (some j) s) τ := e.setAny fun f hf => by cases hf
end
section
variable {X : Cx} {c : Cc} {W : WX} {s : S} {nx : S → Prop} {rt : D → S → Prop} {bk ct : S → Prop} {ex : PX} {Φ : D → S → Prop} {Ξ : PX} {e : Expr} {pos : Pos} {body : List Stmt}
theorem ew_isE {i : Nat} {n y : Str} {p q q2 : Pos} {a D : Addr} {oe : Obj} {ps : List (Addr × Obj)} {C : Value} {v : V} {b : Bool} {N : List Str} (hN : X.N = N) (hE : ExcC X.K D) (hz : Zc (.ref D) none oe) (hf : ∃ fl, oe.data = .fields fl) (hm : X.mg "isinstance" = none) (ix : Ix N n i) (ha : At s.δ i (some (.ref a)))
    (hy : PE (X.suite a ((a, oe) :: ps)) (.Name y q2) (fun _ H Q => Q v H)) (hv : ∀ u, RelV v u → u = C) (kt : PySem.W.kitOne X.K (.ref D) C = some b) (k : Φ (.bl b) s) (hvis : Vis X.env.scope n := by first | exact Or.inl rfl | exact Or.inr (Or.inl rfl) | exact Or.inr (Or.inr rfl))
    (hdb : (n == ("__debug__" : Str)) = false := by decide) (hcd : (n == ("__classdict__" : Str)) = false := by decide) (hg : Gl X "isinstance" := by rfl)
    (he : starEach [.Name n q, .Name y q2] X.env = (false, eval (.Name n q) X.env) :: starEach [.Name y q2] X.env := by rfl) (he2 : starEach [.Name y q2] X.env = (false, eval (.Name y q2) X.env) :: starEach [] X.env := by rfl) (hpl : (backTo pos (starEach [.Name y q2] X.env)).any (·.1) = false := by rfl) :
    EW (X.suite a ((a, oe) :: ps)) c W s Φ Ξ (.Call (.Name "isinstance" p) [.Name n q, .Name y q2] [] pos) :=
  PE.mono (pe_callB (X := X.suite a ((a, oe) :: ps)) (call_isE (X := X) hE hz hf) hg hm boot_isinstance (pa_cons (pe_var (X := X.suite a ((a, oe) :: ps)) (i := i) (by show X.N[i]? = some n; rw [hN]; exact ix.get) hvis hdb hcd) (pa_cons hy pa_nil he2) he) (by decide) (by decide) he hpl) fun σ H Q ⟨τ, e0, kk, hx⟩ => by
    obtain ⟨A, z, rl⟩ := id e0
    obtain ⟨w, h1, h2⟩ := z.slots i _ ha.get
    unfold Rp at h2
    subst h2
    exact ⟨.ref a, h1, v, C, b, rfl, hv, kt, kk _ _ s H k (e0.atom rfl)⟩
end
end DL

namespace DL
open PySem PySem.Spec PyProof.Rows L2
theorem inV_ints {i : Int} : ∀ l : List Int, inV (.int i) (l.map V.int) = decide (i ∈ l)
  | [] => by simp [inV]
  | j :: l => by
    have ih := inV_ints (i := i) l
    unfold inV at ih ⊢
    rw [List.map_cons, List.any_cons, ih]
    show ((j == i) || decide (i ∈ l)) = decide (i ∈ j :: l)
    by_cases h : j = i
    · subst h
      simp
    · have : (j == i) = false := by simp [h]
      rw [this, Bool.false_or]
      have h2 : ¬ i = j := fun e => h e.symm
      simp [h2]
theorem all_flat : ∀ l : List Int, (l.map V.int).all flatV = true
  | [] => rfl
  | _ :: l => all_flat l
section
variable {X : Cx} {c : Cc} {W : WX} {s : S} {Φ : D → S → Prop} {Φb : Bool → S → Prop} {Ξ : PX} {a b : Expr} {pos : Pos}
inductive InI (c : Cc) (neg : Bool) : D → D → S → (D → S → Prop) → Prop
  | mk {i : Int} {d : D} {l : List Int} {l' : List D} {s : S} {Φ : D → S → Prop} (h : Sq c s d l') (e : l' = l.map D.int) (k : Φ (.bl (if neg then !decide (i ∈ l) else decide (i ∈ l))) s) : InI c neg (.int i) d s Φ
theorem od_in {K : PySem.W.Frag} {neg : Bool} : OpD K c (rIn K neg) (InI c neg) := fun σ H s τ v1 v2 d1 d2 Φ Q e r k => by
  cases r with
  | @mk i d l l' _ _ h el q =>
    subst el
    obtain ⟨A, z, rl⟩ := id e
    obtain ⟨p, xs, rfl, h1, h2⟩ := h.rd z rl (z.tmp v2 _ List.mem_cons_self)
    have e1 := (z.tmp v1 _ (List.mem_cons_of_mem _ List.mem_cons_self)).int_
    subst e1
    have ex := h2.ints
    subst ex
    refine ⟨p, _, rfl, h1, rfl, all_flat l, ?_⟩
    rw [inV_ints]
    exact k _ _ s H q (e.drop2.atom rfl)
theorem ew_in (h : EW X c W s (fun d1 s1 => EW X c W s1 (fun d2 s2 => InI c false d1 d2 s2 Φ) Ξ b) Ξ a) (hm : behindInMarks .In b = false := by first | exact nomark _ | rfl) : EW X c W s Φ Ξ (.Compare a [.In] [b] pos) := ew_cmp op_in_seq od_in hm h
theorem ew_notin (h : EW X c W s (fun d1 s1 => EW X c W s1 (fun d2 s2 => InI c true d1 d2 s2 Φ) Ξ b) Ξ a) (hm : behindInMarks .NotIn b = false := by first | exact nomark _ | rfl) : EW X c W s Φ Ξ (.Compare a [.NotIn] [b] pos) := ew_cmp op_notIn_seq od_in hm h
theorem bw_in (h : EW X c W s (fun d1 s1 => EW X c W s1 (fun d2 s2 => InI c false d1 d2 s2 fun d s3 => ∃ b, d = .bl b ∧ Φb b s3) Ξ b) Ξ a) (hm : behindInMarks .In b = false := by first | exact nomark _ | rfl) : BW X c W s Φb Ξ (.Compare a [.In] [b] pos) := bw_cmp op_in_seq od_in hm h
theorem bw_notin (h : EW X c W s (fun d1 s1 => EW X c W s1 (fun d2 s2 => InI c true d1 d2 s2 fun d s3 => ∃ b, d = .bl b ∧ Φb b s3) Ξ b) Ξ a) (hm : behindInMarks .NotIn b = false := by first | exact nomark _ | rfl) : BW X c W s Φb Ξ (.Compare a [.NotIn] [b] pos) := bw_cmp op_notIn_seq od_in hm h
end
section
variable {X : Cx} {c : Cc} {N : Nd} {t : Option Expr} {n : Option Str} {sts : List Stmt} {p2 : Pos} {hs : List ExceptHandler} {C cls : Value} {z : XD} {s : S} {l : List (Value × Option Nat)}
end
section
variable {X : Cx} {c : Cc} {W : WX} {s : S} {Φ : D → S → Prop} {Ξ : PX} {pos : Pos} {i : Nat} {n y : Str} {p q q2 : Pos} {a D : Addr} {oe : Obj} {ps : List (Addr × Obj)} {b : Bool} {N : List Str}
theorem ew_isEC {C : Addr} (hN : X.N = N) (hE : ExcC X.K D) (hz : Zc (.ref D) none oe) (hf : ∃ fl, oe.data = .fields fl) (hm : X.mg "isinstance" = none) (hy : X.mg y = some (.ref C)) (ix : Ix N n i) (ha : At s.δ i (some (.ref a))) (kt : PySem.W.kitOne X.K (.ref D) (.ref C) = some b) (k : Φ (.bl b) s)
    (hvis : Vis X.env.scope n := by first | exact Or.inl rfl | exact Or.inr (Or.inl rfl) | exact Or.inr (Or.inr rfl)) (hdb : (n == ("__debug__" : Str)) = false := by decide) (hcd : (n == ("__classdict__" : Str)) = false := by decide) (hg : Gl X "isinstance" := by rfl) (hgy : Gl X y := by rfl) (hdy : (y == ("__debug__" : Str)) = false := by decide)
    (he : starEach [.Name n q, .Name y q2] X.env = (false, eval (.Name n q) X.env) :: starEach [.Name y q2] X.env := by rfl) (he2 : starEach [.Name y q2] X.env = (false, eval (.Name y q2) X.env) :: starEach [] X.env := by rfl) (hpl : (backTo pos (starEach [.Name y q2] X.env)).any (·.1) = false := by rfl) :
    EW (X.suite a ((a, oe) :: ps)) c W s Φ Ξ (.Call (.Name "isinstance" p) [.Name n q, .Name y q2] [] pos) :=
  ew_isE (v := V.ref C) hN hE hz hf hm ix ha (pe_glob (X := X.suite a ((a, oe) :: ps)) hgy hy rfl hdy) (fun u h => h) kt k hvis hdb hcd hg he he2 hpl
theorem ew_isET {T : String} (hN : X.N = N) (hE : ExcC X.K D) (hz : Zc (.ref D) none oe) (hf : ∃ fl, oe.data = .fields fl) (hm : X.mg "isinstance" = none) (hy : X.mg y = none) (hb : bootBuiltins y = some (.type T)) (ix : Ix N n i) (ha : At s.δ i (some (.ref a))) (kt : PySem.W.kitOne X.K (.ref D) (.type T) = some b) (k : Φ (.bl b) s)
    (hvis : Vis X.env.scope n := by first | exact Or.inl rfl | exact Or.inr (Or.inl rfl) | exact Or.inr (Or.inr rfl)) (hdb : (n == ("__debug__" : Str)) = false := by decide) (hcd : (n == ("__classdict__" : Str)) = false := by decide) (hg : Gl X "isinstance" := by rfl) (hgy : Gl X y := by rfl) (hny : y ≠ "__name__" := by decide) (hdy : (y == ("__debug__" : Str)) = false := by decide)
    (he : starEach [.Name n q, .Name y q2] X.env = (false, eval (.Name n q) X.env) :: starEach [.Name y q2] X.env := by rfl) (he2 : starEach [.Name y q2] X.env = (false, eval (.Name y q2) X.env) :: starEach [] X.env := by rfl) (hpl : (backTo pos (starEach [.Name y q2] X.env)).any (·.1) = false := by rfl) :
    EW (X.suite a ((a, oe) :: ps)) c W s Φ Ξ (.Call (.Name "isinstance" p) [.Name n q, .Name y q2] [] pos) :=
  ew_isE (v := V.ty T) hN hE hz hf hm ix ha (pe_bltn (X := X.suite a ((a, oe) :: ps)) hgy hy hb rfl hny hdy) (fun u h => h) kt k hvis hdb hcd hg he he2 hpl
end
end DL

namespace DL
open PySem PySem.Spec PyProof.Rows L2
def opIB (K : PySem.W.Frag) (C : Addr) (nm : String) : Bool :=
  ((match PySem.W.findIn K (.ref C) (dunderR nm) with | some none => true | some (some (.ref _)) => true | _ => false) && PySem.W.selfFirst K C) &&
  ((PySem.W.findIn K (.type "int") (dunder nm)).isSome && ((PySem.W.findIn K (.type "int") (dunderR nm)).isSome && (decide (PySem.W.subIn K (.type "int") (.ref C) = some false) && decide (PySem.W.subIn K (.ref C) (.type "int") = some false))))
structure OpI (K : PySem.W.Frag) (C : Addr) (nm : String) : Prop where
  rc : ∃ rc, PySem.W.findIn K (.ref C) (dunderR nm) = some rc ∧ (rc = none ∨ ∃ g : Addr, rc = some (.ref g))
  first : PySem.W.selfFirst K C = true
  h1 : ∃ fo, PySem.W.findIn K (.type "int") (dunder nm) = some fo
  h2 : ∃ ro, PySem.W.findIn K (.type "int") (dunderR nm) = some ro
  s1 : PySem.W.subIn K (.type "int") (.ref C) = some false
  s2 : PySem.W.subIn K (.ref C) (.type "int") = some false
theorem opIB_ok {K : PySem.W.Frag} {C : Addr} {nm : String} (h : opIB K C nm = true) : OpI K C nm := by
  unfold opIB at h
  obtain ⟨h12, h3⟩ := Bool.and_eq_true_iff.mp h
  obtain ⟨h1, h2⟩ := Bool.and_eq_true_iff.mp h12
  obtain ⟨h4, h5⟩ := Bool.and_eq_true_iff.mp h3
  obtain ⟨h6, h7⟩ := Bool.and_eq_true_iff.mp h5
  obtain ⟨h8, h9⟩ := Bool.and_eq_true_iff.mp h7
  refine ⟨?_, h2, Option.isSome_iff_exists.mp h4, Option.isSome_iff_exists.mp h6, of_decide_eq_true h8, of_decide_eq_true h9⟩
  split at h1
  · rename_i e
    exact ⟨_, e, .inl rfl⟩
  · rename_i g e
    exact ⟨_, e, .inr ⟨g, rfl⟩⟩
  · cases h1
section
variable {prog : Program} {w : World} {A : Around} {E : Value → Shared → Prop} {s : Shared} {K : PySem.W.Frag} {x C f : Addr} {ox : Obj} {od : Option Obj} {i : Int} {t : Tok}
def PlainAt (x : Addr) (s : Shared) : Prop := ∃ o, s.heap.get? x = some o ∧ o.data = .plain
end
def RvOk (op : Operator) : Prop := ∃ idl, fillsNumberSlot (.type "int") op.info.2 = pure true ∧ Slot "int" (PySem.dunder op.info.2) idl ∧ ∀ (prog : Program) (w : World) (A : Around) (E : Value → Shared → Prop) (s : Shared) (x : Addr) (i : Int) (t : Tok) (Q : Value → Shared → Prop), PlainAt x s → Q .notImplemented s → wpAny (model prog w) A (call (.builtin idl) [.int i t, .ref x]) Q E s
inductive OwnT (X : Cx) (W : WX) (op : Operator) : V → V → L2.St → Hp → VK → Prop
  | same {a b dx dx2 C f : Addr} {fs fs2 : List (Str × V)} {k : Nat} {sp : Sp} {σ : L2.St} {H : Hp} {Q : VK} (h1 : H a = some (.ins C dx fs)) (h2 : H b = some (.ins C dx2 fs2)) (hm : Meth X.K C (PySem.dunder op.info.2) f) (hc : PySem.W.selfFirst X.K C = true)
      (F : FnA X.prog X.w X.K X.mg X.base k f sp) (hr : Room k X.A) (tk : Takes X W) (h : sp [.ref a, .ref b] H Q (WE W σ)) : OwnT X W op (.ref a) (.ref b) σ H Q
  | left {a dx C f : Addr} {fs : List (Str × V)} {i : Int} {k : Nat} {sp : Sp} {σ : L2.St} {H : Hp} {Q : VK} (h1 : H a = some (.ins C dx fs)) (hm : Meth X.K C (PySem.dunder op.info.2) f) (hc : OpI X.K C op.info.2)
      (F : FnA X.prog X.w X.K X.mg X.base k f sp) (hr : Room k X.A) (tk : Takes X W) (h : sp [.ref a, .int i] H Q (WE W σ)) : OwnT X W op (.ref a) (.int i) σ H Q
  | right {a dx C f g : Addr} {fs : List (Str × V)} {i : Int} {k : Nat} {sp : Sp} {σ : L2.St} {H : Hp} {Q : VK} (h1 : H a = some (.ins C dx fs)) (hg : Meth X.K C (PySem.dunder op.info.2) g) (hm : Meth X.K C (dunderR op.info.2) f) (hc : OpI X.K C op.info.2) (ho : RvOk op)
      (F : FnA X.prog X.w X.K X.mg X.base k f sp) (hr : Room k X.A) (tk : Takes X W) (h : sp [.ref a, .int i] H Q (WE W σ)) : OwnT X W op (.int i) (.ref a) σ H Q
section
variable {X : Cx} {c : Cc} {W : WX} {op : Operator} {σ : L2.St} {a b : Expr} {pos : Pos} {ta tb : TE} {pins : List (Addr × Obj)} {H : Hp} {s : Shared} {Q : VK}
end
inductive OwnB (X : Cx) (c : Cc) (W : WX) (op : Operator) : D → D → S → (D → S → Prop) → PX → Prop
  | same {C f : Addr} {fs fs2 : List (Str × D)} {k : Nat} {sp : Sp} {d1 d2 : D} {s : S} {Φ : D → S → Prop} {Ξ : PX} (h1 : ObjD s d1 C fs) (h2 : ObjD s d2 C fs2) (hm : Meth X.K C (PySem.dunder op.info.2) f) (hc : PySem.W.selfFirst X.K C = true)
      (F : FnA X.prog X.w X.K X.mg X.base k f sp) (hr : Room k X.A) (tk : Takes X W) (h : MetD X.K c W sp [d1, d2] s Φ Ξ) : OwnB X c W op d1 d2 s Φ Ξ
  | left {C f : Addr} {fs : List (Str × D)} {k : Nat} {sp : Sp} {d1 : D} {i : Int} {s : S} {Φ : D → S → Prop} {Ξ : PX} (h1 : ObjD s d1 C fs) (hm : Meth X.K C (PySem.dunder op.info.2) f) (hc : OpI X.K C op.info.2)
      (F : FnA X.prog X.w X.K X.mg X.base k f sp) (hr : Room k X.A) (tk : Takes X W) (h : MetD X.K c W sp [d1, .int i] s Φ Ξ) : OwnB X c W op d1 (.int i) s Φ Ξ
  | right {C f g : Addr} {fs : List (Str × D)} {k : Nat} {sp : Sp} {d1 : D} {i : Int} {s : S} {Φ : D → S → Prop} {Ξ : PX} (h1 : ObjD s d1 C fs) (hg : Meth X.K C (PySem.dunder op.info.2) g) (hm : Meth X.K C (dunderR op.info.2) f) (hc : OpI X.K C op.info.2) (ho : RvOk op)
      (F : FnA X.prog X.w X.K X.mg X.base k f sp) (hr : Room k X.A) (tk : Takes X W) (h : MetD X.K c W sp [d1, .int i] s Φ Ξ) : OwnB X c W op (.int i) d1 s Φ Ξ
section
variable {X : Cx} {c : Cc} {W : WX} {s : S} {Φ : D → S → Prop} {Ξ : PX} {op : Operator} {a b : Expr} {pos : Pos}
theorem OwnB.toT {v1 v2 : V} {d1 d2 : D} {τ : List (V × D)} {σ : L2.St} {H : Hp} {Q : VK} (h : OwnB X c W op d1 d2 s Φ Ξ) (e : SE X.K c σ H s ((v2, d2) :: (v1, d1) :: τ)) (k : ∀ v d s' H', Φ d s' → SE X.K c σ H' s' ((v, d) :: τ) → Q v H')
    (hx : ∀ cls x dd s' H', Ξ cls x s' → SE X.K c σ H' s' τ → XR X.K H' x dd → W cls dd σ H') : OwnT X W op v1 v2 σ H Q := by
  obtain ⟨A, z, rl⟩ := id e
  have z1 := z.tmp v1 d1 (List.mem_cons_of_mem _ List.mem_cons_self)
  have z2 := z.tmp v2 d2 List.mem_cons_self
  have sb : ∀ x ∈ τ, x ∈ (v2, d2) :: (v1, d1) :: τ := fun x hx => List.mem_cons_of_mem _ (List.mem_cons_of_mem _ hx)
  cases h with
  | same h1 h2 hm hc F hr tk h =>
    obtain ⟨p, dx, vs, rfl, g1, _⟩ := h1.rd z z1
    obtain ⟨p2, dx2, vs2, rfl, g2, _⟩ := h2.rd z z2
    exact .same g1 g2 hm hc F hr tk (h σ H τ _ _ Q e sb (.cons (List.mem_cons_of_mem _ List.mem_cons_self) (.cons List.mem_cons_self .nil)) k hx)
  | left h1 hm hc F hr tk h =>
    obtain ⟨p, dx, vs, rfl, g1, _⟩ := h1.rd z z1
    cases z2.int_
    exact .left g1 hm hc F hr tk (h σ H τ _ _ Q e sb (.cons (List.mem_cons_of_mem _ List.mem_cons_self) (.cons List.mem_cons_self .nil)) k hx)
  | right h1 hg hm hc ho F hr tk h =>
    obtain ⟨p, dx, vs, rfl, g1, _⟩ := h1.rd z z2
    cases z1.int_
    exact .right g1 hg hm hc ho F hr tk (h σ H τ _ _ Q e sb (.cons List.mem_cons_self (.cons (List.mem_cons_of_mem _ List.mem_cons_self) .nil)) k hx)
end
inductive OwnU (X : Cx) (c : Cc) (W : WX) : D → S → (D → S → Prop) → PX → Prop
  | mk {C f : Addr} {fs : List (Str × D)} {k : Nat} {sp : Sp} {d : D} {s : S} {Φ : D → S → Prop} {Ξ : PX} (h1 : ObjD s d C fs) (hm : Meth X.K C "__neg__" f)
      (F : FnA X.prog X.w X.K X.mg X.base k f sp) (hr : Room k X.A) (tk : Takes X W) (h : MetD X.K c W sp [d] s Φ Ξ) : OwnU X c W d s Φ Ξ
inductive OthT (K : PySem.W.Frag) (c : Cc) (C : Addr) (s : S) : D → Prop
  | ins {d : D} {fs : List (Str × D)} (h : ObjD s d C fs) : OthT K c C s d
  | ty {d : D} {t : Value} (ht : TyD K c s d t) (hn : PySem.W.notFirst K C t = true) : OthT K c C s d
inductive OwnE (X : Cx) (c : Cc) (W : WX) : D → D → S → (D → S → Prop) → PX → Prop
  | mk {C f : Addr} {fs : List (Str × D)} {k : Nat} {sp : Sp} {d1 d2 : D} {s : S} {Φ : D → S → Prop} {Ξ : PX} (h1 : ObjD s d1 C fs) (h2 : OthT X.K c C s d2) (hm : Meth X.K C "__eq__" f)
      (F : FnA X.prog X.w X.K X.mg X.base k f sp) (hr : Room k X.A) (tk : Takes X W) (h : MetD X.K c W sp [d1, d2] s Φ Ξ) : OwnE X c W d1 d2 s Φ Ξ
inductive OwnQ (X : Cx) (W : WX) : V → V → L2.St → Hp → VK → Prop
  | mk {a dx C f : Addr} {fs : List (Str × V)} {y : V} {k : Nat} {sp : Sp} {σ : L2.St} {H : Hp} {Q : VK} (h1 : H a = some (.ins C dx fs)) (h2 : (∃ b dx2 fs2, y = .ref b ∧ H b = some (.ins C dx2 fs2)) ∨ ∃ t, TyX X.K H y t ∧ PySem.W.notFirst X.K C t = true) (hm : Meth X.K C "__eq__" f)
      (F : FnA X.prog X.w X.K X.mg X.base k f sp) (hr : Room k X.A) (tk : Takes X W) (h : sp [.ref a, y] H Q (WE W σ)) : OwnQ X W (.ref a) y σ H Q
section
variable {X : Cx} {c : Cc} {W : WX} {σ : L2.St} {a b : Expr} {pos : Pos} {ta tb : TE} {pins : List (Addr × Obj)} {H : Hp} {s : Shared} {Q : VK}
end
section
variable {X : Cx} {c : Cc} {W : WX} {s : S} {Φ : D → S → Prop} {Φb : Bool → S → Prop} {Ξ : PX} {a b : Expr} {pos : Pos}
theorem OwnE.toT {v1 v2 : V} {d1 d2 : D} {τ : List (V × D)} {σ : L2.St} {H : Hp} {Q : VK} (h : OwnE X c W d1 d2 s Φ Ξ) (e : SE X.K c σ H s ((v2, d2) :: (v1, d1) :: τ)) (k : ∀ v d s' H', Φ d s' → SE X.K c σ H' s' ((v, d) :: τ) → Q v H')
    (hx : ∀ cls x dd s' H', Ξ cls x s' → SE X.K c σ H' s' τ → XR X.K H' x dd → W cls dd σ H') : OwnQ X W v1 v2 σ H Q := by
  obtain ⟨A, z, rl⟩ := id e
  have z1 := z.tmp v1 d1 (List.mem_cons_of_mem _ List.mem_cons_self)
  have z2 := z.tmp v2 d2 List.mem_cons_self
  have sb : ∀ x ∈ τ, x ∈ (v2, d2) :: (v1, d1) :: τ := fun x hx => List.mem_cons_of_mem _ (List.mem_cons_of_mem _ hx)
  cases h with
  | mk h1 h2 hm F hr tk h =>
    obtain ⟨p, dx, vs, rfl, g1, _⟩ := h1.rd z z1
    have hh := h σ H τ _ [V.ref p, v2] Q e sb (.cons (List.mem_cons_of_mem _ List.mem_cons_self) (.cons List.mem_cons_self .nil)) k hx
    cases h2 with
    | ins h2 =>
      obtain ⟨p2, dx2, vs2, rfl, g2, _⟩ := h2.rd z z2
      exact .mk g1 (.inl ⟨_, _, _, rfl, g2⟩) hm F hr tk hh
    | ty ht hn => exact .mk g1 (.inr ⟨_, ht.x z rl z2, hn⟩) hm F hr tk hh
end
end DL

namespace DL
open PySem PySem.Spec PyProof.Rows L2
section
variable {X : Cx} {c : Cc} {W : WX} {s : S} {N : List Str} {scope sc : Scope} {x y x2 y2 : Str} {Φ : D → S → Prop} {Ξ : PX} {ifs : List Expr} {elt iter : Expr} {pos : Pos}
theorem gwPP {vs : List Nat} {i j i2 j2 k k1 k2 : Nat} {q r q2 r2 pt pt1 pt2 : Pos} (hc : X.calm = true) (hN : X.N.Nodup) (vi : i ∈ vs) (vj : j ∈ vs) (vi2 : i2 ∈ vs) (vj2 : j2 ∈ vs) (hi : X.N[i]? = some x) (lx : Loc X.env.scope x) (fx : X.fn x = true ∨ X.env.scope.names.lookup x = some .local) (hj : X.N[j]? = some y) (ly : Loc X.env.scope y) (fy : X.fn y = true ∨ X.env.scope.names.lookup y = some .local) (hi2 : X.N[i2]? = some x2) (lx2 : Loc X.env.scope x2) (fx2 : X.fn x2 = true ∨ X.env.scope.names.lookup x2 = some .local) (hj2 : X.N[j2]? = some y2) (ly2 : Loc X.env.scope y2) (fy2 : X.fn y2 = true ∨ X.env.scope.names.lookup y2 = some .local)
    (hn : (assignEach [.Tuple [.Name x q, .Name y r] k1 pt1, .Tuple [.Name x2 q2, .Name y2 r2] k2 pt2] X.env).length = 2 := by rfl) (hst : (assignEach [.Tuple [.Name x q, .Name y r] k1 pt1, .Tuple [.Name x2 q2, .Name y2 r2] k2 pt2] X.env).findIdx? (·.1) = none := by rfl)
    (h1 : (assignEach (.Tuple [.Name x q, .Name y r] k1 pt1 :: [.Tuple [.Name x2 q2, .Name y2 r2] k2 pt2]) X.env).map (·.2) = assign (.Tuple [.Name x q, .Name y r] k1 pt1) X.env :: (assignEach [.Tuple [.Name x2 q2, .Name y2 r2] k2 pt2] X.env).map (·.2) := by rfl)
    (h2 : (assignEach (.Tuple [.Name x2 q2, .Name y2 r2] k2 pt2 :: []) X.env).map (·.2) = assign (.Tuple [.Name x2 q2, .Name y2 r2] k2 pt2) X.env :: (assignEach [] X.env).map (·.2) := by rfl) : GW X c vs (.Tuple [.Tuple [.Name x q, .Name y r] k1 pt1, .Tuple [.Name x2 q2, .Name y2 r2] k2 pt2] k pt) (GT 2 (GC (GT 2 (GC (GN i) (GC (GN j) GZ))) (GC (GT 2 (GC (GN i2) (GC (GN j2) GZ))) GZ))) :=
  gw_tup hc (gws_cons (gwP hc hN vi vj hi hj lx ly fx fy) (gws_cons (gwP hc hN vi2 vj2 hi2 hj2 lx2 ly2 fx2 fy2) gws_nil h2) h1) hn hst
theorem lcPP {i j i2 j2 k k1 k2 : Nat} {q r q2 r2 pt pt1 pt2 : Pos} (hN : X.N = N) (nd : N.Nodup) (ix : Ix N x i) (iy : Ix N y j) (ix2 : Ix N x2 i2) (iy2 : Ix N y2 j2) (hsc : X.env.scope = sc) (hb : blkC N sc scope [(x, i), (y, j), (x2, i2), (y2, j2)] = true)
    (h : IW X c W s (LcPost X c scope [i, j, i2, j2] (GT 2 (GC (GT 2 (GC (GN i) (GC (GN j) GZ))) (GC (GT 2 (GC (GN i2) (GC (GN j2) GZ))) GZ))) ifs elt Φ) Ξ (.Tuple [.Tuple [.Name x q, .Name y r] k1 pt1, .Tuple [.Name x2 q2, .Name y2 r2] k2 pt2] k pt) iter) (hc : X.calm = true := by rfl)
    (lx : ∀ (s0 : Shared) (H0 : Hp) (C : Addr) (cl : List (Str × Addr)) (fp : List Addr), Loc (X.blk s0 H0 scope (compEnvC scope cl C X.env) fp).env.scope x := by intros; first | exact .inl rfl | exact .inr rfl) (fx : ∀ (s0 : Shared) (H0 : Hp) (C : Addr) (cl : List (Str × Addr)) (fp : List Addr), (X.blk s0 H0 scope (compEnvC scope cl C X.env) fp).fn x = true ∨ (X.blk s0 H0 scope (compEnvC scope cl C X.env) fp).env.scope.names.lookup x = some .local := by intros; first | exact .inl rfl | exact .inr rfl) (ly : ∀ (s0 : Shared) (H0 : Hp) (C : Addr) (cl : List (Str × Addr)) (fp : List Addr), Loc (X.blk s0 H0 scope (compEnvC scope cl C X.env) fp).env.scope y := by intros; first | exact .inl rfl | exact .inr rfl) (fy : ∀ (s0 : Shared) (H0 : Hp) (C : Addr) (cl : List (Str × Addr)) (fp : List Addr), (X.blk s0 H0 scope (compEnvC scope cl C X.env) fp).fn y = true ∨ (X.blk s0 H0 scope (compEnvC scope cl C X.env) fp).env.scope.names.lookup y = some .local := by intros; first | exact .inl rfl | exact .inr rfl) (lx2 : ∀ (s0 : Shared) (H0 : Hp) (C : Addr) (cl : List (Str × Addr)) (fp : List Addr), Loc (X.blk s0 H0 scope (compEnvC scope cl C X.env) fp).env.scope x2 := by intros; first | exact .inl rfl | exact .inr rfl) (fx2 : ∀ (s0 : Shared) (H0 : Hp) (C : Addr) (cl : List (Str × Addr)) (fp : List Addr), (X.blk s0 H0 scope (compEnvC scope cl C X.env) fp).fn x2 = true ∨ (X.blk s0 H0 scope (compEnvC scope cl C X.env) fp).env.scope.names.lookup x2 = some .local := by intros; first | exact .inl rfl | exact .inr rfl) (ly2 : ∀ (s0 : Shared) (H0 : Hp) (C : Addr) (cl : List (Str × Addr)) (fp : List Addr), Loc (X.blk s0 H0 scope (compEnvC scope cl C X.env) fp).env.scope y2 := by intros; first | exact .inl rfl | exact .inr rfl) (fy2 : ∀ (s0 : Shared) (H0 : Hp) (C : Addr) (cl : List (Str × Addr)) (fp : List Addr), (X.blk s0 H0 scope (compEnvC scope cl C X.env) fp).fn y2 = true ∨ (X.blk s0 H0 scope (compEnvC scope cl C X.env) fp).env.scope.names.lookup y2 = some .local := by intros; first | exact .inl rfl | exact .inr rfl) (hs : ∀ x, foldedSetIterable iter X.env x = pure x := by intro _; rfl) : EW X c W s Φ Ξ (.ListComp elt [⟨.Tuple [.Tuple [.Name x q, .Name y r] k1 pt1, .Tuple [.Name x2 q2, .Name y2 r2] k2 pt2] k pt, iter, ifs, 0⟩] scope pos) :=
  ew_lcO (own := [(x, i), (y, j), (x2, i2), (y2, j2)]) hc (by rw [hN]; exact nd) (blk_ok hN hsc hb) (fun s0 H0 C cl fp => gwPP hc (by show X.N.Nodup; rw [hN]; exact nd) (by simp) (by simp) (by simp) (by simp) (by show X.N[i]? = some x; rw [hN]; exact ix.get) (lx s0 H0 C cl fp) (fx s0 H0 C cl fp) (by show X.N[j]? = some y; rw [hN]; exact iy.get) (ly s0 H0 C cl fp) (fy s0 H0 C cl fp) (by show X.N[i2]? = some x2; rw [hN]; exact ix2.get) (lx2 s0 H0 C cl fp) (fx2 s0 H0 C cl fp) (by show X.N[j2]? = some y2; rw [hN]; exact iy2.get) (ly2 s0 H0 C cl fp) (fy2 s0 H0 C cl fp)) h hs
theorem gpp_mono {i j i2 j2 : Nat} {d : D} {s : S} {Φ Φ' : S → Prop} (h : GT 2 (GC (GT 2 (GC (GN i) (GC (GN j) GZ))) (GC (GT 2 (GC (GN i2) (GC (GN j2) GZ))) GZ)) d s Φ) (m : ∀ s', Φ s' → Φ' s') : GT 2 (GC (GT 2 (GC (GN i) (GC (GN j) GZ))) (GC (GT 2 (GC (GN i2) (GC (GN j2) GZ))) GZ)) d s Φ' := by
  cases h with
  | mk hl k =>
    cases k with
    | mk k =>
      refine .mk hl (.mk (gp_mono k fun s' h => ?_))
      cases h with
      | mk h =>
        refine .mk (gp_mono h fun s'' h2 => ?_)
        cases h2 with
        | mk h2 => exact .mk (m _ h2)
end
section
variable {X : Cx} {c : Cc} {W : WX} {op : Operator} {m m2 : Str} {C f g : Addr} {fs fs2 : List (Str × D)} {k : Nat} {sp : Sp} {d1 d2 : D} {i : Int} {s : S} {Φ : D → S → Prop} {Ξ : PX}
end
end DL

namespace DL
open PySem PySem.Spec PyProof.Rows L2
def notBl : D → Bool
  | .bl _ => false
  | _ => true
theorem Rp.notBl {K : PySem.W.Frag} {A : Addr → Prop} {H : Hp} {d : D} {v : V} (r : Rp K A H d v) (h : notBl d = true) : v = .non ∨ (∃ i, v = .int i) ∨ (∃ i, v = .str i) ∨ ∃ a, v = .ref a := by
  cases d <;> unfold Rp at r
  · exact .inl r
  · cases h
  · exact .inr (.inl ⟨_, r⟩)
  · exact .inr (.inr (.inl ⟨_, r⟩))
  · obtain ⟨a, _, rfl, _⟩ := r; exact .inr (.inr (.inr ⟨_, rfl⟩))
  · obtain ⟨a, _, rfl, _⟩ := r; exact .inr (.inr (.inr ⟨_, rfl⟩))
  · obtain ⟨a, _, _, rfl, _⟩ := r; exact .inr (.inr (.inr ⟨_, rfl⟩))
  · obtain ⟨a, rfl, _⟩ := r; exact .inr (.inr (.inr ⟨_, rfl⟩))
  · exact .inr (.inr (.inr ⟨_, r⟩))
def rIsO : R2 := fun x y H Q => (x = .non ∨ (∃ i, x = .int i) ∨ (∃ i, x = .str i) ∨ ∃ a, x = .ref a) ∧ (∃ b, y = .bl b) ∧ Q (.bl false) H
theorem op_isO {X : Cx} : OpR X (compareOp .Is) rIsO := by
  intro pins s σ H x y v u Q I rx ry h
  obtain ⟨h, ⟨b, rfl⟩, q⟩ := h
  cases (show u = Value.bool b from ry)
  rcases h with rfl | ⟨i, rfl⟩ | ⟨i, rfl⟩ | ⟨a, rfl⟩
  · cases rx
    exact wpAny_is_other rfl (fun z => nomatch z) ⟨.bl false, H, I, rfl, q⟩
  · obtain ⟨t, rfl⟩ := rx
    exact wpAny_is_other rfl (fun z => nomatch z) ⟨.bl false, H, I, rfl, q⟩
  · obtain ⟨t, rfl⟩ := rx
    exact wpAny_is_other rfl (fun z => nomatch z) ⟨.bl false, H, I, rfl, q⟩
  · cases rx
    exact wpAny_is_other rfl (fun z => nomatch z) ⟨.bl false, H, I, rfl, q⟩
inductive IsB : D → D → S → (D → S → Prop) → Prop
  | bl {a b : Bool} {s : S} {Φ : D → S → Prop} (k : Φ (.bl (a == b)) s) : IsB (.bl a) (.bl b) s Φ
  | oth {d : D} {b : Bool} {s : S} {Φ : D → S → Prop} (h : notBl d = true) (k : Φ (.bl false) s) : IsB d (.bl b) s Φ
theorem od_isB {K : PySem.W.Frag} {c : Cc} : OpD K c (fun x y H Q => rIsB x y H Q ∨ rIsO x y H Q) IsB := fun σ H s τ v1 v2 d1 d2 Φ Q e r k => by
  obtain ⟨A, r1⟩ := e.top2
  obtain ⟨B, r2⟩ := e.top
  cases r with
  | @bl a b _ _ q => exact .inl ⟨a, b, r1.bl_, r2.bl_, by rw [show decide (a = b) = (a == b) by cases a <;> cases b <;> rfl]; exact k _ _ s H q (e.drop2.atom rfl)⟩
  | oth h q => exact .inr ⟨r1.notBl h, ⟨_, r2.bl_⟩, k _ _ s H q (e.drop2.atom rfl)⟩
section
variable {X : Cx} {c : Cc} {W : WX} {s : S} {Φ : D → S → Prop} {Φb : Bool → S → Prop} {Ξ : PX} {a b : Expr} {pos : Pos}
theorem ew_isB (h : EW X c W s (fun d1 s1 => EW X c W s1 (fun d2 s2 => IsB d1 d2 s2 Φ) Ξ b) Ξ a) (hm : behindInMarks .Is b = false := by first | exact nomark _ | rfl) : EW X c W s Φ Ξ (.Compare a [.Is] [b] pos) := ew_cmp (opr_or op_isBl op_isO) od_isB hm h
theorem bw_isB (h : EW X c W s (fun d1 s1 => EW X c W s1 (fun d2 s2 => IsB d1 d2 s2 fun d s3 => ∃ b, d = .bl b ∧ Φb b s3) Ξ b) Ξ a) (hm : behindInMarks .Is b = false := by first | exact nomark _ | rfl) : BW X c W s Φb Ξ (.Compare a [.Is] [b] pos) :=
  bw_cmp (opr_or op_isBl op_isO) od_isB hm h
end
end DL

namespace DL
open PySem PySem.Spec PyProof.Rows L2
section
variable {X : Cx} {c : Cc} {W : WX} {s : S} {N : List Str} {scope sc : Scope} {x y z x2 y2 z2 : Str} {nx bk ct : S → Prop} {rt : D → S → Prop} {ex : PX} {Φ : D → S → Prop} {Ξ : PX} {ifs : List Expr} {elt iter e : Expr} {pos : Pos}
abbrev G3 (i j l : Nat) : D → S → (S → Prop) → Prop := GT 3 (GC (GN i) (GC (GN j) (GC (GN l) GZ)))
abbrev G33 (i j l i2 j2 l2 : Nat) : D → S → (S → Prop) → Prop := GT 2 (GC (G3 i j l) (GC (G3 i2 j2 l2) GZ))
theorem gwT {vs : List Nat} {i j l k : Nat} {q r t pt : Pos} (hc : X.calm = true) (hN : X.N.Nodup) (vi : i ∈ vs) (hi : X.N[i]? = some x) (lx : Loc X.env.scope x) (fx : X.fn x = true ∨ X.env.scope.names.lookup x = some .local) (vj : j ∈ vs) (hj : X.N[j]? = some y) (ly : Loc X.env.scope y) (fy : X.fn y = true ∨ X.env.scope.names.lookup y = some .local) (vl : l ∈ vs) (hl : X.N[l]? = some z) (lz : Loc X.env.scope z) (fz : X.fn z = true ∨ X.env.scope.names.lookup z = some .local)
    (hn : (assignEach [.Name x q, .Name y r, .Name z t] X.env).length = 3 := by rfl) (hst : (assignEach [.Name x q, .Name y r, .Name z t] X.env).findIdx? (·.1) = none := by rfl) (h1 : (assignEach (.Name x q :: [.Name y r, .Name z t]) X.env).map (·.2) = assign (.Name x q) X.env :: (assignEach [.Name y r, .Name z t] X.env).map (·.2) := by rfl) (h2 : (assignEach (.Name y r :: [.Name z t]) X.env).map (·.2) = assign (.Name y r) X.env :: (assignEach [.Name z t] X.env).map (·.2) := by rfl) (h3 : (assignEach (.Name z t :: []) X.env).map (·.2) = assign (.Name z t) X.env :: (assignEach [] X.env).map (·.2) := by rfl) : GW X c vs (.Tuple [.Name x q, .Name y r, .Name z t] k pt) (G3 i j l) :=
  gw_tup hc (gws_cons (gw_name hN vi hi lx fx) (gws_cons (gw_name hN vj hj ly fy) (gws_cons (gw_name hN vl hl lz fz) gws_nil h3) h2) h1) hn hst
theorem gwTT {vs : List Nat} {i j l i2 j2 l2 k k1 k2 : Nat} {q r t q2 r2 t2 pt pt1 pt2 : Pos} (hc : X.calm = true) (hN : X.N.Nodup) (vi : i ∈ vs) (hi : X.N[i]? = some x) (lx : Loc X.env.scope x) (fx : X.fn x = true ∨ X.env.scope.names.lookup x = some .local) (vj : j ∈ vs) (hj : X.N[j]? = some y) (ly : Loc X.env.scope y) (fy : X.fn y = true ∨ X.env.scope.names.lookup y = some .local) (vl : l ∈ vs) (hl : X.N[l]? = some z) (lz : Loc X.env.scope z) (fz : X.fn z = true ∨ X.env.scope.names.lookup z = some .local) (vi2 : i2 ∈ vs) (hi2 : X.N[i2]? = some x2) (lx2 : Loc X.env.scope x2) (fx2 : X.fn x2 = true ∨ X.env.scope.names.lookup x2 = some .local) (vj2 : j2 ∈ vs) (hj2 : X.N[j2]? = some y2) (ly2 : Loc X.env.scope y2) (fy2 : X.fn y2 = true ∨ X.env.scope.names.lookup y2 = some .local) (vl2 : l2 ∈ vs) (hl2 : X.N[l2]? = some z2) (lz2 : Loc X.env.scope z2) (fz2 : X.fn z2 = true ∨ X.env.scope.names.lookup z2 = some .local)
    (hn : (assignEach [.Tuple [.Name x q, .Name y r, .Name z t] k1 pt1, .Tuple [.Name x2 q2, .Name y2 r2, .Name z2 t2] k2 pt2] X.env).length = 2 := by rfl) (hst : (assignEach [.Tuple [.Name x q, .Name y r, .Name z t] k1 pt1, .Tuple [.Name x2 q2, .Name y2 r2, .Name z2 t2] k2 pt2] X.env).findIdx? (·.1) = none := by rfl) (h1 : (assignEach (.Tuple [.Name x q, .Name y r, .Name z t] k1 pt1 :: [.Tuple [.Name x2 q2, .Name y2 r2, .Name z2 t2] k2 pt2]) X.env).map (·.2) = assign (.Tuple [.Name x q, .Name y r, .Name z t] k1 pt1) X.env :: (assignEach [.Tuple [.Name x2 q2, .Name y2 r2, .Name z2 t2] k2 pt2] X.env).map (·.2) := by rfl) (h2 : (assignEach (.Tuple [.Name x2 q2, .Name y2 r2, .Name z2 t2] k2 pt2 :: []) X.env).map (·.2) = assign (.Tuple [.Name x2 q2, .Name y2 r2, .Name z2 t2] k2 pt2) X.env :: (assignEach [] X.env).map (·.2) := by rfl) : GW X c vs (.Tuple [.Tuple [.Name x q, .Name y r, .Name z t] k1 pt1, .Tuple [.Name x2 q2, .Name y2 r2, .Name z2 t2] k2 pt2] k pt) (G33 i j l i2 j2 l2) :=
  gw_tup hc (gws_cons (gwT hc hN vi hi lx fx vj hj ly fy vl hl lz fz) (gws_cons (gwT hc hN vi2 hi2 lx2 fx2 vj2 hj2 ly2 fy2 vl2 hl2 lz2 fz2) gws_nil h2) h1) hn hst
theorem lcT {i j l k : Nat} {q r t pt : Pos} (hN : X.N = N) (nd : N.Nodup) (ix : Ix N x i) (iy : Ix N y j) (iz : Ix N z l) (hsc : X.env.scope = sc) (hb : blkC N sc scope [(x, i), (y, j), (z, l)] = true)
    (h : IW X c W s (LcPost X c scope [i, j, l] (G3 i j l) ifs elt Φ) Ξ (.Tuple [.Name x q, .Name y r, .Name z t] k pt) iter) (hc : X.calm = true := by rfl)
    (lx : ∀ (s0 : Shared) (H0 : Hp) (C : Addr) (cl : List (Str × Addr)) (fp : List Addr), Loc (X.blk s0 H0 scope (compEnvC scope cl C X.env) fp).env.scope x := by intros; first | exact .inl rfl | exact .inr rfl) (fx : ∀ (s0 : Shared) (H0 : Hp) (C : Addr) (cl : List (Str × Addr)) (fp : List Addr), (X.blk s0 H0 scope (compEnvC scope cl C X.env) fp).fn x = true ∨ (X.blk s0 H0 scope (compEnvC scope cl C X.env) fp).env.scope.names.lookup x = some .local := by intros; first | exact .inl rfl | exact .inr rfl) (ly : ∀ (s0 : Shared) (H0 : Hp) (C : Addr) (cl : List (Str × Addr)) (fp : List Addr), Loc (X.blk s0 H0 scope (compEnvC scope cl C X.env) fp).env.scope y := by intros; first | exact .inl rfl | exact .inr rfl) (fy : ∀ (s0 : Shared) (H0 : Hp) (C : Addr) (cl : List (Str × Addr)) (fp : List Addr), (X.blk s0 H0 scope (compEnvC scope cl C X.env) fp).fn y = true ∨ (X.blk s0 H0 scope (compEnvC scope cl C X.env) fp).env.scope.names.lookup y = some .local := by intros; first | exact .inl rfl | exact .inr rfl) (lz : ∀ (s0 : Shared) (H0 : Hp) (C : Addr) (cl : List (Str × Addr)) (fp : List Addr), Loc (X.blk s0 H0 scope (compEnvC scope cl C X.env) fp).env.scope z := by intros; first | exact .inl rfl | exact .inr rfl) (fz : ∀ (s0 : Shared) (H0 : Hp) (C : Addr) (cl : List (Str × Addr)) (fp : List Addr), (X.blk s0 H0 scope (compEnvC scope cl C X.env) fp).fn z = true ∨ (X.blk s0 H0 scope (compEnvC scope cl C X.env) fp).env.scope.names.lookup z = some .local := by intros; first | exact .inl rfl | exact .inr rfl) (hs : ∀ x, foldedSetIterable iter X.env x = pure x := by intro _; rfl) : EW X c W s Φ Ξ (.ListComp elt [⟨.Tuple [.Name x q, .Name y r, .Name z t] k pt, iter, ifs, 0⟩] scope pos) :=
  ew_lcO (own := [(x, i), (y, j), (z, l)]) hc (by rw [hN]; exact nd) (blk_ok hN hsc hb) (fun s0 H0 C cl fp => gwT hc (by show X.N.Nodup; rw [hN]; exact nd) (by simp) (by show X.N[i]? = some x; rw [hN]; exact ix.get) (lx s0 H0 C cl fp) (fx s0 H0 C cl fp) (by simp) (by show X.N[j]? = some y; rw [hN]; exact iy.get) (ly s0 H0 C cl fp) (fy s0 H0 C cl fp) (by simp) (by show X.N[l]? = some z; rw [hN]; exact iz.get) (lz s0 H0 C cl fp) (fz s0 H0 C cl fp)) h hs
theorem lcTT {i j l i2 j2 l2 k k1 k2 : Nat} {q r t q2 r2 t2 pt pt1 pt2 : Pos} (hN : X.N = N) (nd : N.Nodup) (ix : Ix N x i) (iy : Ix N y j) (iz : Ix N z l) (ix2 : Ix N x2 i2) (iy2 : Ix N y2 j2) (iz2 : Ix N z2 l2) (hsc : X.env.scope = sc) (hb : blkC N sc scope [(x, i), (y, j), (z, l), (x2, i2), (y2, j2), (z2, l2)] = true)
    (h : IW X c W s (LcPost X c scope [i, j, l, i2, j2, l2] (G33 i j l i2 j2 l2) ifs elt Φ) Ξ (.Tuple [.Tuple [.Name x q, .Name y r, .Name z t] k1 pt1, .Tuple [.Name x2 q2, .Name y2 r2, .Name z2 t2] k2 pt2] k pt) iter) (hc : X.calm = true := by rfl)
    (lx : ∀ (s0 : Shared) (H0 : Hp) (C : Addr) (cl : List (Str × Addr)) (fp : List Addr), Loc (X.blk s0 H0 scope (compEnvC scope cl C X.env) fp).env.scope x := by intros; first | exact .inl rfl | exact .inr rfl) (fx : ∀ (s0 : Shared) (H0 : Hp) (C : Addr) (cl : List (Str × Addr)) (fp : List Addr), (X.blk s0 H0 scope (compEnvC scope cl C X.env) fp).fn x = true ∨ (X.blk s0 H0 scope (compEnvC scope cl C X.env) fp).env.scope.names.lookup x = some .local := by intros; first | exact .inl rfl | exact .inr rfl) (ly : ∀ (s0 : Shared) (H0 : Hp) (C : Addr) (cl : List (Str × Addr)) (fp : List Addr), Loc (X.blk s0 H0 scope (compEnvC scope cl C X.env) fp).env.scope y := by intros; first | exact .inl rfl | exact .inr rfl) (fy : ∀ (s0 : Shared) (H0 : Hp) (C : Addr) (cl : List (Str × Addr)) (fp : List Addr), (X.blk s0 H0 scope (compEnvC scope cl C X.env) fp).fn y = true ∨ (X.blk s0 H0 scope (compEnvC scope cl C X.env) fp).env.scope.names.lookup y = some .local := by intros; first | exact .inl rfl | exact .inr rfl) (lz : ∀ (s0 : Shared) (H0 : Hp) (C : Addr) (cl : List (Str × Addr)) (fp : List Addr), Loc (X.blk s0 H0 scope (compEnvC scope cl C X.env) fp).env.scope z := by intros; first | exact .inl rfl | exact .inr rfl) (fz : ∀ (s0 : Shared) (H0 : Hp) (C : Addr) (cl : List (Str × Addr)) (fp : List Addr), (X.blk s0 H0 scope (compEnvC scope cl C X.env) fp).fn z = true ∨ (X.blk s0 H0 scope (compEnvC scope cl C X.env) fp).env.scope.names.lookup z = some .local := by intros; first | exact .inl rfl | exact .inr rfl) (lx2 : ∀ (s0 : Shared) (H0 : Hp) (C : Addr) (cl : List (Str × Addr)) (fp : List Addr), Loc (X.blk s0 H0 scope (compEnvC scope cl C X.env) fp).env.scope x2 := by intros; first | exact .inl rfl | exact .inr rfl) (fx2 : ∀ (s0 : Shared) (H0 : Hp) (C : Addr) (cl : List (Str × Addr)) (fp : List Addr), (X.blk s0 H0 scope (compEnvC scope cl C X.env) fp).fn x2 = true ∨ (X.blk s0 H0 scope (compEnvC scope cl C X.env) fp).env.scope.names.lookup x2 = some .local := by intros; first | exact .inl rfl | exact .inr rfl) (ly2 : ∀ (s0 : Shared) (H0 : Hp) (C : Addr) (cl : List (Str × Addr)) (fp : List Addr), Loc (X.blk s0 H0 scope (compEnvC scope cl C X.env) fp).env.scope y2 := by intros; first | exact .inl rfl | exact .inr rfl) (fy2 : ∀ (s0 : Shared) (H0 : Hp) (C : Addr) (cl : List (Str × Addr)) (fp : List Addr), (X.blk s0 H0 scope (compEnvC scope cl C X.env) fp).fn y2 = true ∨ (X.blk s0 H0 scope (compEnvC scope cl C X.env) fp).env.scope.names.lookup y2 = some .local := by intros; first | exact .inl rfl | exact .inr rfl) (lz2 : ∀ (s0 : Shared) (H0 : Hp) (C : Addr) (cl : List (Str × Addr)) (fp : List Addr), Loc (X.blk s0 H0 scope (compEnvC scope cl C X.env) fp).env.scope z2 := by intros; first | exact .inl rfl | exact .inr rfl) (fz2 : ∀ (s0 : Shared) (H0 : Hp) (C : Addr) (cl : List (Str × Addr)) (fp : List Addr), (X.blk s0 H0 scope (compEnvC scope cl C X.env) fp).fn z2 = true ∨ (X.blk s0 H0 scope (compEnvC scope cl C X.env) fp).env.scope.names.lookup z2 = some .local := by intros; first | exact .inl rfl | exact .inr rfl) (hs : ∀ x, foldedSetIterable iter X.env x = pure x := by intro _; rfl) : EW X c W s Φ Ξ (.ListComp elt [⟨.Tuple [.Tuple [.Name x q, .Name y r, .Name z t] k1 pt1, .Tuple [.Name x2 q2, .Name y2 r2, .Name z2 t2] k2 pt2] k pt, iter, ifs, 0⟩] scope pos) :=
  ew_lcO (own := [(x, i), (y, j), (z, l), (x2, i2), (y2, j2), (z2, l2)]) hc (by rw [hN]; exact nd) (blk_ok hN hsc hb) (fun s0 H0 C cl fp => gwTT hc (by show X.N.Nodup; rw [hN]; exact nd) (by simp) (by show X.N[i]? = some x; rw [hN]; exact ix.get) (lx s0 H0 C cl fp) (fx s0 H0 C cl fp) (by simp) (by show X.N[j]? = some y; rw [hN]; exact iy.get) (ly s0 H0 C cl fp) (fy s0 H0 C cl fp) (by simp) (by show X.N[l]? = some z; rw [hN]; exact iz.get) (lz s0 H0 C cl fp) (fz s0 H0 C cl fp) (by simp) (by show X.N[i2]? = some x2; rw [hN]; exact ix2.get) (lx2 s0 H0 C cl fp) (fx2 s0 H0 C cl fp) (by simp) (by show X.N[j2]? = some y2; rw [hN]; exact iy2.get) (ly2 s0 H0 C cl fp) (fy2 s0 H0 C cl fp) (by simp) (by show X.N[l2]? = some z2; rw [hN]; exact iz2.get) (lz2 s0 H0 C cl fp) (fz2 s0 H0 C cl fp)) h hs
theorem asgT {i j l k : Nat} {q r t pt : Pos} (hc : X.calm = true) (hN : X.N = N) (nd : N.Nodup) (ix : Ix N x i) (iy : Ix N y j) (iz : Ix N z l) (h : EW X c W s (fun d s1 => G3 i j l d s1 nx) ex e)
    (lx : Loc X.env.scope x := by first | exact .inl rfl | exact .inr rfl) (fx : X.fn x = true ∨ X.env.scope.names.lookup x = some .local := by first | exact .inl rfl | exact .inr rfl) (ly : Loc X.env.scope y := by first | exact .inl rfl | exact .inr rfl) (fy : X.fn y = true ∨ X.env.scope.names.lookup y = some .local := by first | exact .inl rfl | exact .inr rfl) (lz : Loc X.env.scope z := by first | exact .inl rfl | exact .inr rfl) (fz : X.fn z = true ∨ X.env.scope.names.lookup z = some .local := by first | exact .inl rfl | exact .inr rfl) (hs : swapsWithSole [.Tuple [.Name x q, .Name y r, .Name z t] k pt] e pos.line X.env = pure false := by rfl) (hw : swappedStores [.Tuple [.Name x q, .Name y r, .Name z t] k pt] e X.env = pure none := by rfl) : SW X c W s ⟨nx, rt, bk, ct, ex⟩ (.Assign [.Tuple [.Name x q, .Name y r, .Name z t] k pt] e pos) :=
  sw_asg (vs := [i, j, l]) (gwT hc (by rw [hN]; exact nd) (by simp) (by rw [hN]; exact ix.get) lx fx (by simp) (by rw [hN]; exact iy.get) ly fy (by simp) (by rw [hN]; exact iz.get) lz fz) h hs hw
inductive AllR (c : Cc) : List D → S → (D → S → Prop) → Prop
  | mk {d : D} {l : List D} {bs : List Bool} {s : S} {Φ : D → S → Prop} (h : Sl c s d l) (hl : l = bs.map D.bl) (k : Φ (.bl (bs.all id)) s) : AllR c [d] s Φ
end
end DL

namespace DL
open PySem PySem.Spec PyProof.Rows L2
def KB (K : PySem.W.Frag) (fd : FuncData) (ps : List Str) (n : Nat) (ks : List Str) : Prop := ∀ (s : Shared) (us ws : List Value), K.In s.heap → us.length = n → ws.length = ks.length → BindsTo s fd ⟨us, ks.zip ws⟩ (ps.zip (us ++ ws))
section
variable {X : Cx} {CX : CXT} {k n : Nat} {f : Addr} {fd : FuncData} {ps ks : List Str} {sp : Sp} {E : L2.St → XK} {x : Str} {p pos kpos : Pos} {e : Expr} {es : List Expr} {kws : List Keyword} {t tk : TA} {nm : Option Str}
theorem PK.mono {t t' : TA} (h : PK X kws t) (m : ∀ σ H Q, t' σ H Q → t σ H Q) : PK X kws t' := ⟨fun pos pins s σ H Q I q => h.run pos pins s σ H Q I (m _ _ _ q)⟩
def kAny (X : Cx) (kws : List Keyword) : TA := fun σ H Q => ∃ t, PK X kws t ∧ t σ H Q
theorem pk_any : PK X kws (kAny X kws) := ⟨fun pos pins s σ H Q I ⟨t, h, q⟩ => h.run pos pins s σ H Q I q⟩
end
def KW (X : Cx) (c : Cc) (W : WX) (s : S) (Φ : List D → S → Prop) (Ξ : PX) (kws : List Keyword) : Prop := PK X kws (tA2 X.K c W s Φ Ξ)
section
variable {X : Cx} {c : Cc} {W : WX} {s : S} {Φ : D → S → Prop} {Φa : List D → S → Prop} {Ξ : PX} {e : Expr} {es : List Expr} {kws : List Keyword} {pos kpos p : Pos} {nm : Option Str} {σ : L2.St} {H : Hp} {x : Str} {ps ks : List Str} {k n : Nat}
theorem kw_nil (h : Φa [] s) : KW X c W s Φa Ξ [] := PK.mono pk_nil fun σ H Q ⟨τ, e0, q, _⟩ => q [] [] s H τ h e0 (fun _ h => h) .nil
theorem KW.use {τ : List (V × D)} {Q : List V → Hp → Prop} (h : KW X c W s Φa Ξ kws) (e0 : SE X.K c σ H s τ) (k : ∀ vs ds s' H' τ', Φa ds s' → SE X.K c σ H' s' τ' → (∀ x ∈ τ, x ∈ τ') → Paired (fun v d => (v, d) ∈ τ') vs ds → Q vs H')
    (hx : ∀ cls x dd s' H', Ξ cls x s' → SE X.K c σ H' s' τ → XR X.K H' x dd → W cls dd σ H') : kAny X kws σ H Q := ⟨_, h, τ, e0, k, hx⟩
theorem kw_cons (h : EW X c W s (fun d s1 => KW X c W s1 (fun ds s2 => Φa (d :: ds) s2) Ξ kws) Ξ e) : KW X c W s Φa Ξ (⟨nm, e, kpos⟩ :: kws) :=
  PK.mono (pk_cons pe_any pk_any) fun σ H Q ⟨τ, e0, k, hx⟩ => h.use e0 (fun v d s1 H1 h1 e1 => h1.use e1 (fun vs ds s2 H2 τ2 h2 e2 sb pr => k (v :: vs) (d :: ds) s2 H2 τ2 h2 e2 (fun x hx => sb x (List.mem_cons_of_mem _ hx)) (.cons (sb _ List.mem_cons_self) pr))
    fun cls x dd s' H' p q => hx cls x dd s' H' p q.pop) hx
def DfK (P : Program) (w : World) (K : PySem.W.Frag) (mg : Str → Option Value) (base : Heap) (k : Nat) (x : Str) (ps : List Str) (n : Nat) (ks : List Str) (sp : Sp) : Prop :=
  ∃ (f : Addr) (fd : FuncData), FnOk P w K mg base (L2.CX P w) k f fd ps sp ∧ KB K fd ps n ks ∧ mg x = some (.ref f) ∧ PySem.W.keepIn K (.ref f) = true
theorem DfK.mono {P : Program} {w : World} {K : PySem.W.Frag} {mg : Str → Option Value} {base : Heap} {j k : Nat} {sp : Sp} (d : DfK P w K mg base j x ps n ks sp) (h : j ≤ k) : DfK P w K mg base k x ps n ks sp := let ⟨f, fd, F, r⟩ := d; ⟨f, fd, F.mono h, r⟩
end
section
variable {P : Program} {w : World} {K : PySem.W.Frag} {mg : Str → Option Value} {base : Heap} {x : Str} {params : Arguments} {body : List Stmt} {scope : Scope} {f : Addr}
end
end DL

namespace DL
open PySem PySem.Spec PyProof.Rows L2
inductive RepF (c : Cc) : D → D → S → (D → S → Prop) → Prop
  | mk {d : D} {k : Int} {l : List D} {s : S} {Φ : D → S → Prop} (h : Src c s d l) (h1 : -1000000 ≤ k) (h2 : k ≤ 1000000) (hl : l.length ≤ 16) (q : Φ (.lst (List.replicate k.toNat l).flatten) s) : RepF c d (.int k) s Φ
theorem rep_one {n : Nat} {d : D} : (List.replicate n [d]).flatten = List.replicate n d := by
  induction n with
  | zero => rfl
  | succ n ih => rw [List.replicate_succ, List.flatten_cons, ih, List.replicate_succ]; rfl
theorem RepF.one {c : Cc} {d d0 : D} {k : Int} {s : S} {Φ : D → S → Prop} (h : Src c s d [d0]) (h1 : -1000000 ≤ k) (h2 : k ≤ 1000000) (q : Φ (.lst (List.replicate k.toNat d0)) s) : RepF c d (.int k) s Φ := .mk h h1 h2 (by simp) (by rw [rep_one]; exact q)
section
variable {X : Cx} {c : Cc} {W : WX} {s : S} {Φ : D → S → Prop} {Ξ : PX} {a b : Expr} {pos : Pos}
end
end DL

namespace DL
open PySem PySem.Spec PyProof.Rows L2
def rIsEM (K : PySem.W.Frag) (D a : Addr) : List V → Hp → VK → Prop := fun xs H Q => ∃ (tp : Addr) (cs : List V) (us : List Value) (b : Bool), xs = [.ref a, .ref tp] ∧ H tp = some (.tup cs) ∧ Paired ClsV cs us ∧ PySem.W.kitAny K (.ref D) us = some b ∧ Q (.bl b) H
inductive IsMR (K : PySem.W.Frag) (E a : Addr) : List D → S → (D → S → Prop) → Prop
  | mk {l : List D} {Cs : List Addr} {b : Bool} {s : S} {Φ : D → S → Prop} (el : l = Cs.map D.ref) (h : PySem.W.kitAny K (.ref E) (Cs.map Value.ref) = some b) (k : Φ (.bl b) s) : IsMR K E a [.ref a, .tup l] s Φ
section
variable {X : Cx} {c : Cc} {W : WX} {s : S} {Φ : D → S → Prop} {Ξ : PX} {pos : Pos} {x : Str} {p : Pos} {e : Expr} {es : List Expr} {a E : Addr} {oe : Obj} {ps : List (Addr × Obj)}
theorem ew_gcls {C : Addr} (hm : X.mg x = some (.ref C)) (k : Φ (.ref C) s) (hg : Gl X x := by rfl) (hdb : (x == ("__debug__" : Str)) = false := by decide) : EW X c W s Φ Ξ (.Name x pos) :=
  PE.mono (pe_glob (v := V.ref C) hg hm rfl hdb) fun σ H Q ⟨τ, e0, q, _⟩ => q _ _ s H k (e0.atom rfl)
end
end DL

namespace DL
open PySem PySem.Spec PyProof.Rows L2
structure LenOf (K : PySem.W.Frag) (C f : Addr) : Prop where
  hs : PySem.W.findIn K (.ref C) "__len__" = some (some (.ref f))
  hf : PySem.W.isFn K (.ref f) = true
def lenB (K : PySem.W.Frag) (C : Addr) : Bool := eqO (PySem.W.findIn K (.ref C) "__len__") (some (some (.ref (He.ma K C "__len__")))) && PySem.W.isFn K (.ref (He.ma K C "__len__"))
section
variable {X : Cx} {C f : Addr} {k : Nat} {sp : Sp}
end
section
variable {X : Cx} {c : Cc} {W : WX} {s : S} {Φ : D → S → Prop} {Ξ : PX} {pos : Pos} {e : Expr} {C f : Addr} {k : Nat} {sp : Sp} {p : Pos}
end
section
variable {X : Cx} {c : Cc} {W : WX} {N : Nd} {δ : List (Option D)} {ω ω' : List (Addr × List D)} {ι ι' : List (Addr × Addr × List (Str × D))} {sts : List Stmt}
theorem SE.perm {K : PySem.W.Frag} {σ : List (Option V)} {H : Hp} {τ : List (V × D)} (h1 : ω.Perm ω') (h2 : ι.Perm ι') (h : SE K c σ H (@S.mk δ ω ⟨ι⟩) τ) : SE K c σ H (@S.mk δ ω' ⟨ι'⟩) τ := by
  obtain ⟨A, e, r⟩ := h
  exact ⟨A, ⟨e.slots, e.len, fun p ds hp => e.own p ds (h1.mem_iff.mpr hp), (h1.map _).nodup_iff.mp e.nd, e.tmp, e.dom, fun p C fs hp => e.ins p C fs (h2.mem_iff.mpr hp), (h2.map _).nodup_iff.mp e.ndi⟩,
    ⟨r.sub, r.up, r.keep, fun p ds hp => r.own p ds (h1.mem_iff.mpr hp), r.there, r.nA, r.o0, r.ro, fun p C fs hp => r.ins p C fs (h2.mem_iff.mpr hp), r.tab⟩⟩
end
section
variable {X : Cx} {c : Cc} {W : WX} {s : S} {nx : S → Prop} {rt : D → S → Prop} {bk ct : S → Prop} {ex : PX} {e o : Expr} {pos pos' : Pos} {f : Str}
theorem sw_fldO (ow : OwnN f) (h : EW X c W s (fun d s1 => EW X c W s1 (fun x s2 => StFR X.K f d x s2 nx) ex o) ex e) (hs : swapsWith e (some (.Attribute o f pos')) pos.line X.env = pure false := by rfl) : SW X c W s ⟨nx, rt, bk, ct, ex⟩ (.Assign [.Attribute o f pos'] e pos) := sw_fld h hs
end
theorem callg_ok {Φ : D → S → Prop} {Ξ : PX} {s : S} {d : D} (h : Φ d s) : CallG Φ Ξ s (.ok d) := h
theorem callg_exc {Φ : D → S → Prop} {Ξ : PX} {s : S} {cls : Value} {z : XD} (h : Ξ cls z s) : CallG Φ Ξ s (.exc cls z) := h
def relabS (sc osc : Scope) : Scope := { sc with names := sc.names.map fun (n, k) => if (k == .free && osc.kind == .function && osc.names.lookup n == some .cell) then (n, .cell) else (n, k) }
theorem hscb {Y : Cx} {s0 : Shared} {H0 : Hp} {C : Addr} {cl : List (Str × Addr)} {fp : List Addr} {sc osc : Scope} (h : Y.env.scope = osc) : (Y.blk s0 H0 sc (compEnvC sc cl C Y.env) fp).env.scope = relabS sc osc := by
  subst h
  rfl
end DL

namespace DL
open PySem PySem.Spec PyProof.Rows L2
theorem foldMin_mem : ∀ (ys : List Int) (y : Int), ys.foldl (fun a z => if PySem.W.DatumOrd.lt z a = true then z else a) y ∈ y :: ys
  | [], y => List.mem_cons_self
  | z :: ys, y => by
    rw [List.foldl_cons]
    split
    · exact List.mem_cons_of_mem _ (foldMin_mem ys z)
    · rcases List.mem_cons.mp (foldMin_mem ys y) with h | h
      · rw [h]
        exact List.mem_cons_self
      · exact List.mem_cons_of_mem _ (List.mem_cons_of_mem _ h)
theorem foldMin_le : ∀ (ys : List Int) (y : Int), ∀ z ∈ y :: ys, ys.foldl (fun a z => if PySem.W.DatumOrd.lt z a = true then z else a) y ≤ z
  | [], y, z, h => by
    rcases List.mem_cons.mp h with h | h
    · rw [h]
      exact Int.le_refl _
    · cases h
  | w :: ys, y, z, h => by
    rw [List.foldl_cons]
    have h1 := foldMin_le ys (if PySem.W.DatumOrd.lt w y = true then w else y)
    have h2 : (if PySem.W.DatumOrd.lt w y = true then w else y) ≤ y ∧ (if PySem.W.DatumOrd.lt w y = true then w else y) ≤ w := by
      split
      · rename_i e
        have : w < y := of_decide_eq_true e
        omega
      · rename_i e
        have : ¬ w < y := fun q => e (decide_eq_true q)
        omega
    have h3 := h1 _ List.mem_cons_self
    rcases List.mem_cons.mp h with h | h
    · subst h
      omega
    · rcases List.mem_cons.mp h with h | h
      · subst h
        omega
      · exact h1 _ (List.mem_cons_of_mem _ h)
def rMinD (K : PySem.W.Frag) : List V → List V → Hp → VK → Prop := fun vs zs H Q => ∃ (a : Addr) (ns : List Int), vs = [V.ref a] ∧ zs = [V.non] ∧ SqL K H a (ns.map V.int) ∧ (ns = [] → Q .non H) ∧ ∀ m, m ∈ ns → (∀ y, y ∈ ns → m ≤ y) → Q (.int m) H
theorem cr_minD {X : Cx} (hu : X.A.units + 1 < cLine) (hc : X.calm = true) : CallRK X (.builtin "min") [Str.ofString "default"] (rMinD X.K) := by
  intro pins s σ H vs zs us ws Q I r rz h
  obtain ⟨a, ns, rfl, rfl, hs, q0, q⟩ := h
  obtain ⟨its, rv, hl, _⟩ := I.list hs
  rw [Vals.ref1 r]
  obtain ⟨w1, rfl, e1⟩ := vals1 rz
  obtain rfl : w1 = Value.none := e1
  refine PySem.W.min_list_datum_default (α := Int) (I.ok.hd hc) hl.isList (PySem.W.HoldAll.of_ints rv.ints) (by show _ + 1 + 0 < _; omega) (fun e h' tk hk => ⟨.non, H, I.kept hk, rfl, q0 e⟩) fun y ys i v h' tk e hi hv hk => ?_
  obtain ⟨as, hv⟩ := hv
  subst e
  cases hv
  exact ⟨.int _, H, I.kept hk, ⟨_, rfl⟩, q _ (foldMin_mem ys y) (foldMin_le ys y)⟩
inductive MnR (c : Cc) : List D → S → (D → S → Prop) → Prop
  | mk {d : D} {l : List D} {ns : List Int} {s : S} {Φ : D → S → Prop} (h : Sl c s d l) (hl : l = ns.map D.int) (k : (ns = [] → Φ .non s) ∧ ∀ m, m ∈ ns → (∀ y ∈ ns, m ≤ y) → Φ (.int m) s) : MnR c [d] s Φ
section
variable {X : Cx} {c : Cc} {W : WX} {s : S} {Φ : D → S → Prop} {Ξ : PX} {e : Expr} {pos p q kpos : Pos} {j : Nat}
theorem ew_minD (hu : X.A.units + 64 < cLine) (hc : X.calm = true) (hm : X.mg "min" = none) (h : AW X c W s (fun ds s1 => MnR c ds s1 Φ) Ξ [e]) (hg : Gl X "min" := by rfl)
    (he : backTo pos (starEach [e] X.env) = (false, eval e X.env) :: backTo pos (starEach [] X.env) := by rfl) (hpl : (backTo pos (starEach [e] X.env)).any (·.1) = false := by rfl) : EW X c W s Φ Ξ (.Call (.Name "min" p) [e] [⟨some "default", .Constant .none j q, kpos⟩] pos) := by
  refine PE.mono (pe_callBK (ks := [Str.ofString "default"]) (cr_minD (by omega) hc) hg hm boot_min pa_any pk_any (by decide) (by decide) he hpl) fun σ H Q ⟨τ, e0, kk, hx⟩ => h.use e0 (fun vs ds s1 H1 τ1 h1 e1 sb pr => ?_) hx
  have hk : KW X c W s1 (fun zs s2 => zs = [D.non] ∧ s2 = s1) Ξ [⟨some "default", .Constant .none j q, kpos⟩] := kw_cons (ew_non (kw_nil ⟨rfl, rfl⟩))
  refine hk.use e1 (fun ws es s2 H2 τ2 ⟨ee, es2⟩ e2 sb2 pr2 => ?_) fun cls x dd s' H' a b => hx cls x dd s' H' a (b.sub sb)
  subst ee es2
  obtain ⟨A, f2, rl⟩ := id e2
  cases h1 with
  | @mk d l ns _ _ h hl k =>
    subst hl
    obtain ⟨v, rfl, hv⟩ := Paired.one pr
    obtain ⟨w, rfl, hw⟩ := Paired.one pr2
    obtain ⟨p, xs, rfl, sq, rp⟩ := h.rd f2 rl (f2.tmp _ _ (sb2 _ hv))
    have ex := RpL.ints rp
    subst ex
    have r1 := f2.tmp _ _ hw
    unfold Rp at r1
    subst r1
    have e3 : SE X.K c σ H2 s2 τ := (e2.sub sb2).sub sb
    exact ⟨p, ns, rfl, rfl, sq, fun e => kk _ _ _ H2 (k.1 e) (e3.atom rfl), fun m a b => kk _ _ _ H2 (k.2 m a b) (e3.atom rfl)⟩
end
end DL

namespace DL
open PySem PySem.Spec PyProof.Rows L2
def FnAK (P : Program) (w : World) (K : PySem.W.Frag) (mg : Str → Option Value) (base : Heap) (k : Nat) (f : Addr) (n : Nat) (ks : List Str) (dvs : List V) (sp : Sp) : Prop :=
  ∃ fd ps, FnOk P w K mg base (L2.CX P w) k f fd ps sp ∧ (∃ ds, Vals dvs ds ∧ Binds K fd ps ds) ∧ KB K fd ps n ks
theorem FnAK.mono {P : Program} {w : World} {K : PySem.W.Frag} {mg : Str → Option Value} {base : Heap} {j k n : Nat} {f : Addr} {ks : List Str} {dvs : List V} {sp : Sp} (d : FnAK P w K mg base j f n ks dvs sp) (h : j ≤ k) : FnAK P w K mg base k f n ks dvs sp := let ⟨fd, ps, F, r⟩ := d; ⟨fd, ps, F.mono h, r⟩
section
variable {X : Cx} {c : Cc} {W : WX} {f C : Addr} {k n : Nat} {sp : Sp} {σ : L2.St} {o : Expr} {m : Str} {pos apos : Pos} {ta : TE} {tk' : TA} {pins : List (Addr × Obj)} {H : Hp} {Q : VK} {kws : List Keyword} {ks : List Str} {dvs : List V}
end
section
variable {X : Cx} {c : Cc} {W : WX} {s : S} {Φ : D → S → Prop} {Ξ : PX} {o : Expr} {m : Str} {pos apos : Pos} {C f : Addr} {k n : Nat} {sp : Sp} {kws : List Keyword} {ks : List Str} {dvs : List V}
end
section
variable {P : Program} {w : World} {K : PySem.W.Frag} {mg : Str → Option Value} {base : Heap} {x : Str} {params : Arguments} {body : List Stmt} {scope : Scope} {f : Addr}
end
end DL

namespace Z3
open PySem
open Sem (wp)
abbrev Ns (h : Heap) : Nat := h.objs.size
theorem nolen {m : Str} (h : typeLookup (.type "zip") m = pure none := by exact am_miss_of_fast (by decide +kernel)) : typeLookup (.type "zip") m = pure none := h
structure Wh where
  z : Addr
  ti : Addr
  to : Addr
  i1 : Addr
  i2 : Addr
  i3 : Addr
  l1 : Addr
  l2 : Addr
  l3 : Addr
  xs : Array Value
  ys : Array Value
  ws : Array Value
structure Wh.Ok (c : Wh) (S : Addr) : Prop where
  sep : ZipSep3 c.z c.ti c.to c.i1 c.i2 c.i3 [c.i1, c.l1] [c.i2, c.l2] [c.i3, c.l3]
  low : ∀ a ∈ [c.z, c.ti, c.to, c.i1, c.i2, c.i3, c.l1, c.l2, c.l3], a < S
  e1 : c.l1 ≠ c.i1
  e2 : c.l2 ≠ c.i2
  e3 : c.l3 ≠ c.i3
  sy : c.ys.size = c.xs.size
  sw : c.ws.size = c.xs.size
def Wh.wr (c : Wh) : List Addr := [c.z, c.to, c.i1, c.i2, c.i3]
def Stays (wr : List Addr) (h h' : Heap) : Prop := ∀ a o, a ∉ wr → h.get? a = some o → h'.get? a = some o
def Wh.its (c : Wh) (i : Nat) (h : Heap) : Prop := (h.IsListIter c.i1 c.l1 i ∧ h.IsList c.l1 c.xs) ∧ (h.IsListIter c.i2 c.l2 i ∧ h.IsList c.l2 c.ys) ∧ (h.IsListIter c.i3 c.l3 i ∧ h.IsList c.l3 c.ws)
def Wh.zp (c : Wh) (i : Nat) (S : Addr) (h : Heap) : Prop :=
  (i = 0 ∧ IsZip h c.z c.ti c.to .none ∧ IsTupOf3 h c.to .none .none .none) ∨ ∃ T f o, IsZipHeld h c.z c.ti c.to T f ∧ h.get? T = some o ∧ T ∉ S :: c.wr
structure Wh.At (c : Wh) (i : Nat) (S : Addr) (h : Heap) : Prop where
  zp : c.zp i S h
  ti : IsTupOf3 h c.ti (.ref c.i1) (.ref c.i2) (.ref c.i3)
  its : c.its i h
section
variable {prog : Program} {w : World} {A : Around} {E : Value → Shared → Prop} {s : Shared} {c : Wh} {S T : Addr} {f : Bool} {o : Obj} {i : Nat}
set_option hygiene false in
local macro_rules | `(tactic| fail "zhead") => `(tactic| (
  (show wpAny _ _ (field _ 2 >>= _) _ _ _); refine wpAny_bind (wpAny_field hz rfl (x := .bool false) rfl ?_); (show wpAny _ _ (field _ 3 >>= _) _ _ _); refine wpAny_bind (wpAny_field hz rfl (x := .ref c.ti) rfl (wpAny_bind (wpAny_seqItems ht rfl ?_)))
  (show wpAny _ _ (Builtin.SmallTypes.ownedTupleIsFree _ >>= _) _ _ _); refine wpAny_bind (wpAny_tupleHeld_zip hz hT fun g0 hz0 hs0 => ?_); (replace hs0 : Heap.SameBut c.z s.heap g0 := hs0)
  (simp only [Bool.false_eq_true, ↓reduceIte]); refine wpAny_bind ?_; rw [← Array.forIn_toList]; (simp only [List.forIn_cons, List.forIn_nil]); refine wpAny_bind (wpAny_bind (wpAny_holding ?_))))
theorem next_held {Q : Value → Shared → Prop} (hh : A.handled = none) (ap : c.Ok S) (hz : IsZipHeld s.heap c.z c.ti c.to T f) (hT : s.heap.get? T = some o) (ht : IsTupOf3 s.heap c.ti (.ref c.i1) (.ref c.i2) (.ref c.i3)) (st : c.its i s.heap) (hi : i < c.xs.size)
    (hQ : ∀ x y v h' tk, c.xs[i]? = some x → c.ys[i]? = some y → c.ws[i]? = some v → IsZipHeld h' c.z c.ti c.to T true → c.its (i + 1) h' → IsTupOf3 h' (Ns s.heap) x y v → Ns h' = Ns s.heap + 1 → Stays c.wr s.heap h' → Q (.ref (Ns s.heap)) { s with heap := h', toks := tk }) :
    wpAny (model prog w) A (Builtin.«zip.__next__» ⟨[.ref c.z], []⟩) (fun r s' => ∃ v, r = .done (.ret v) ∧ Q v s') E s := by
  have D1 := Draws.list (prog := prog) (w := w) (A := A) hh c.i1 c.l1 ap.e1 c.xs
  have D2 := Draws.list (prog := prog) (w := w) (A := A) hh c.i2 c.l2 ap.e2 c.ys
  have D3 := Draws.list (prog := prog) (w := w) (A := A) hh c.i3 c.l3 ap.e3 c.ws
  have P := ap.sep
  fail "zhead"
  (show wpAny _ _ (Builtin.SmallTypes.nextOf (.ref c.i1) >>= _) _ _ { s with heap := g0 })
  refine wpAny_bind (D1.item i { s with heap := g0 } _ _ hi (D1.over st.1 hs0 P.zf1) fun x p1 k1 hx a1 b1 => wpAny_pure ?_)
  replace b1 : Heap.SameBut c.i1 g0 p1 := b1
  refine wpAny_pure (wpAny_bind (wpAny_bind (wpAny_holding ?_)))
  (show wpAny _ _ (Builtin.SmallTypes.nextOf (.ref c.i2) >>= _) _ _ { s with heap := p1, toks := k1 })
  refine wpAny_bind (D2.item i { s with heap := p1, toks := k1 } _ _ (by rw [ap.sy]; exact hi) (D2.over (D2.over st.2.1 hs0 P.zf2) b1 P.sep1_2) fun y p2 k2 hy a2 b2 => wpAny_pure ?_)
  replace b2 : Heap.SameBut c.i2 p1 p2 := b2
  refine wpAny_pure (wpAny_bind (wpAny_bind (wpAny_holding ?_)))
  (show wpAny _ _ (Builtin.SmallTypes.nextOf (.ref c.i3) >>= _) _ _ { s with heap := p2, toks := k2 })
  refine wpAny_bind (D3.item i { s with heap := p2, toks := k2 } _ _ (by rw [ap.sw]; exact hi) (D3.over (D3.over (D3.over st.2.2 hs0 P.zf3) b1 P.sep1_3) b2 P.sep2_3) fun v p3 k3 hv a3 b3 => wpAny_pure ?_)
  replace b3 : Heap.SameBut c.i3 p2 p3 := b3
  refine wpAny_pure (wpAny_pure (show wpAny _ _ (newTuple [x, y, v] >>= _) _ _ { s with heap := p3, toks := k3 } from wpAny_bind (wpAny_newTuple (wpAny_pure ⟨_, rfl, ?_⟩))))
  have sz : Ns p3 = Ns s.heap := by unfold Ns; rw [b3.1, b2.1, b1.1, hs0.1]
  have fwd : Stays c.wr s.heap p3 := fun a u na e => by
    have n : ∀ b ∈ c.wr, a ≠ b := fun b hb z => na (z ▸ hb)
    exact b3.extBut _ _ (n _ (by simp [Wh.wr])) (b2.extBut _ _ (n _ (by simp [Wh.wr])) (b1.extBut _ _ (n _ (by simp [Wh.wr])) (hs0.extBut _ _ (n _ (by simp [Wh.wr])) e)))
  have g : ∀ {a : Addr} {u : Obj} {t : Obj}, p3.get? a = some u → (p3.push t).get? a = some u := fun e => Heap.get?_push_of_some _ e
  have done := hQ x y v (p3.push { cls := .type "tuple", data := .seq #[x, y, v] }) k3 hx hy hv (g (b3.extBut _ _ P.zi3 (b2.extBut _ _ P.zi2 (b1.extBut _ _ P.zi1 hz0))))
    ⟨D1.frame _ _ _ (D1.over (D1.over a1 b2 P.sep2_1) b3 P.sep3_1) fun _ _ _ => g, D2.frame _ _ _ (D2.over a2 b3 P.sep3_2) fun _ _ _ => g, D3.frame _ _ _ a3 fun _ _ _ => g⟩
    (by rw [← sz]; exact Heap.get?_push_size _ rfl) (by rw [← sz]; exact Heap.size_push ..) fun a u na e => g (fwd a u na e)
  rw [← sz] at done
  exact done
theorem end_held {Q : Fin → Shared → Prop} (hh : A.handled = none) (ap : c.Ok S) (hz : IsZipHeld s.heap c.z c.ti c.to T f) (hT : s.heap.get? T = some o) (ht : IsTupOf3 s.heap c.ti (.ref c.i1) (.ref c.i2) (.ref c.i3)) (st : c.its c.xs.size s.heap)
    (hE : ∀ h' e, Stays c.wr s.heap h' → (∃ u, h'.get? e = some u ∧ u.cls = .type "StopIteration") → E (.ref e) { s with heap := h' }) :
    wpAny (model prog w) A (Builtin.«zip.__next__» ⟨[.ref c.z], []⟩) Q E s := by
  have D1 := Draws.list (prog := prog) (w := w) (A := A) hh c.i1 c.l1 ap.e1 c.xs
  fail "zhead"
  (show wpAny _ _ (Builtin.SmallTypes.nextOf (.ref c.i1) >>= _) _ _ { s with heap := g0 })
  exact wpAny_bind (D1.done { s with heap := g0 } _ _ (D1.over st.1 hs0 ap.sep.zf1) fun q e hq he => hE q e (fun a u na x => hq _ _ (fun z => na (by simp [z, Wh.wr])) (hs0.extBut _ _ (fun z => na (by simp [z, Wh.wr])) x)) he)
theorem turn {Q : Option Value → Shared → Prop} (hh : A.handled = none) (ap : c.Ok S) (st : c.At i S s.heap) (hS : S < Ns s.heap) (hi : i < c.xs.size)
    (hQ : ∀ x y v h' tk, c.xs[i]? = some x → c.ys[i]? = some y → c.ws[i]? = some v → c.At (i + 1) S h' → IsTupOf3 h' (Ns s.heap) x y v → Ns h' = Ns s.heap + 1 → Stays c.wr s.heap h' → Q (some (.ref (Ns s.heap))) { s with heap := h', toks := tk }) :
    wpAny (model prog w) A (pyNext (.ref c.z)) Q E s := by
  have far : Ns s.heap ∉ S :: c.wr := fun m => by
    have lt : ∀ {a : Addr}, a < S → Ns s.heap ≠ a := fun h => Nat.ne_of_gt (Nat.lt_trans h hS)
    simp only [Wh.wr, List.mem_cons, List.not_mem_nil, or_false] at m
    rcases m with m | m | m | m | m | m
    · exact Nat.ne_of_gt hS m
    all_goals exact lt (ap.low _ (by simp)) m
  have nti : c.ti ∉ c.wr := fun m => by
    simp only [Wh.wr, List.mem_cons, List.not_mem_nil, or_false] at m
    rcases m with m | m | m | m | m
    · exact ap.sep.TIz m
    · exact ap.sep.TITO m
    · exact ap.sep.TIi1 m
    · exact ap.sep.TIi2 m
    · exact ap.sep.TIi3 m
  rcases st.zp with ⟨rfl, a, b⟩ | ⟨T, f, o, a, b, nT⟩
  · refine wpAny_pyNext_zipD3_item ap.sep (Draws.list (A := A.in1) hh c.i1 c.l1 ap.e1 c.xs) (Draws.list (A := A.in1) hh c.i2 c.l2 ap.e2 c.ys) (Draws.list (A := A.in1) hh c.i3 c.l3 ap.e3 c.ws) a st.ti b st.its.1 st.its.2.1 st.its.2.2 hi (by rw [ap.sy]; exact hi) (by rw [ap.sw]; exact hi)
      fun x y v h' tk hx hy hv u1 u2 u3 u4 u5 u6 u7 u8 => ?_
    have k : Stays c.wr s.heap h' := fun a u na => u8 a u (fun z => na (by simp [z, Wh.wr])) (fun z => na (by simp [z, Wh.wr])) (fun z => na (by simp [z, Wh.wr])) (fun z => na (by simp [z, Wh.wr])) (fun z => na (by simp [z, Wh.wr]))
    exact hQ x y v h' tk hx hy hv ⟨.inr ⟨_, false, _, u1, u6, far⟩, k _ _ nti st.ti, u3, u4, u5⟩ u6 u7 k
  · have ty : s.TypeIs (.ref c.z) "zip" := ⟨_, a, rfl⟩
    unfold pyNext
    refine wpAny_bind (wpAny_attempt (wpAny_callSpecial?_slot (name := Str.ofString "__next__") ty F.slot_zip_next (wpAny_call_entry F.slot_zip_next ty F.entry_zip_next ?_ (F.args_zip_next_1 _))))
    refine next_held (A := A.in1) hh ap a b st.ti st.its hi fun x y v h' tk hx hy hv u1 u2 u3 u4 u5 => wpAny_pure ?_
    exact hQ x y v h' tk hx hy hv ⟨.inr ⟨T, true, o, u1, u5 _ _ (fun z => nT (List.mem_cons_of_mem _ z)) b, nT⟩, u5 _ _ nti st.ti, u2⟩ u3 u4 u5
theorem over {Q : Option Value → Shared → Prop} (hh : A.handled = none) (ap : c.Ok S) (st : c.At c.xs.size S s.heap) (hQ : ∀ h' tk, Stays c.wr s.heap h' → Q none { s with heap := h', toks := tk }) :
    wpAny (model prog w) A (pyNext (.ref c.z)) Q E s := by
  rcases st.zp with ⟨e0, a, b⟩ | ⟨T, f, o, a, b, nT⟩
  · exact wpAny_pyNext_zipD3_end ap.sep (Draws.list (A := A.in1) hh c.i1 c.l1 ap.e1 c.xs) (Draws.list (A := A.in1) hh c.i2 c.l2 ap.e2 c.ys) (Draws.list (A := A.in1) hh c.i3 c.l3 ap.e3 c.ws) a st.ti b st.its.1 st.its.2.1 st.its.2.2 (Nat.le_refl _) (Nat.le_of_eq ap.sy.symm) (Nat.le_of_eq ap.sw.symm) (.inl rfl)
      fun h' tk k => hQ h' tk fun a u na => k a u (fun z => na (by simp [z, Wh.wr])) (fun z => na (by simp [z, Wh.wr])) (fun z => na (by simp [z, Wh.wr])) (fun z => na (by simp [z, Wh.wr])) (fun z => na (by simp [z, Wh.wr]))
  · have ty : s.TypeIs (.ref c.z) "zip" := ⟨_, a, rfl⟩
    unfold pyNext
    refine wpAny_bind (wpAny_attempt (wpAny_callSpecial?_slot (name := Str.ofString "__next__") ty F.slot_zip_next (wpAny_call_entry F.slot_zip_next ty F.entry_zip_next (end_held (A := A.in1) hh ap a b st.ti st.its fun h' e k ⟨u, hu, cu⟩ => ?_) (F.args_zip_next_1 _))))
    exact wpAny_bind (wpAny_isInstance (T := "StopIteration") (b := true) ⟨u, hu, cu⟩ isSubtype_stop (wpAny_pure (hQ h' _ k)))
theorem Wh.At.put {h h' : Heap} (st : c.At i S h) (ap : c.Ok S) (k : Stays [S] h h') : c.At i S h' := by
  have n : ∀ {a u}, a ∈ [c.z, c.ti, c.to, c.i1, c.i2, c.i3, c.l1, c.l2, c.l3] → h.get? a = some u → h'.get? a = some u := fun {a u} m e => k a u (fun z => Nat.ne_of_lt (ap.low a m) (List.mem_singleton.mp z)) e
  refine ⟨?_, n (by simp) st.ti, ⟨st.its.1.1.at fun u => n (by simp), st.its.1.2.at fun u => n (by simp)⟩, ⟨st.its.2.1.1.at fun u => n (by simp), st.its.2.1.2.at fun u => n (by simp)⟩, ⟨st.its.2.2.1.at fun u => n (by simp), st.its.2.2.2.at fun u => n (by simp)⟩⟩
  rcases st.zp with ⟨e, a, b⟩ | ⟨T, f, u, a, b, nT⟩
  · exact .inl ⟨e, n (by simp) a, n (by simp) b⟩
  · exact .inr ⟨T, f, u, n (by simp) a, k _ _ (fun z => nT (List.mem_cons.mpr (.inl (List.mem_singleton.mp z)))) b, nT⟩
end
def Wh.gave (c : Wh) (M i : Nat) (h : Heap) : Prop := ∀ j, j < i → ∃ x y v, c.xs[j]? = some x ∧ c.ys[j]? = some y ∧ c.ws[j]? = some v ∧ IsTupOf3 h (M + j) x y v
abbrev lsO (acc : Array Value) (k : Nat) : Obj := { cls := .type "list", dict := none, data := .seq acc k, slots := #[] }
def Wh.left (c : Wh) (M : Nat) (S : Addr) (h h' : Heap) : Prop := Stays (S :: c.wr) h h' ∧ (∃ acc k, h'.get? S = some (lsO acc k) ∧ acc.toList = (List.range' M c.xs.size).map fun a : Nat => Value.ref a) ∧ c.gave M c.xs.size h'
theorem nlt {a b : Nat} (h : a < b) : a ≠ b := Nat.ne_of_lt h
theorem nge {M S j : Nat} (h : S < M) : M + j ≠ S := by omega
section
variable {prog : Program} {w : World} {A : Around} {E : Value → Shared → Prop} {s : Shared} {c : Wh} {S : Addr} {R : Result → Shared → Prop}
theorem Wh.gave.on {M i : Nat} {h h' : Heap} {wr : List Addr} (g : c.gave M i h) (k : Stays wr h h') (n : ∀ j, j < i → M + j ∉ wr) : c.gave M i h' := fun j hj => by
  obtain ⟨x, y, v, a, b, d, e⟩ := g j hj
  exact ⟨x, y, v, a, b, d, k _ _ (n j hj) e⟩
theorem Wh.Ok.wlow (ap : c.Ok S) {a : Addr} (h : a ∈ S :: c.wr) : a ≤ S := by
  simp only [Wh.wr, List.mem_cons, List.not_mem_nil, or_false] at h
  rcases h with h | h | h | h | h | h
  · exact Nat.le_of_eq h
  all_goals exact Nat.le_of_lt (h ▸ ap.low _ (by simp))
theorem loop (hh : A.handled = none) (ap : c.Ok S) (hn : c.xs.size ≤ sizeLine) (res : Value) {h0 : Heap} {M : Nat} (hM : S < M) (hR : ∀ h' tk, c.left M S h0 h' → R (.ok (.ret res)) { s with heap := h', toks := tk }) :
    ∀ (k i : Nat) (h : Heap) (tk n : Nat) (acc : Array Value), c.xs.size = i + k → c.At i S h → Stays (S :: c.wr) h0 h → h.get? S = some (lsO acc n) → acc.toList = ((List.range' M i).map fun a : Nat => Value.ref a) → c.gave M i h → Ns h = M + i →
      codeAny (model prog w) A (.builtin "list.extend.loop" ⟨[.ref S, .ref c.z, res], []⟩) R { s with heap := h, toks := tk }
  | 0, i, h, tk, n, acc, hk, st, ks, hS, ha, hg, hs => by
    have e : i = c.xs.size := by omega
    subst e
    refine codeAny_builtin F.entry_extend_loop (Around.under_plainId (A := A) F.plain_extend_loop _ ▸ ?_)
    refine (show wpAny _ A.in1 (pyNext (.ref c.z) >>= _) _ _ _ from wpAny_bind (over (s := { s with heap := h, toks := tk }) (A := A.in1) hh ap st fun h' tk' k' => wpAny_pure (hR h' tk' ⟨fun a u na x => k' a u (fun z => na (List.mem_cons_of_mem _ z)) (ks a u na x), ⟨acc, n, k' _ _ (fun z => ?_) hS, ha⟩, hg.on k' fun j _ z => ?_⟩)))
    · have lw : ∀ a ∈ c.wr, a < S := fun a m => by
        simp only [Wh.wr, List.mem_cons, List.not_mem_nil, or_false] at m
        rcases m with m | m | m | m | m
        all_goals exact m ▸ ap.low _ (by simp)
      exact Nat.lt_irrefl _ (lw _ z)
    · exact absurd (ap.wlow (List.mem_cons_of_mem _ z)) (by have : S < M + j := Nat.lt_of_lt_of_le hM (Nat.le_add_right _ _); exact Nat.not_le.mpr this)
  | k + 1, i, h, tk, n, acc, hk, st, ks, hS, ha, hg, hs => by
    have al : acc.size = i := by rw [← Array.length_toList, ha, List.length_map, List.length_range']
    have hi : i < c.xs.size := by omega
    have sS : S ∉ c.wr := fun m => by
      simp only [Wh.wr, List.mem_cons, List.not_mem_nil, or_false] at m
      rcases m with m | m | m | m | m
      all_goals exact nlt (ap.low _ (by simp)) m.symm
    refine codeAny_builtin F.entry_extend_loop (Around.under_plainId (A := A) F.plain_extend_loop _ ▸ ?_)
    refine (show wpAny _ A.in1 (pyNext (.ref c.z) >>= _) _ _ _ from wpAny_bind (turn (s := { s with heap := h, toks := tk }) (A := A.in1) hh ap st (Heap.lt_size hS) hi fun x y v h' tk' hx hy hv st' ht hz k' => ?_))
    dsimp only at ht hz k'
    rw [hs] at ht hz ⊢
    have hS' := k' _ _ sS hS
    have hw := Heap.get?_update_self (Obj.mapSeq (·.push (Value.ref (M + i)))) hS' rfl
    have kw : Stays [S] h' (h'.update S (Obj.mapSeq (·.push (Value.ref (M + i))))) := fun a u na e => (Heap.get?_update_other _ _ fun z : S = a => na (List.mem_singleton.mpr z.symm)).trans e
    refine wpAny_bind (wpAny_updateSeq hS' rfl (wpAny_pure ⟨plainId_quiet F.plain_extend_loop _, loop hh ap hn res hM hR k (i + 1) _ tk' _ (acc.push (Value.ref (M + i))) (by omega) (st'.put ap kw) (fun a u na e => kw _ _ (fun z => na (by simp [List.mem_singleton.mp z])) (k' _ _ (fun z => na (List.mem_cons_of_mem _ z)) (ks a u na e))) hw ?_ ?_ ?_⟩) (by rw [al]; omega) (by show (acc.push (Value.ref (M + i))).size ≤ sizeLine + 1; rw [Array.size_push, al]; omega))
    · rw [Array.toList_push, ha, List.range'_concat, List.map_append, Nat.one_mul]
      rfl
    · intro j hj
      rcases Nat.lt_or_ge j i with q | q
      · exact ((hg.on k' fun j _ z => absurd (ap.wlow (List.mem_cons_of_mem _ z)) (Nat.not_le.mpr (Nat.lt_of_lt_of_le hM (Nat.le_add_right _ _)))).on kw fun j _ z => nge hM (List.mem_singleton.mp z)) j q
      · obtain rfl : j = i := by omega
        exact ⟨x, y, v, hx, hy, hv, kw _ _ (fun z => nge hM (List.mem_singleton.mp z)) ht⟩
    · show (h'.update S _).objs.size = _
      rw [Heap.size_update]
      exact hz
theorem call_list {Q : Value → Shared → Prop} (hh : A.handled = none) (ap : c.Ok (Ns s.heap)) (hn : c.xs.size ≤ sizeLine) (st : c.At 0 (Ns s.heap) s.heap) (hz : IsZip s.heap c.z c.ti c.to .none) (hQ : ∀ h' tk, c.left (Ns s.heap + 1) (Ns s.heap) s.heap h' → Q (.ref (Ns s.heap)) { s with heap := h', toks := tk }) :
    wpAny (model prog w) A (call (.type "list") [.ref c.z]) Q E s := by
  refine callType_codes (Q₁ := fun v t => v = .ref (Ns s.heap) ∧ t = { s with heap := s.heap.push (lsO #[] 0) }) F.called_list (F.typeCall_list_1 _) F.entry_list_init (code_list_new _ ⟨rfl, rfl⟩) fun v t e => ?_
  obtain ⟨e1, e2⟩ := e
  subst e1 e2
  obtain ⟨S, eS⟩ : ∃ S, S = Ns s.heap := ⟨_, rfl⟩
  rw [← eS] at ap st hQ ⊢
  have b1 : (s.heap.push (lsO #[] 0)).get? S = some (lsO #[] 0) := eS ▸ Heap.get?_push_size _ rfl
  have n1 : Ns (s.heap.push (lsO #[] 0)) = S + 1 := eS ▸ Heap.size_push ..
  have k1 : Stays [S] s.heap (s.heap.push (lsO #[] 0)) := fun a u _ e => Heap.get?_push_of_some _ e
  have zs : c.z ≠ S := nlt (ap.low _ (by simp))
  have keep : ∀ {h h' : Heap}, (Ns h = S + 1 ∧ Stays [S] s.heap h) → Ns h' = Ns h → Stays [S] h h' → Ns h' = S + 1 ∧ Stays [S] s.heap h' := fun a b d => ⟨b.trans a.1, fun x u n e => d x u n (a.2 x u n e)⟩
  have wr : ∀ (h : Heap) (g : Obj → Obj), Stays [S] h (h.update S g) := fun h g a u na e => (Heap.get?_update_other _ _ fun z : S = a => na (List.mem_singleton.mpr z.symm)).trans e
  have sz : ∀ (h : Heap) (g : Obj → Obj), Ns (h.update S g) = Ns h := fun h g => Heap.size_update h S g
  -- the loop, from a heap in which the list is empty
  have go : ∀ (h : Heap) (n : Nat), Ns h = S + 1 ∧ Stays [S] s.heap h → h.get? S = some (lsO #[] n) → codeAny (model prog w) A.in1 (.builtin "list.extend.loop" ⟨[.ref S, .ref c.z, .none], []⟩) (wants (fun r t => r = Value.none ∧ Q (.ref S) t) E) { s with heap := h } := fun h n a b =>
    loop (s := s) (A := A.in1) (h0 := s.heap) (M := S + 1) hh ap hn .none (Nat.lt_succ_self _) (fun h' tk l => ⟨rfl, hQ h' tk l⟩) c.xs.size 0 h s.toks n #[] (by omega) (st.put ap a.2) (fun x u m e => a.2 x u (fun z => m (by simp [List.mem_singleton.mp z])) e) b rfl (fun j hj => absurd hj (Nat.not_lt_zero _)) a.1
  refine ⟨⟨_, b1, rfl⟩, F.args_list_init_2 _ _, ?_⟩
  (show wpAny _ _ (Builtin.List.listItems (.ref S) >>= fun old => updateSeq S (fun _ => #[]) >>= fun _ => letGo old.toList.reverse >>= fun _ => Builtin.List.listExtendWith (.ref S) (.ref c.z) .none) _ _ _)
  unfold Builtin.List.listItems Builtin.List.listExtendWith Builtin.List.listLengthHint
  have b2 := Heap.get?_update_self (Obj.mapSeq fun _ => (#[] : Array Value)) b1 rfl
  obtain ⟨h2, eh2⟩ : ∃ h2, h2 = (s.heap.push (lsO #[] 0)).update S (Obj.mapSeq fun _ => (#[] : Array Value)) := ⟨_, rfl⟩
  have a2 := keep ⟨n1, k1⟩ (sz _ _) (wr _ (Obj.mapSeq fun _ => (#[] : Array Value)))
  refine wpAny_bind (wpAny_bind (wpAny_seqItems b1 rfl (wpAny_pure (wpAny_bind (wpAny_updateSeq b1 rfl (wpAny_bind (wpAny_letGo ?_)))))))
  rw [← eh2] at a2 b2 ⊢
  have z2 : IsZip h2 c.z c.ti c.to .none := a2.2 _ _ (fun z => zs (List.mem_singleton.mp z)) hz
  have ty : Shared.TypeIs { s with heap := h2 } (.ref c.z) "zip" := ⟨_, z2, rfl⟩
  refine wpAny_bind (wpAny_typeOf ty ?_)
  rw [if_neg (by simp [Builtin.List.listSameRef, Ne.symm zs])]
  refine wpAny_bind (wpAny_pyIter_zip z2 (wpAny_bind (wpAny_holding (wpAny_bind (wpAny_specialOf ty nolen ?_)))))
  refine (show wpAny _ _ (specialOf (.ref c.z) (Str.ofString "__length_hint__") >>= _) _ _ _ from wpAny_bind (wpAny_specialOf ty nolen (wpAny_pure ?_)))
  have w3 := wr h2 (Obj.mapSeq (·.push Value.none))
  have b3 := Heap.get?_update_self (Obj.mapSeq (·.push Value.none)) b2 rfl
  have b4 := Heap.get?_update_self (Obj.mapSeq (·.pop)) b3 rfl
  have a4 := keep (keep a2 (sz _ _) w3) (sz _ _) (wr _ (Obj.mapSeq (·.pop)))
  refine (show wpAny _ _ (rule "list.extend.makes-room" >>= fun _ => (updateSeq S (·.push .none) >>= fun _ => updateSeq S (·.pop)) >>= fun _ => again _) _ _ _ from wpAny_bind (wpAny_rule (wpAny_bind (wpAny_bind (wpAny_updateSeq b2 rfl ?_)))))
  exact wpAny_updateSeq (hz := by seq_fits) b3 rfl (wpAny_pure ⟨plainId_quiet F.plain_extend_loop _, go _ _ a4 b4⟩)
end
end Z3
namespace Z3
open PySem PySem.Spec PyProof.Rows L2
abbrev Tri : Type := V × V × V
abbrev tri3 (q : Tri) : HO := .tup [q.1, q.2.1, q.2.2]
def putZ (H : Hp) (S : Nat) (l : List Tri) : Hp := fun b : Nat => if b = S then some (.lst ((List.range' (S + 1) l.length).map V.ref)) else if S < b then (match l[b - (S + 1)]? with
  | some q => some (tri3 q)
  | none => H b) else H b
theorem putZ_S {H : Hp} {S : Nat} {l : List Tri} : putZ H S l S = some (.lst ((List.range' (S + 1) l.length).map V.ref)) := if_pos rfl
theorem putZ_T {H : Hp} {S j : Nat} {l : List Tri} {q : Tri} (h : l[j]? = some q) : putZ H S l (S + 1 + j) = some (tri3 q) := by
  unfold putZ
  rw [if_neg (by omega), if_pos (by omega), show S + 1 + j - (S + 1) = j by omega, h]
theorem putZ_cases (H : Hp) (S : Nat) (l : List Tri) (b : Nat) : b = S ∨ (∃ j q, b = S + 1 + j ∧ l[j]? = some q) ∨ (putZ H S l b = H b) := by
  by_cases h1 : b = S
  · exact .inl h1
  · by_cases h2 : S < b
    · cases e : l[b - (S + 1)]? with
      | some q => exact .inr (.inl ⟨b - (S + 1), q, by omega, e⟩)
      | none =>
        refine .inr (.inr ?_)
        unfold putZ
        rw [if_neg h1, if_pos h2, e]
    · refine .inr (.inr ?_)
      unfold putZ
      rw [if_neg h1, if_neg h2]
theorem putZ_old {H : Hp} {S : Nat} {l : List Tri} {u : HO} {b : Addr} (new : ∀ b : Nat, S ≤ b → H b = none) (e : H b = some u) : putZ H S l b = some u := by
  have lt : ¬ S ≤ b := fun z => by rw [new b z] at e; cases e
  unfold putZ
  rw [if_neg (by omega), if_neg (by omega)]
  exact e
theorem vrefs : ∀ (n M : Nat), Vals ((List.range' M n).map V.ref) ((List.range' M n).map fun a : Nat => Value.ref a)
  | 0, _ => .nil
  | n + 1, M => .cons rfl (vrefs n (M + 1))
theorem laid {X : Cx} {pins : List (Addr × Obj)} {σ : L2.St} {H : Hp} {s : Shared} {h' : Heap} {tk S : Nat} {c : Wh} {xs ys zs : List V} {j1 j2 j3 : List Value} (I : Inv X pins σ H s) (hS : Ns s.heap ≤ S) (hz : xs.length ≤ sizeLine) (e1 : ys.length = xs.length) (e2 : zs.length = xs.length)
    (v1 : Vals xs j1) (v2 : Vals ys j2) (v3 : Vals zs j3) (c1 : c.xs = j1.toArray) (c2 : c.ys = j2.toArray) (c3 : c.ws = j3.toArray) (old : ∀ b o, s.heap.get? b = some o → h'.get? b = some o) (lf : c.left (S + 1) S s.heap h') :
    Inv X pins σ (putZ H S (xs.zip (ys.zip zs))) { s with heap := h', toks := tk } ∧ ∀ b : Nat, S ≤ b → H b = none := by
  obtain ⟨_, ⟨acc, n, hl, ha⟩, hg⟩ := lf
  have ln : (xs.zip (ys.zip zs)).length = c.xs.size := by
    rw [c1, List.length_zip, List.length_zip, e1, e2, List.size_toArray, ← Paired.length v1]
    omega
  have new : ∀ b : Nat, S ≤ b → H b = none := fun b h => I.hok.fresh (Nat.le_trans hS h)
  have up : ∀ {b : Addr} {u : HO}, H b = some u → putZ H S (xs.zip (ys.zip zs)) b = some u := fun e => putZ_old new e
  refine ⟨I.call' (ch := []) rfl ?un ?ok I.bare (fun b z => nomatch z), new⟩
  case un =>
    constructor
    all_goals intros
    all_goals first
      | exact old _ _ (by assumption)
      | exact ⟨_, old _ _ (by assumption)⟩
      | exact up (by assumption)
      | exact ⟨#[], (up (by assumption)).trans (by simp)⟩
      | (rename_i b o q n _
         have lt : b < S := Nat.lt_of_lt_of_le (Heap.lt_size q) hS
         unfold putZ
         rw [if_neg (Nat.ne_of_lt lt), if_neg (Nat.not_lt.mpr (Nat.le_of_lt lt))]
         exact n)
  case ok =>
    intro b u q
    rcases putZ_cases H S (xs.zip (ys.zip zs)) b with rfl | ⟨j, p, rfl, hj⟩ | e
    · rw [putZ_S] at q
      cases q
      refine ⟨by rw [List.length_map, List.length_range', ln, c1, List.size_toArray, ← Paired.length v1]; exact hz, acc.toList, n, by rw [ha, ln]; exact vrefs _ _, ?_⟩
      rw [Array.toArray_toList]
      exact hl
    · rw [putZ_T hj] at q
      cases q
      obtain ⟨x, y, v, g1, g2, g3, g4⟩ := hg j (by rw [← ln]; exact (List.getElem?_eq_some_iff.mp hj).1)
      obtain ⟨m1, m⟩ := List.getElem?_zip_eq_some.mp hj
      obtain ⟨m2, m3⟩ := List.getElem?_zip_eq_some.mp m
      rw [c1, List.getElem?_toArray] at g1
      rw [c2, List.getElem?_toArray] at g2
      rw [c3, List.getElem?_toArray] at g3
      obtain ⟨_, f1, r1⟩ := L2.paired_get v1 m1
      obtain ⟨_, f2, r2⟩ := L2.paired_get v2 m2
      obtain ⟨_, f3, r3⟩ := L2.paired_get v3 m3
      rw [f1] at g1
      rw [f2] at g2
      rw [f3] at g3
      cases g1
      cases g2
      cases g3
      exact ⟨by show 3 ≤ sizeLine; decide, [x, y, v], .cons r1 (.cons r2 (.cons r3 .nil)), ⟨_, g4, rfl, _, rfl⟩⟩
    · rw [e] at q
      exact (I.hok b u q).stay (fun d v _ y => old d v y) (fun d y => up y) fun d xs y => up y
end Z3
namespace Z3
open PySem PySem.Spec PyProof.Rows L2
def tListZ3 (K : PySem.W.Frag) (ta : TA) : TE := fun σ H Q => ta σ H fun vs H1 => ∃ (a b e : Addr) (xs ys zs : List V), vs = [.ref a, .ref b, .ref e] ∧ SqL K H1 a xs ∧ SqL K H1 b ys ∧ SqL K H1 e zs ∧ ys.length = xs.length ∧ zs.length = xs.length ∧
  ∀ S : Nat, (∀ b : Nat, S ≤ b → H1 b = none) → Q (.ref S) (putZ H1 S (xs.zip (ys.zip zs)))
theorem apart {N a b c : Nat} (la : a < N) (lb : b < N) (lc : c < N) : a ≠ N ∧ b ≠ N + 1 ∧ c ≠ N + 2 ∧ ∀ d ∈ [N + 5, N + 3, N + 4, N, N + 1, N + 2, a, b, c], d < N + 6 := by
  refine ⟨by omega, by omega, by omega, fun d h => ?_⟩
  simp only [List.mem_cons, List.not_mem_nil, or_false] at h
  omega
theorem below {N a : Nat} (h : a < N) : a ∉ [N + 6, N + 5, N + 4, N, N + 1, N + 2] := fun m => by
  simp only [List.mem_cons, List.not_mem_nil, or_false] at m
  omega
theorem pe_listZ3 {X : Cx} {e e2 e3 : Expr} {ta : TA} {p p2 pos pos2 : Pos} (hc : X.calm = true) (hg : Gl X "list") (hm : X.mg "list" = none) (hg2 : Gl X "zip") (hm2 : X.mg "zip" = none) (ha : PA X [e, e2, e3] ta)
    (na : starEach [.Call (.Name "zip" p2) [e, e2, e3] [] pos2] X.env = (false, eval (.Call (.Name "zip" p2) [e, e2, e3] [] pos2) X.env) :: starEach [] X.env := by rfl)
    (hs : starEach [e, e2, e3] X.env = (false, eval e X.env) :: starEach [e2, e3] X.env := by rfl) (hpl : (backTo pos2 (starEach [e2, e3] X.env)).any (·.1) = false := by rfl) :
    PE X (.Call (.Name "list" p) [.Call (.Name "zip" p2) [e, e2, e3] [] pos2] [] pos) (tListZ3 X.K ta) := by
  refine ⟨fun pins s σ H Q I h => ?_⟩
  refine Call_ (ld_blt I hg hm boot_list (PyProof.Rows.callWith_type1 (args_cons ?_ na) na))
  refine Call_ (ld_blt I hg2 hm2 PyProof.Rows.boot_zip (PyProof.Rows.callWith_type1 (thn (ha.run pos2 pins s σ H _ I h) fun us s1 ⟨vs, H1, J, r1, qq⟩ => ?_) hs hpl))
  obtain ⟨a, b, d, xs, ys, zs, ex, q1, q2, q3, n1, n2, q⟩ := qq
  subst ex
  rcases r1 with _ | ⟨r, _ | ⟨r', _ | ⟨r'', _ | _⟩⟩⟩
  · cases r
    cases r'
    cases r''
    obtain ⟨j1, v1, p1, hz⟩ := J.list q1
    obtain ⟨j2, v2, p2, _⟩ := J.list q2
    obtain ⟨j3, v3, p3, _⟩ := J.list q3
    have k1 : j1.length = xs.length := (Paired.length v1).symm
    have k2 : j2.length = j1.length := by rw [← Paired.length v2, n1, k1]
    have k3 : j3.length = j1.length := by rw [← Paired.length v3, n2, k1]
    have ap := apart p1.lt p2.lt p3.lt
    refine zip_begins3 (begins_list a j1.toArray) (begins_list b j2.toArray) (begins_list d j3.toArray) p1.isList p2.isList p3.isList fun h' hzz hTI hTO h1 h2 h3 hsz hk => args_nil ?_
    have lz : ∀ {x : Addr} {u : Obj}, s1.heap.get? x = some u → x < s1.heap.objs.size := fun e => Heap.lt_size e
    have la := p1.lt
    have lb := p2.lt
    have lc := p3.lt
    have fr : ∀ x : Nat, s1.heap.objs.size ≤ x → True := fun _ _ => trivial
    obtain ⟨N, eN⟩ : ∃ N : Nat, N = s1.heap.objs.size := ⟨_, rfl⟩
    rw [← eN] at ap hzz hTI hTO h1 h2 h3 hsz lz la lb lc ⊢
    have hS := hsz.symm
    obtain ⟨c, ec⟩ : ∃ c : Wh, c = ⟨N + 5, N + 3, N + 4, N, N + 1, N + 2, a, b, d, j1.toArray, j2.toArray, j3.toArray⟩ := ⟨_, rfl⟩
    have ok : c.Ok (N + 6) := by
      rw [ec]
      exact ⟨zip_sep3 (fun x m => List.mem_singleton.mp m ▸ la) (fun x m => List.mem_singleton.mp m ▸ lb) (fun x m => List.mem_singleton.mp m ▸ lc), ap.2.2.2, ap.1, ap.2.1, ap.2.2.1, k2, k3⟩
    have st : c.At 0 (N + 6) h' := by
      rw [ec]
      exact ⟨.inl ⟨rfl, hzz, hTO⟩, hTI, ⟨⟨_, h1, rfl, rfl⟩, p1.isList.at fun o e => hk _ o e⟩, ⟨⟨_, h2, rfl, rfl⟩, p2.isList.at fun o e => hk _ o e⟩, ⟨⟨_, h3, rfl, rfl⟩, p3.isList.at fun o e => hk _ o e⟩⟩
    have hzz' : IsZip h' c.z c.ti c.to .none := by rw [ec]; exact hzz
    have nn : c.xs.size ≤ sizeLine := by
      rw [ec]
      show j1.toArray.size ≤ sizeLine
      rw [List.size_toArray, k1]
      exact hz
    have bl : ∀ {x : Nat}, x < N → x ∉ (N + 6) :: c.wr := fun h => by rw [ec]; exact below h
    have e1 : c.xs = j1.toArray := by rw [ec]
    have e2 : c.ys = j2.toArray := by rw [ec]
    have e3 : c.ws = j3.toArray := by rw [ec]
    have ez : (N + 5 : Nat) = c.z := by rw [ec]
    clear ec
    rw [ez]
    have key := call_list (prog := X.prog) (w := X.w) (A := X.A) (E := X.xe) (s := { s1 with heap := h' }) (c := c) (Q := EP X pins σ Q) (J.ok.hd hc)
    dsimp only [Ns] at key
    rw [hsz] at key
    refine key ok nn st hzz' fun g2 tk lf => ?_
    have lf2 : c.left (N + 6 + 1) (N + 6) s1.heap g2 := ⟨fun x u n e => lf.1 x u n (hk x u e), lf.2⟩
    have old : ∀ x u, s1.heap.get? x = some u → g2.get? x = some u := fun x u e => lf2.1 x u (bl (lz e)) e
    obtain ⟨J2, new⟩ := laid (tk := tk) J (by show s1.heap.objs.size ≤ N + 6; rw [← eN]; exact Nat.le_add_right _ _) hz n1 n2 v1 v2 v3 e1 e2 e3 old lf2
    exact ⟨.ref _, _, J2, rfl, q _ new⟩
end Z3
namespace DL
open PySem PySem.Spec PyProof.Rows L2
section
variable {X : Cx} {c : Cc} {W : WX} {s : S} {a b e : Expr} {pos : Pos}
def zip3D (l m n : List D) : List D := (l.zip (m.zip n)).map fun z => D.tup [z.1, z.2.1, z.2.2]
inductive LzR (c : Cc) (d1 d2 d3 : D) : S → (D → S → Prop) → Prop
  | mk {l m n : List D} {s : S} {Φ : D → S → Prop} (h1 : Sl c s d1 l) (h2 : Sl c s d2 m) (h3 : Sl c s d3 n) (e1 : m.length = l.length) (e2 : n.length = l.length) (k : ∀ p, p ∉ c.O0 → Φ (.ref p) (@S.mk s.δ ((p, zip3D l m n) :: s.ω) s.ι)) : LzR c d1 d2 d3 s Φ
theorem rpl_tri {K : PySem.W.Frag} {A : Addr → Prop} {H : Hp} : ∀ {l m n : List D} {xs ys zs : List V} {M : Nat}, RpL K A H l xs → RpL K A H m ys → RpL K A H n zs → m.length = l.length → n.length = l.length → (∀ j q, (xs.zip (ys.zip zs))[j]? = some q → H (M + j) = some (Z3.tri3 q)) →
    RpL K A H (zip3D l m n) ((List.range' M (xs.zip (ys.zip zs)).length).map V.ref)
  | [], m, n, xs, ys, zs, M, h1, _, _, _, _, _ => by
    have : xs = [] := by simpa [RpL] using h1
    subst this
    exact RpL.nil
  | d :: l, [], n, xs, ys, zs, M, _, _, _, e1, _, _ => by simp at e1
  | d :: l, f :: m, [], xs, ys, zs, M, _, _, _, _, e2, _ => by simp at e2
  | d :: l, f :: m, g :: n, xs, ys, zs, M, h1, h2, h3, e1, e2, h => by
    unfold RpL at h1 h2 h3
    obtain ⟨x, xr, rfl, r1, t1⟩ := h1
    obtain ⟨y, yr, rfl, r2, t2⟩ := h2
    obtain ⟨z, zr, rfl, r3, t3⟩ := h3
    have ih := rpl_tri (M := M + 1) t1 t2 t3 (by simpa using e1) (by simpa using e2) fun j q hq => by
      have := h (j + 1) q hq
      rwa [show M + (j + 1) = M + 1 + j by omega] at this
    refine RpL.cons (d := D.tup [d, f, g]) ?_ ih
    unfold Rp
    exact ⟨M, _, rfl, h 0 _ rfl, .cons r1 (.cons r2 (.one r3))⟩
theorem ew_listZ3 {p p2 pos2 : Pos} {Φ : D → S → Prop} {Ξ : PX} (hc : X.calm = true) (hm : X.mg "list" = none) (hm2 : X.mg "zip" = none) (h : EW X c W s (fun d1 s1 => EW X c W s1 (fun d2 s2 => EW X c W s2 (fun d3 s3 => LzR c d1 d2 d3 s3 Φ) Ξ e) Ξ b) Ξ a)
    (hg : Gl X "list" := by rfl) (hg2 : Gl X "zip" := by rfl) (na : starEach [.Call (.Name "zip" p2) [a, b, e] [] pos2] X.env = (false, eval (.Call (.Name "zip" p2) [a, b, e] [] pos2) X.env) :: starEach [] X.env := by rfl)
    (hs : starEach [a, b, e] X.env = (false, eval a X.env) :: starEach [b, e] X.env := by rfl) (hs2 : starEach [b, e] X.env = (false, eval b X.env) :: starEach [e] X.env := by rfl) (hs3 : starEach [e] X.env = (false, eval e X.env) :: starEach [] X.env := by rfl)
    (hpl : (backTo pos2 (starEach [b, e] X.env)).any (·.1) = false := by rfl) : EW X c W s Φ Ξ (.Call (.Name "list" p) [.Call (.Name "zip" p2) [a, b, e] [] pos2] [] pos) :=
  PE.mono (Z3.pe_listZ3 hc hg hm hg2 hm2 (pa_cons pe_any (pa_cons pe_any (pa_cons pe_any pa_nil hs3) hs2) hs) na hs hpl) fun σ H Q ⟨τ, e0, k, hx⟩ => h.use e0 (fun v1 d1 s1 H1 h1 e1 => h1.use e1 (fun v2 d2 s2 H2 h2 e2 => h2.use e2 (fun v3 d3 s3 H3 h3 e3 => by
    cases h3 with
    | @mk l m n _ _ g1 g2 g3 n1 n2 q =>
      obtain ⟨A, z, rl⟩ := id e3
      obtain ⟨a1, xs, rfl, x1, x2⟩ := g1.rd z rl (z.tmp _ _ (List.mem_cons_of_mem _ (List.mem_cons_of_mem _ List.mem_cons_self)))
      obtain ⟨a2, ys, rfl, y1, y2⟩ := g2.rd z rl (z.tmp _ _ (List.mem_cons_of_mem _ List.mem_cons_self))
      obtain ⟨a3, zs, rfl, z1, z2⟩ := g3.rd z rl (z.tmp _ _ List.mem_cons_self)
      refine ⟨a1, a2, a3, xs, ys, zs, rfl, x1, y1, z1, by rw [x2.len, y2.len, n1], by rw [x2.len, z2.len, n2], fun S new => ?_⟩
      have sm : Same H3 (Z3.putZ H3 S (xs.zip (ys.zip zs))) := fun b u e => Z3.putZ_old new e
      obtain ⟨ze, re⟩ := SE.grow (A' := fun _ => False) z rl sm (fun _ f => f.elim) fun _ f => f.elim
      have kk : Keeps A H3 (Z3.putZ H3 S (xs.zip (ys.zip zs))) := Keeps.same sm
      have sb : ∀ a, A a → (A a ∨ False) := fun _ h => .inl h
      have rz := rpl_tri (M := S + 1) (RpL.mono sb kk _ _ x2) (RpL.mono sb kk _ _ y2) (RpL.mono sb kk _ _ z2) n1 n2 fun j q hq => Z3.putZ_T hq
      obtain ⟨w1, w2⟩ := SE.gain (p := S) ze re rl.there (fun q ds hq => let ⟨⟨xs, o, _⟩, _⟩ := z.own q ds hq; ⟨_, o⟩) rl.keep (new S (Nat.le_refl _)) (fun f => f.elim (fun f => by
        obtain ⟨o, h⟩ := z.dom S f
        rw [new S (Nat.le_refl _)] at h
        cases h) id) Z3.putZ_S rz
      exact k _ _ _ _ (q S w2) (w1.sub fun x hx => (List.mem_cons.mp hx).elim (fun z => z ▸ List.mem_cons_self) fun z => List.mem_cons_of_mem _ (List.mem_cons_of_mem _ (List.mem_cons_of_mem _ (List.mem_cons_of_mem _ z))))) fun cls x dd s' H' p q => hx cls x dd s' H' p q.pop.pop) fun cls x dd s' H' p q => hx cls x dd s' H' p q.pop) hx
end
end DL

namespace DL
open PySem PySem.Spec PyProof.Rows L2
section
variable {X : Cx} {c : Cc} {W : WX} {s : S} {Φ : D → S → Prop} {Φb : Bool → S → Prop} {Ξ : PX} {a b : Expr} {pos ps : Pos} {x : Str} {p : Addr} {l : List Int}
inductive InG (neg : Bool) (p : Addr) (l : List Int) : D → D → S → (D → S → Prop) → Prop
  | mk {i : Int} {s : S} {Φ : D → S → Prop} (k : Φ (.bl (if neg then !decide (i ∈ l) else decide (i ∈ l))) s) : InG neg p l (.int i) (.ref p) s Φ
theorem od_inG {K : PySem.W.Frag} {neg : Bool} (h : ∀ H, SqT K H p (l.map V.int)) : OpD K c (rIn K neg) (InG neg p l) := fun σ H s τ v1 v2 d1 d2 Φ Q e r k => by
  cases r with
  | @mk i _ _ q =>
    obtain ⟨A, z, rl⟩ := id e
    have e2 : v2 = .ref p := by
      have q := z.tmp v2 _ List.mem_cons_self
      unfold Rp at q
      exact q
    have e1 := (z.tmp v1 _ (List.mem_cons_of_mem _ List.mem_cons_self)).int_
    subst e1 e2
    refine ⟨p, _, rfl, .inr (h H), rfl, all_flat l, ?_⟩
    rw [inV_ints]
    exact k _ _ s H q (e.drop2.atom rfl)
theorem ew_notinG (hm : X.mg x = some (.ref p)) (ht : ∀ H, SqT X.K H p (l.map V.int)) (h : EW X c W s (fun d1 s1 => InG true p l d1 (.ref p) s1 Φ) Ξ a) (hg : Gl X x := by rfl) (hdb : (x == ("__debug__" : Str)) = false := by decide) (hk : behindInMarks .NotIn (.Name x ps) = false := by first | exact nomark _ | rfl) :
    EW X c W s Φ Ξ (.Compare a [.NotIn] [.Name x ps] pos) := ew_cmp op_notIn_seq (od_inG ht) hk (h.imp fun d s' q => ew_gcls hm q hg hdb)
theorem bw_notinG (hm : X.mg x = some (.ref p)) (ht : ∀ H, SqT X.K H p (l.map V.int)) (h : EW X c W s (fun d1 s1 => InG true p l d1 (.ref p) s1 fun d s3 => ∃ b, d = .bl b ∧ Φb b s3) Ξ a) (hg : Gl X x := by rfl) (hdb : (x == ("__debug__" : Str)) = false := by decide) (hk : behindInMarks .NotIn (.Name x ps) = false := by first | exact nomark _ | rfl) :
    BW X c W s Φb Ξ (.Compare a [.NotIn] [.Name x ps] pos) := bw_cmp op_notIn_seq (od_inG ht) hk (h.imp fun d s' q => ew_gcls hm q hg hdb)
end
end DL

namespace DL
open PySem PySem.Spec PyProof.Rows L2
section
variable {X : Cx} {c : Cc} {W : WX} {s : S} {N : List Str} {x1 x2 x3 x4 x5 : Str} {nx bk ct : S → Prop} {rt : D → S → Prop} {ex : PX} {Φ : D → S → Prop} {Ξ : PX} {iter e o : Expr} {pos apos : Pos} {body : List Stmt}
inductive ExtR (c : Cc) : D → D → S → (S → Prop) → Prop
  | mk {p : Addr} {l m : List D} {j : Nat} {s : S} {Φ : S → Prop} {ω' : List (Addr × List D)} (ha : At s.ω j (p, l)) (hl : l.length + m.length ≤ 16777216) (hp : Pt s.ω j (p, l ++ m) ω') (k : Φ (@S.mk s.δ ω' s.ι)) : ExtR c (.ref p) (.lst m) s Φ
theorem ew_extend (h : EW X c W s (fun d1 s1 => (∃ p l, d1 = .ref p ∧ Mem s1.ω (p, l)) ∧ EW X c W s1 (fun d2 s2 => ExtR c d1 d2 s2 (Φ .non)) Ξ e) Ξ o)
    (hbase : attributeBase o "extend" X.env (eval o X.env) = eval o X.env := by rfl)
    (hfew : ((backTo pos (starEach [e] X.env)).all (fun x => !x.1) && (backToKw pos (keywordEach [] X.env)).all (fun x => x.1.isSome) && decide (([e] : List Expr).length + ([] : List Keyword).length + (if ([] : List Keyword).isEmpty then 0 else 1) < 30)) = true := by rfl)
    (hline : (apos.endLine == pos.line) = true := by rfl) (hs : starEach [e] X.env = (false, eval e X.env) :: starEach [] X.env := by rfl) (hplain : (backTo pos (starEach [] X.env)).any (·.1) = false := by rfl) :
    EW X c W s Φ Ξ (.Call (.Attribute o "extend" apos) [e] [] pos) :=
  PE.mono (pe_bm PySem.F.plainAttrs_list PySem.F.slot_list_extend PySem.F.type_list_extend mt_extend pe_any (pa_cons pe_any pa_nil hs) hbase hfew hline hs hplain) fun σ H Q ⟨τ, e0, k, hx⟩ => h.use e0 (fun v1 d1 s1 H1 ⟨⟨p, l, ed, hm⟩, h1⟩ e1 => by
    subst ed
    obtain ⟨A, z, rl⟩ := id e1
    obtain ⟨⟨xs, q1, _⟩, _⟩ := z.own p l hm.mem
    have r1 := z.tmp v1 _ List.mem_cons_self
    unfold Rp at r1
    subst r1
    refine ⟨.inl ⟨rfl, _, SqL.of q1⟩, h1.use e1 (fun v2 d2 s2 H2 h2 e2 => ?_) fun cls x dd s' H' p q => hx cls x dd s' H' p q.pop⟩
    obtain ⟨A, z, rl⟩ := id e2
    have r2 := z.tmp v2 d2 List.mem_cons_self
    cases h2 with
    | @mk _ l m j _ _ ω' ha hl hp q =>
      obtain ⟨⟨xs, g1, g2⟩, _⟩ := z.own p l (List.mem_of_getElem? ha.get)
      unfold Rp at r2
      obtain ⟨b, zs, rfl, _, f1, f2⟩ := r2
      refine ⟨p, b, xs, zs, rfl, rfl, g1, f1, by rw [RpL.len g2, RpL.len f2, sizeLine_eq]; exact hl, k _ _ _ _ q (SE.atom ((SE.setO z rl ha hp (g2.append f2)).sub fun x hx => List.mem_cons_of_mem _ (List.mem_cons_of_mem _ hx)) rfl)⟩) hx
abbrev G5 (i1 i2 i3 i4 i5 : Nat) : D → S → (S → Prop) → Prop := GT 5 (GC (GN i1) (GC (GN i2) (GC (GN i3) (GC (GN i4) (GC (GN i5) GZ)))))
theorem gwF {vs : List Nat} {i1 i2 i3 i4 i5 k : Nat} {q1 q2 q3 q4 q5 pt : Pos} (hc : X.calm = true) (hN : X.N.Nodup) (vi1 : i1 ∈ vs) (hi1 : X.N[i1]? = some x1) (lx1 : Loc X.env.scope x1) (fx1 : X.fn x1 = true ∨ X.env.scope.names.lookup x1 = some .local) (vi2 : i2 ∈ vs) (hi2 : X.N[i2]? = some x2) (lx2 : Loc X.env.scope x2) (fx2 : X.fn x2 = true ∨ X.env.scope.names.lookup x2 = some .local) (vi3 : i3 ∈ vs) (hi3 : X.N[i3]? = some x3) (lx3 : Loc X.env.scope x3) (fx3 : X.fn x3 = true ∨ X.env.scope.names.lookup x3 = some .local) (vi4 : i4 ∈ vs) (hi4 : X.N[i4]? = some x4) (lx4 : Loc X.env.scope x4) (fx4 : X.fn x4 = true ∨ X.env.scope.names.lookup x4 = some .local) (vi5 : i5 ∈ vs) (hi5 : X.N[i5]? = some x5) (lx5 : Loc X.env.scope x5) (fx5 : X.fn x5 = true ∨ X.env.scope.names.lookup x5 = some .local)
    (hn : (assignEach [.Name x1 q1, .Name x2 q2, .Name x3 q3, .Name x4 q4, .Name x5 q5] X.env).length = 5 := by rfl) (hst : (assignEach [.Name x1 q1, .Name x2 q2, .Name x3 q3, .Name x4 q4, .Name x5 q5] X.env).findIdx? (·.1) = none := by rfl) (h1 : (assignEach (.Name x1 q1 :: [.Name x2 q2, .Name x3 q3, .Name x4 q4, .Name x5 q5]) X.env).map (·.2) = assign (.Name x1 q1) X.env :: (assignEach [.Name x2 q2, .Name x3 q3, .Name x4 q4, .Name x5 q5] X.env).map (·.2) := by rfl) (h2 : (assignEach (.Name x2 q2 :: [.Name x3 q3, .Name x4 q4, .Name x5 q5]) X.env).map (·.2) = assign (.Name x2 q2) X.env :: (assignEach [.Name x3 q3, .Name x4 q4, .Name x5 q5] X.env).map (·.2) := by rfl) (h3 : (assignEach (.Name x3 q3 :: [.Name x4 q4, .Name x5 q5]) X.env).map (·.2) = assign (.Name x3 q3) X.env :: (assignEach [.Name x4 q4, .Name x5 q5] X.env).map (·.2) := by rfl) (h4 : (assignEach (.Name x4 q4 :: [.Name x5 q5]) X.env).map (·.2) = assign (.Name x4 q4) X.env :: (assignEach [.Name x5 q5] X.env).map (·.2) := by rfl) (h5 : (assignEach (.Name x5 q5 :: []) X.env).map (·.2) = assign (.Name x5 q5) X.env :: (assignEach [] X.env).map (·.2) := by rfl) : GW X c vs (.Tuple [.Name x1 q1, .Name x2 q2, .Name x3 q3, .Name x4 q4, .Name x5 q5] k pt) (G5 i1 i2 i3 i4 i5) :=
  gw_tup hc (gws_cons (gw_name hN vi1 hi1 lx1 fx1) (gws_cons (gw_name hN vi2 hi2 lx2 fx2) (gws_cons (gw_name hN vi3 hi3 lx3 fx3) (gws_cons (gw_name hN vi4 hi4 lx4 fx4) (gws_cons (gw_name hN vi5 hi5 lx5 fx5) gws_nil h5) h4) h3) h2) h1) hn hst
theorem asgF {i1 i2 i3 i4 i5 k : Nat} {q1 q2 q3 q4 q5 pt : Pos} (hc : X.calm = true) (hN : X.N = N) (nd : N.Nodup) (xi1 : Ix N x1 i1) (xi2 : Ix N x2 i2) (xi3 : Ix N x3 i3) (xi4 : Ix N x4 i4) (xi5 : Ix N x5 i5) (h : EW X c W s (fun d s1 => G5 i1 i2 i3 i4 i5 d s1 nx) ex e)
    (lx1 : Loc X.env.scope x1 := by first | exact .inl rfl | exact .inr rfl) (fx1 : X.fn x1 = true ∨ X.env.scope.names.lookup x1 = some .local := by first | exact .inl rfl | exact .inr rfl) (lx2 : Loc X.env.scope x2 := by first | exact .inl rfl | exact .inr rfl) (fx2 : X.fn x2 = true ∨ X.env.scope.names.lookup x2 = some .local := by first | exact .inl rfl | exact .inr rfl) (lx3 : Loc X.env.scope x3 := by first | exact .inl rfl | exact .inr rfl) (fx3 : X.fn x3 = true ∨ X.env.scope.names.lookup x3 = some .local := by first | exact .inl rfl | exact .inr rfl) (lx4 : Loc X.env.scope x4 := by first | exact .inl rfl | exact .inr rfl) (fx4 : X.fn x4 = true ∨ X.env.scope.names.lookup x4 = some .local := by first | exact .inl rfl | exact .inr rfl) (lx5 : Loc X.env.scope x5 := by first | exact .inl rfl | exact .inr rfl) (fx5 : X.fn x5 = true ∨ X.env.scope.names.lookup x5 = some .local := by first | exact .inl rfl | exact .inr rfl) (hs : swapsWithSole [.Tuple [.Name x1 q1, .Name x2 q2, .Name x3 q3, .Name x4 q4, .Name x5 q5] k pt] e pos.line X.env = pure false := by rfl) (hw : swappedStores [.Tuple [.Name x1 q1, .Name x2 q2, .Name x3 q3, .Name x4 q4, .Name x5 q5] k pt] e X.env = pure none := by rfl) : SW X c W s ⟨nx, rt, bk, ct, ex⟩ (.Assign [.Tuple [.Name x1 q1, .Name x2 q2, .Name x3 q3, .Name x4 q4, .Name x5 q5] k pt] e pos) :=
  sw_asg (vs := [i1, i2, i3, i4, i5]) (gwF hc (by rw [hN]; exact nd) (by simp) (by rw [hN]; exact xi1.get) lx1 fx1 (by simp) (by rw [hN]; exact xi2.get) lx2 fx2 (by simp) (by rw [hN]; exact xi3.get) lx3 fx3 (by simp) (by rw [hN]; exact xi4.get) lx4 fx4 (by simp) (by rw [hN]; exact xi5.get) lx5 fx5) h hs hw
theorem forF {i1 i2 i3 i4 i5 k : Nat} {q1 q2 q3 q4 q5 pt : Pos} (po : PassesOwn (model X.prog X.w) X.A X.env X.xe) (hN : X.N = N) (nd : N.Nodup) (xi1 : Ix N x1 i1) (xi2 : Ix N x2 i2) (xi3 : Ix N x3 i3) (xi4 : Ix N x4 i4) (xi5 : Ix N x5 i5)
    (h : IW X c W s (fun l C s1 => ∃ I : Nat → S → Prop, I 0 s1 ∧ (∀ i s', I i s' → C s') ∧ (∀ n d s', l[n]? = some d → I n s' → G5 i1 i2 i3 i4 i5 d s' fun s2 => LW X c W s2 ⟨I (n + 1), rt, nx, I (n + 1), ex⟩ body) ∧ (∀ s', I l.length s' → nx s')) ex (.Tuple [.Name x1 q1, .Name x2 q2, .Name x3 q3, .Name x4 q4, .Name x5 q5] k pt) iter)
    (hc : X.calm = true := by rfl) (lx1 : Loc X.env.scope x1 := by first | exact .inl rfl | exact .inr rfl) (fx1 : X.fn x1 = true ∨ X.env.scope.names.lookup x1 = some .local := by first | exact .inl rfl | exact .inr rfl) (lx2 : Loc X.env.scope x2 := by first | exact .inl rfl | exact .inr rfl) (fx2 : X.fn x2 = true ∨ X.env.scope.names.lookup x2 = some .local := by first | exact .inl rfl | exact .inr rfl) (lx3 : Loc X.env.scope x3 := by first | exact .inl rfl | exact .inr rfl) (fx3 : X.fn x3 = true ∨ X.env.scope.names.lookup x3 = some .local := by first | exact .inl rfl | exact .inr rfl) (lx4 : Loc X.env.scope x4 := by first | exact .inl rfl | exact .inr rfl) (fx4 : X.fn x4 = true ∨ X.env.scope.names.lookup x4 = some .local := by first | exact .inl rfl | exact .inr rfl) (lx5 : Loc X.env.scope x5 := by first | exact .inl rfl | exact .inr rfl) (fx5 : X.fn x5 = true ∨ X.env.scope.names.lookup x5 = some .local := by first | exact .inl rfl | exact .inr rfl) (hs : ∀ x, foldedSetIterable iter X.env x = pure x := by intro _; rfl) : SW X c W s ⟨nx, rt, bk, ct, ex⟩ (.For (.Tuple [.Name x1 q1, .Name x2 q2, .Name x3 q3, .Name x4 q4, .Name x5 q5] k pt) iter body [] pos) :=
  sw_for (vs := [i1, i2, i3, i4, i5]) po hc (gwF hc (by rw [hN]; exact nd) (by simp) (by rw [hN]; exact xi1.get) lx1 fx1 (by simp) (by rw [hN]; exact xi2.get) lx2 fx2 (by simp) (by rw [hN]; exact xi3.get) lx3 fx3 (by simp) (by rw [hN]; exact xi4.get) lx4 fx4 (by simp) (by rw [hN]; exact xi5.get) lx5 fx5) h hs
end
end DL

namespace DL
open PySem PySem.Spec PyProof.Rows L2
section
variable {X : Cx} {c : Cc} {W : WX} {s : S} {Φ : D → S → Prop} {Ξ : PX} {a b : Expr} {pos : Pos}
def CPw (i j : Int) : Prop := 0 ≤ j ∧ j ≤ 1000 ∧ i.natAbs < 2 ^ 400
theorem op_powW : OpR X (binaryOp .Pow) (rI CPw fun i j => .int (i ^ j.toNat)) := opI fun i j _ _ _ _ _ hc q => pow_int hc.1 (by
  have hb : Builtin.Int.intBits i ≤ 400 := PySem.intBits_le_iff.mpr hc.2.2
  have h1 : (Builtin.Int.intBits i : Int) * j ≤ 400 * j := Int.mul_le_mul_of_nonneg_right (by omega) hc.1
  have := hc.2.1
  omega) q
theorem ew_powW (h : EW X c W s (fun d1 s1 => EW X c W s1 (fun d2 s2 => I2 CPw (fun i j => D.int (i ^ j.toNat)) d1 d2 s2 Φ) Ξ b) Ξ a) : EW X c W s Φ Ξ (.BinOp a .Pow b pos) := ew_bin op_powW (od_int (g' := fun i j => D.int (i ^ j.toNat)) fun _ _ => rfl) h
theorem powW_ok {i j : Int} (h1 : 0 ≤ j) (h2 : j ≤ 1000) (h3 : -(2 ^ 400) < i) (h4 : i < 2 ^ 400) : CPw i j := ⟨h1, h2, by omega⟩
end
end DL

namespace DL
open PySem PySem.Spec PyProof.Rows L2
section
variable {X : Cx} {c : Cc} {W : WX} {s : S} {nx : S → Prop} {rt : D → S → Prop} {bk ct : S → Prop} {ex : PX} {pos : Pos} {N : List Str} {x y x2 y2 : Str} {e : Expr}
theorem asgPP {i j i2 j2 k k1 k2 : Nat} {q r q2 r2 pt pt1 pt2 : Pos} (hN : X.N = N) (nd : N.Nodup) (ix : Ix N x i) (iy : Ix N y j) (ix2 : Ix N x2 i2) (iy2 : Ix N y2 j2)
    (h : EW X c W s (fun d s1 => GT 2 (GC (GT 2 (GC (GN i) (GC (GN j) GZ))) (GC (GT 2 (GC (GN i2) (GC (GN j2) GZ))) GZ)) d s1 nx) ex e)
    (hc : X.calm = true := by rfl) (lx : Loc X.env.scope x := by first | exact .inl rfl | exact .inr rfl) (ly : Loc X.env.scope y := by first | exact .inl rfl | exact .inr rfl) (lx2 : Loc X.env.scope x2 := by first | exact .inl rfl | exact .inr rfl) (ly2 : Loc X.env.scope y2 := by first | exact .inl rfl | exact .inr rfl)
    (fx : X.fn x = true ∨ X.env.scope.names.lookup x = some .local := by first | exact .inl rfl | exact .inr rfl) (fy : X.fn y = true ∨ X.env.scope.names.lookup y = some .local := by first | exact .inl rfl | exact .inr rfl) (fx2 : X.fn x2 = true ∨ X.env.scope.names.lookup x2 = some .local := by first | exact .inl rfl | exact .inr rfl) (fy2 : X.fn y2 = true ∨ X.env.scope.names.lookup y2 = some .local := by first | exact .inl rfl | exact .inr rfl)
    (hn : (assignEach [.Tuple [.Name x q, .Name y r] k1 pt1, .Tuple [.Name x2 q2, .Name y2 r2] k2 pt2] X.env).length = 2 := by rfl) (hst : (assignEach [.Tuple [.Name x q, .Name y r] k1 pt1, .Tuple [.Name x2 q2, .Name y2 r2] k2 pt2] X.env).findIdx? (·.1) = none := by rfl)
    (h1 : (assignEach (.Tuple [.Name x q, .Name y r] k1 pt1 :: [.Tuple [.Name x2 q2, .Name y2 r2] k2 pt2]) X.env).map (·.2) = assign (.Tuple [.Name x q, .Name y r] k1 pt1) X.env :: (assignEach [.Tuple [.Name x2 q2, .Name y2 r2] k2 pt2] X.env).map (·.2) := by rfl)
    (h2 : (assignEach (.Tuple [.Name x2 q2, .Name y2 r2] k2 pt2 :: []) X.env).map (·.2) = assign (.Tuple [.Name x2 q2, .Name y2 r2] k2 pt2) X.env :: (assignEach [] X.env).map (·.2) := by rfl)
    (hs : swapsWithSole [.Tuple [.Tuple [.Name x q, .Name y r] k1 pt1, .Tuple [.Name x2 q2, .Name y2 r2] k2 pt2] k pt] e pos.line X.env = pure false := by rfl) (hw : swappedStores [.Tuple [.Tuple [.Name x q, .Name y r] k1 pt1, .Tuple [.Name x2 q2, .Name y2 r2] k2 pt2] k pt] e X.env = pure none := by rfl) :
    SW X c W s ⟨nx, rt, bk, ct, ex⟩ (.Assign [.Tuple [.Tuple [.Name x q, .Name y r] k1 pt1, .Tuple [.Name x2 q2, .Name y2 r2] k2 pt2] k pt] e pos) :=
  sw_asg (vs := [i, j, i2, j2]) (gwPP hc (by rw [hN]; exact nd) (by simp) (by simp) (by simp) (by simp) (by rw [hN]; exact ix.get) lx fx (by rw [hN]; exact iy.get) ly fy (by rw [hN]; exact ix2.get) lx2 fx2 (by rw [hN]; exact iy2.get) ly2 fy2 hn hst h1 h2) h hs hw
end
end DL

namespace DL
open PySem PySem.Spec PyProof.Rows L2
section
variable {X : Cx} {c : Cc} {W : WX} {s : S} {nx : S → Prop} {rt : D → S → Prop} {bk ct : S → Prop} {ex : PX} {pos : Pos} {N : List Str} {a b e : Expr}
theorem sw_par3 {i j l : Nat} {x y z : Str} {px py' pz pt : Pos} {kt k2 pt2} (hc : X.calm = true) (hN : X.N.Nodup) (h : EW X c W s (fun d1 s1 => EW X c W s1 (fun d2 s2 => EW X c W s2 (fun d3 s3 => ∃ δ1 δ2 δ3, Pt s3.δ i (some d1) δ1 ∧ Pt δ1 j (some d2) δ2 ∧ Pt δ2 l (some d3) δ3 ∧ nx (@S.mk δ3 s3.ω s3.ι)) ex e) ex b) ex a)
    (hij : i ≠ j) (hil : i ≠ l) (hjl : j ≠ l) (hi : X.N[i]? = some x) (hj : X.N[j]? = some y) (hl : X.N[l]? = some z) (hx : X.env.scope.names.lookup x = some .local) (hy : X.env.scope.names.lookup y = some .local) (hz : X.env.scope.names.lookup z = some .local)
    (hw : swappedStores [.Tuple [.Name x px, .Name y py', .Name z pz] kt pt] (.Tuple [a, b, e] k2 pt2) X.env = pure (some [x, y, z])) (hs : swapsWithSole [.Tuple [.Name x px, .Name y py', .Name z pz] kt pt] (.Tuple [a, b, e] k2 pt2) pos.line X.env = pure false)
    (hs1 : starEach [a, b, e] X.env = (false, eval a X.env) :: starEach [b, e] X.env) (hs2 : starEach [b, e] X.env = (false, eval b X.env) :: starEach [e] X.env) (hs3 : starEach [e] X.env = (false, eval e X.env) :: starEach [] X.env) :
    SW X c W s ⟨nx, rt, bk, ct, ex⟩ (.Assign [.Tuple [.Name x px, .Name y py', .Name z pz] kt pt] (.Tuple [a, b, e] k2 pt2) pos) :=
  PS.mono (ps_par3 hc hN hi hj hl hij hil hjl hx hy hz (pa_cons pe_any (pa_cons pe_any (pa_cons pe_any pa_nil hs3) hs2) hs1) hw hs) fun E σ H ⟨τ, e0, h1, h2, h3, h4, h5⟩ => h.use e0 (fun v d1 s1 H1 q e1 => q.use e1 (fun w f s2 H2 q2 e2 => q2.use e2 (fun u g s3 H3 ⟨δ1, δ2, δ3, p1, p2, p3, k⟩ e3 => by
    refine ⟨v, w, u, rfl, ?_⟩
    have e4 : SE X.K c (σ.set i (some v)) H3 (@S.mk δ1 s3.ω s3.ι) ((w, f) :: (u, g) :: τ) := SE.put (s := s3) (v := v) (d := d1) (e3.sub fun x hx => by
      simp only [List.mem_cons] at hx ⊢
      rcases hx with h | h | h | h
      · exact Or.inr (Or.inr (Or.inl h))
      · exact Or.inr (Or.inl h)
      · exact Or.inl h
      · exact Or.inr (Or.inr (Or.inr h))) p1
    have e5 : SE X.K c ((σ.set i (some v)).set j (some w)) H3 (@S.mk δ2 s3.ω s3.ι) ((u, g) :: τ) := e4.put p2
    exact h1 _ _ H3 k (e5.put p3)) fun cls x dd s' H' q e1 => h5 cls x dd s' σ H' q e1.pop.pop) fun cls x dd s' H' q e1 => h5 cls x dd s' σ H' q e1.pop) fun cls x dd s' H' q e1 => h5 cls x dd s' σ H' q e1
theorem parN3 {i j l : Nat} {x y z : Str} {px py' pz pt : Pos} {kt k2 : Nat} {pt2 : Pos} (hc : X.calm = true) (hN : X.N = N) (nd : N.Nodup) (ix : Ix N x i) (iy : Ix N y j) (iz : Ix N z l) (h : EW X c W s (fun d1 s1 => EW X c W s1 (fun d2 s2 => EW X c W s2 (fun d3 s3 => ∃ δ1 δ2 δ3, Pt s3.δ i (some d1) δ1 ∧ Pt δ1 j (some d2) δ2 ∧ Pt δ2 l (some d3) δ3 ∧ nx (@S.mk δ3 s3.ω s3.ι)) ex e) ex b) ex a)
    (hij : i ≠ j := by decide) (hil : i ≠ l := by decide) (hjl : j ≠ l := by decide) (hx : X.env.scope.names.lookup x = some .local := by rfl) (hy : X.env.scope.names.lookup y = some .local := by rfl) (hz : X.env.scope.names.lookup z = some .local := by rfl)
    (hw : swappedStores [.Tuple [.Name x px, .Name y py', .Name z pz] kt pt] (.Tuple [a, b, e] k2 pt2) X.env = pure (some [x, y, z]) := by rfl) (hs : swapsWithSole [.Tuple [.Name x px, .Name y py', .Name z pz] kt pt] (.Tuple [a, b, e] k2 pt2) pos.line X.env = pure false := by rfl)
    (hs1 : starEach [a, b, e] X.env = (false, eval a X.env) :: starEach [b, e] X.env := by rfl) (hs2 : starEach [b, e] X.env = (false, eval b X.env) :: starEach [e] X.env := by rfl) (hs3 : starEach [e] X.env = (false, eval e X.env) :: starEach [] X.env := by rfl) :
    SW X c W s ⟨nx, rt, bk, ct, ex⟩ (.Assign [.Tuple [.Name x px, .Name y py', .Name z pz] kt pt] (.Tuple [a, b, e] k2 pt2) pos) :=
  sw_par3 hc (by rw [hN]; exact nd) h hij hil hjl (by rw [hN]; exact ix.get) (by rw [hN]; exact iy.get) (by rw [hN]; exact iz.get) hx hy hz hw hs hs1 hs2 hs3
end
end DL

namespace DL
open PySem PySem.Spec PyProof.Rows L2
section
variable {X : Cx} {c : Cc} {W : WX} {s : S} {Φa : List D → S → Prop} {Ξ : PX} {e : Expr} {es : List Expr} {p : Pos}
theorem SE.items {K : PySem.W.Frag} {σ : List (Option V)} {H : Hp} : ∀ {l : List D} {xs : List V} {τ : List (V × D)} {A : Addr → Prop}, RpL K A H l xs → En K A σ H s τ → Rel K c A H s.ω s.ι →
    ∃ τ', SE K c σ H s τ' ∧ (∀ x ∈ τ, x ∈ τ') ∧ Paired (fun v d => (v, d) ∈ τ') xs l
  | [], xs, τ, A, h, e0, r => by
    unfold RpL at h
    subst h
    exact ⟨τ, ⟨A, e0, r⟩, fun _ h => h, .nil⟩
  | d :: l, xs, τ, A, h, e0, r => by
    unfold RpL at h
    obtain ⟨x, ys, rfl, h1, h2⟩ := h
    obtain ⟨τ', e1, sb, pr⟩ := SE.items h2 (e0.push h1) r
    exact ⟨τ', e1, fun z hz => sb z (List.mem_cons_of_mem _ hz), .cons (sb _ List.mem_cons_self) pr⟩
theorem Paired.cat {α β : Type} {R : α → β → Prop} : ∀ {a c : List α} {b d : List β}, Paired R a b → Paired R c d → Paired R (a ++ c) (b ++ d)
  | _, _, _, _, .nil, h => h
  | _, _, _, _, .cons h t, k => .cons h (Paired.cat t k)
theorem Paired.imp {α β : Type} {R R' : α → β → Prop} (m : ∀ a b, R a b → R' a b) : ∀ {a : List α} {b : List β}, Paired R a b → Paired R' a b
  | _, _, .nil => .nil
  | _, _, .cons h t => .cons (m _ _ h) (Paired.imp m t)
end
end DL

namespace DL
open PySem PySem.Spec PyProof.Rows L2
theorem se_rebase {K : PySem.W.Frag} {c : Cc} {σ : List (Option V)} {H : Hp} {s : S} {τ : List (V × D)} (e : SE K c σ H s τ) (h0 : c.O0 = []) (hω : s.ω = []) (hι : s.ι.l = []) :
    ∃ c' : Cc, c'.O0 = [] ∧ c'.ρ = c.ρ ∧ c'.H0 = H ∧ SE K c' σ H s τ ∧ ∀ (σ' : List (Option V)) (H' : Hp) (s' : S) (τ' : List (V × D)), SE K c' σ' H' s' τ' → SE K c σ' H' s' τ' := by
  obtain ⟨A, z, rl⟩ := e
  have no0 : ∀ p, p ∉ c.O0 := fun p h => by rw [h0] at h; cases h
  have up0 : ∀ a, H a = none → c.H0 a = none := fun a ha => by
    cases q : c.H0 a with
    | none => rfl
    | some o =>
      have := rl.keep a o q (no0 a)
      rw [ha] at this
      cases this
  refine ⟨⟨H, A, [], c.ρ, []⟩, rfl, rfl, rfl, ⟨A, z, ⟨fun a h => h, fun a h => .inl h, fun a o h _ => h, fun p ds h => (by rw [hω] at h; cases h), fun p h => (by cases h), fun p h => (by cases h), fun p h => (by cases h), fun p l h => ⟨fun z => (by cases z), ?_⟩, fun p C fs h => (by rw [hι] at h; cases h), fun x h => (by cases h)⟩⟩, fun σ' H' s' τ' ⟨A', z', rl'⟩ => ⟨A', z', ⟨fun a h => rl'.sub a (rl.sub a h), fun a h => ?_, fun a o h n => rl'.keep a o (rl.keep a o h n) (fun z => by cases z), fun p ds h => ?_, fun p h => absurd h (no0 p), fun p h => absurd h (no0 p), fun p h => absurd h (no0 p), rl.ro, fun p C fs h => ?_, fun x hx => absurd (rl.tab x hx).1 (no0 _)⟩⟩⟩
  · obtain ⟨h1, xs, h2, h3⟩ := rl.ro p l h
    exact ⟨xs, rl.keep p _ h2 h1, RpL.mono rl.sub rl.keeps _ _ h3⟩
  · rcases rl'.up a h with h | h
    · exact rl.up a h
    · exact .inr (up0 a h)
  · rcases rl'.own p ds h with h | h
    · cases h
    · exact .inr (up0 p h)
  · rcases rl'.ins p C fs h with h | h
    · cases h
    · exact .inr (up0 p h)
def XH (K : PySem.W.Frag) (c : Cc) (cls : Value) (z : XD) (ob : Obj) : Prop := ∃ d, Zc cls d ob ∧ XR K c.H0 z d
def hF (X : Cx) (c : Cc) (N : Nd) : List ExceptHandler → List (Value × Option Nat) → PX
  | .ExceptHandler _ _ sts _ :: hs, (C, i) :: l => fun cls z s => ∃ b, PySem.W.exmOne X.K cls C = some b ∧ (b = true → s.ω = [] ∧ s.ι.l = [] ∧ ∀ (p : Addr) (ob : Obj) (ps : List (Addr × Obj)) (c' : Cc), c'.O0 = [] → c'.ρ = c.ρ → XH X.K c' cls z ob → (∃ fl, ob.data = .fields fl) → LW (X.suite p ((p, ob) :: ps)) c' (fun _ _ _ _ => False) (asS i p s) (ndS i N) sts) ∧ (b = false → hF X c N hs l cls z s)
  | _, _ => N.ex
section
variable {X : Cx} {c : Cc} {W : WX} {s : S} {nx : S → Prop} {rt : D → S → Prop} {bk ct : S → Prop} {ex : PX} {Φ : D → S → Prop} {Ξ : PX} {e : Expr} {pos : Pos} {body : List Stmt}
theorem sw_clausesF {h0 : ExceptHandler} {hs : List ExceptHandler} {l : List (Value × Option Nat)} (hO : c.O0 = []) (hN : X.N.Nodup) (tk : Takes X W) (cl : ClS X (h0 :: hs) l)
    (hb : ∀ (W' : WX) (ps : List (Addr × Obj)) (xe : Value → Shared → Prop), Takes (X.tr ps xe) W' → PassesOwn (model X.prog X.w) X.A X.env xe → LW (X.tr ps xe) c W' s ⟨nx, rt, bk, ct, hF X c ⟨nx, rt, bk, ct, ex⟩ (h0 :: hs) l⟩ body)
    (hst : X.stack = X.env :: X.outer := by rfl) (hfr : X.env.frame = some X.env.locals := by rfl) : SW X c W s ⟨nx, rt, bk, ct, ex⟩ (.Try body (h0 :: hs) [] [] pos) := by
  have key : ∀ {hl : List ExceptHandler} {l : List (Value × Option Nat)}, ClS X hl l → ∃ l' : List Clause, Clauses X hl l' ∧ ∀ (D : Ends) (cls : Value) (z : XD) (dd : Option Addr) (s' : S) (σ' : L2.St) (H' : Hp) (τ : List (V × DL.D)), hF X c ⟨nx, rt, bk, ct, ex⟩ hl l cls z s' → SE X.K c σ' H' s' τ → XR X.K H' z dd →
      (∀ s' σ' H', nx s' → SE X.K c σ' H' s' τ → D.nx σ' H') → (∀ v d s' σ' H', rt d s' → SE X.K c σ' H' s' ((v, d) :: τ) → D.rt v H') → (∀ s' σ' H', bk s' → SE X.K c σ' H' s' τ → D.bk σ' H') → (∀ s' σ' H', ct s' → SE X.K c σ' H' s' τ → D.ct σ' H') →
      (∀ cls x dd s' σ' H', ex cls x s' → SE X.K c σ' H' s' τ → XR X.K H' x dd → W cls dd σ' H') → asks X.K W D l' cls dd σ' H' := by
    intro hl l cl
    induction cl with
    | nil => exact ⟨[], .nil, fun D cls z dd s' σ' H' τ q e xr h1 h2 h3 h4 h5 => h5 cls z dd s' σ' H' q e xr⟩
    | @bare x C st sts p1 p2 hs l hn _ ih =>
      obtain ⟨l', c1, c2⟩ := ih
      refine ⟨(C, none, fun p cls d D σ H => ∃ t, (∀ (ob : Obj) (ps : List (Addr × Obj)), Zc cls d ob → (∃ fl, ob.data = .fields fl) → PSs (X.suite p ((p, ob) :: ps)) (st :: sts) t) ∧ t D σ H) :: l', .bare hn (fun p ob cls d ps hz hf => ⟨fun pins s σ H D I ⟨t, ht, q⟩ => (ht ob ps hz hf).run pins s σ H D I q⟩) c1, fun D cls z dd s' σ' H' τ q e xr h1 h2 h3 h4 h5 => ?_⟩
      obtain ⟨b, g1, g2, g3⟩ := q
      refine ⟨b, g1, fun eb p _ => ?_, fun eb => c2 D cls z dd s' σ' H' τ (g3 eb) e xr h1 h2 h3 h4 h5⟩
      obtain ⟨hω, hι, g2⟩ := g2 eb
      obtain ⟨c', o1, r1, hH, e', back⟩ := se_rebase e hO hω hι
      exact ⟨sW X.K c' (fun _ _ _ _ => False) (DL.asS none p s') (ndS none ⟨nx, rt, bk, ct, ex⟩), fun ob ps hz hf => g2 p ob ps c' o1 r1 ⟨dd, hz, by rw [hH]; exact xr⟩ hf, τ, e', fun s2 σ2 H2 q2 e2 => h1 _ _ _ q2 (back _ _ _ _ e2), fun v d s2 σ2 H2 q2 e2 => h2 _ _ _ _ _ q2 (back _ _ _ _ e2), fun s2 σ2 H2 q2 e2 => h3 _ _ _ q2 (back _ _ _ _ e2), fun s2 σ2 H2 q2 e2 => h4 _ _ _ q2 (back _ _ _ _ e2), fun _ _ _ _ _ _ z => z.elim⟩
    | @named x n i C st sts p1 p2 hs l hn hi hl _ ih =>
      obtain ⟨l', c1, c2⟩ := ih
      refine ⟨(C, some i, fun p cls d D σ H => ∃ t, (∀ (ob : Obj) (ps : List (Addr × Obj)), Zc cls d ob → (∃ fl, ob.data = .fields fl) → PSs (X.suite p ((p, ob) :: ps)) (st :: sts) t) ∧ t D σ H) :: l', .named hn hi hl (fun p ob cls d ps hz hf => ⟨fun pins s σ H D I ⟨t, ht, q⟩ => (ht ob ps hz hf).run pins s σ H D I q⟩) c1, fun D cls z dd s' σ' H' τ q e xr h1 h2 h3 h4 h5 => ?_⟩
      obtain ⟨b, g1, g2, g3⟩ := q
      refine ⟨b, g1, fun eb p _ => ?_, fun eb => c2 D cls z dd s' σ' H' τ (g3 eb) e xr h1 h2 h3 h4 h5⟩
      obtain ⟨hω, hι, g2⟩ := g2 eb
      obtain ⟨c', o1, r1, hH, e', back⟩ := se_rebase e hO hω hι
      exact ⟨sW X.K c' (fun _ _ _ _ => False) (DL.asS (some i) p s') (ndS (some i) ⟨nx, rt, bk, ct, ex⟩), fun ob ps hz hf => g2 p ob ps c' o1 r1 ⟨dd, hz, by rw [hH]; exact xr⟩ hf, τ, e'.asS (i := some i), fun s2 σ2 H2 q2 e2 => h1 _ _ _ q2 (back _ _ _ _ e2.unS), fun v d s2 σ2 H2 q2 e2 => h2 _ _ _ _ _ q2 (back _ _ _ _ e2), fun s2 σ2 H2 q2 e2 => h3 _ _ _ q2 (back _ _ _ _ e2.unS), fun s2 σ2 H2 q2 e2 => h4 _ _ _ q2 (back _ _ _ _ e2.unS), fun _ _ _ _ _ _ z => z.elim⟩
  obtain ⟨l', c1, c2⟩ := key cl
  exact PS.mono (ps_clauses (tb := fun W' => sW X.K c W' s ⟨nx, rt, bk, ct, hF X c ⟨nx, rt, bk, ct, ex⟩ (h0 :: hs) l⟩) hst hfr hN tk (fun W' ps xe tk' po' => hb W' ps xe tk' po') c1) fun E σ H ⟨τ, e0, h1, h2, h3, h4, h5⟩ => ⟨τ, e0, h1, h2, h3, h4, fun cls z dd s' σ' H' q e xr => c2 E cls z dd s' σ' H' τ q e xr h1 h2 h3 h4 h5⟩
end
section
variable {X : Cx} {c : Cc} {W : WX} {s : S} {Φ : D → S → Prop} {Ξ : PX} {N : List Str} {n f : Str} {i : Nat} {a C : Addr} {oe : Obj} {ps : List (Addr × Obj)} {p pos : Pos} {v : Int}
end
section
variable {X : Cx} {c : Cc} {N : Nd} {t : Option Expr} {n : Option Str} {sts : List Stmt} {p2 : Pos} {hs : List ExceptHandler} {C cls : Value} {z : XD} {s : S} {l : List (Value × Option Nat)}
theorem hf_as {j : Nat} (h : PySem.W.exmOne X.K cls C = some true) (hω : s.ω = []) (hι : s.ι.l = []) (k : ∀ (p : Addr) (ob : Obj) (ps : List (Addr × Obj)) (c' : Cc), c'.O0 = [] → c'.ρ = c.ρ → XH X.K c' cls z ob → (∃ fl, ob.data = .fields fl) → LW (X.suite p ((p, ob) :: ps)) c' (fun _ _ _ _ => False) (@S.mk (s.δ.set j (some (.ref p))) s.ω s.ι)
    { nx := fun s => N.nx (@S.mk (s.δ.set j none) s.ω s.ι), rt := N.rt, bk := fun s => N.bk (@S.mk (s.δ.set j none) s.ω s.ι), ct := fun s => N.ct (@S.mk (s.δ.set j none) s.ω s.ι), ex := fun _ _ _ => False } sts) : hF X c N (.ExceptHandler t n sts p2 :: hs) ((C, some j) :: l) cls z s := ⟨true, h, fun _ => ⟨hω, hι, k⟩, (fun z => by cases z)⟩
end
end DL

namespace DL
open PySem PySem.Spec PyProof.Rows L2
def rIsED (K : PySem.W.Frag) (D a dd : Addr) : List V → Hp → VK → Prop := fun xs H Q => ∃ (c : V) (cv : Value) (b : Bool) (fs : List (Str × V)), xs = [.ref a, c] ∧ H dd = some (.xd fs) ∧ (∀ u, RelV c u → u = cv) ∧ PySem.W.kitOne K (.ref D) cv = some b ∧ Q (.bl b) H
theorem call_isED {X : Cx} {a D dd : Addr} {oe : Obj} {pn : List (Addr × Obj)} (C : ExcC X.K D) (hz : Zc (.ref D) (some dd) oe) (hf : ∃ vs, oe.data = .fields vs) : CallR (X.suite a ((a, oe) :: pn)) (.builtin "isinstance") (rIsED X.K D a dd) := by
  intro pins s σ H xs us Q I r h
  obtain ⟨c, cv, b, fs, rfl, ea, hcv, e, q⟩ := h
  cases r with
  | cons rx rr =>
    cases rr with
    | cons rt rr =>
      cases rr
      cases rx
      have ec := hcv _ rt
      subst ec
      obtain ⟨hget, _⟩ := I.pin (a, oe) (List.mem_append.mpr (.inl List.mem_cons_self))
      obtain ⟨vs, hv⟩ := hf
      have hx : ObjOk X.prog X.w H s.heap dd (.xd fs) := I.hok dd _ ea
      obtain ⟨mA, hns, hr⟩ := hx
      obtain ⟨od, ho, hl⟩ := lookIn_ns hns
      have J : PySem.W.InstAt s.heap a oe D (some od) := ⟨hget, hz.1, by unfold PySem.W.notCls; rw [hv] <;> rfl, by rw [hz.2]; exact ho⟩
      have hcl : (PySem.W.clsIn X.K D).isSome = true := by
        obtain ⟨cdD, hcD, _⟩ := PySem.W.any_some C.hd
        rw [hcD]
        rfl
      exact PySem.W.kia_one (PySem.W.kitx_exc hcl C.hg C.hk C.hs C.ha C.hn C.ht C.hm) I.kIn J e (fun z => nomatch z) fun tk => ⟨.bl b, H, I.kept (t' := tk) fun _ _ z => z, rfl, q⟩
section
variable {X : Cx} {c : Cc} {W : WX} {s : S} {Φ : D → S → Prop} {Ξ : PX} {pos : Pos} {i : Nat} {n y f : Str} {p q q2 : Pos} {a D C : Addr} {oe : Obj} {ps : List (Addr × Obj)} {b : Bool} {N : List Str} {w : Int}
end
end DL

namespace DL
open PySem PySem.Spec PyProof.Rows L2
def oexC (K : PySem.W.Frag) (C : Addr) : Bool := match K.lookup C with
  | some ⟨.type "type", _, .cls cd, sl⟩ => (match cd.mro, sl.toList with
    | .ref C' :: bm, [_, _, _, _, some (.builtin n), _] => C' == C && (n == "ValueError.__new__" && (!cd.hasDel && (cd.hasDict && PySem.HandSPX.refsVE bm)))
    | _, _ => false)
  | _ => false
theorem oexC_ok {K : PySem.W.Frag} {C : Addr} (q : oexC K C = true) : ∃ nm q N bs bm sn sub ab col dd k0 k1 k2 k3 k5, K.lookup C = some (excClassObj nm q C N bs bm true sn sub ab col dd k0 k1 k2 k3 k5 "ValueError.__new__") ∧ PySem.HandSPX.refsVE bm = true := by
  unfold oexC at q
  split at q
  · rename_i dd cd sl ho
    split at q
    · rename_i C' bm k0 k1 k2 k3 n k5 hm hs
      simp only [Bool.and_eq_true, beq_iff_eq, Bool.not_eq_true'] at q
      obtain ⟨rfl, rfl, hdel, hd, ht⟩ := q
      obtain ⟨nm, bs, mro, ns, qn, hd', sn, sub, ab, col, del⟩ := cd
      dsimp only at hm hdel hd
      subst hm hdel hd
      have hsl : sl = #[k0, k1, k2, k3, some (.builtin "ValueError.__new__"), k5] := by
        obtain ⟨l⟩ := sl
        simp only at hs
        rw [hs]
      subst hsl
      exact ⟨nm, qn, ns, bs, bm, sn, sub, ab, col, dd, k0, k1, k2, k3, k5, ho, ht⟩
    · cases q
  · cases q
def oexB (K : PySem.W.Frag) (C : Addr) : Bool := oexC K C && (eqO (PySem.W.findIn K (.ref C) "__setattr__") (some (some (.builtin "object.__setattr__"))) && (decide (PySem.W.subIn K (.ref C) (.type "BaseException") = some true) && (decide (PySem.W.typeIn K (.ref C) = some (.type "type")) && PySem.W.keepIn K (.ref C))))
theorem oexB_ok {K : PySem.W.Frag} {C : Addr} (h : oexB K C = true) : OexC K C := by
  unfold oexB at h
  simp only [Bool.and_eq_true] at h
  obtain ⟨h1, h2, h3, h4, h5⟩ := h
  exact ⟨oexC_ok h1, eqO_ok h2, of_decide_eq_true h3, of_decide_eq_true h4, h5⟩
end DL

namespace DL
open PySem PySem.Spec PyProof.Rows L2
def mx3 (i j l : Int) : Int := if j > i then (if l > j then l else j) else if l > i then l else i
def mn3 (i j l : Int) : Int := if j < i then (if l < j then l else j) else if l < i then l else i
inductive I3R (g : Int → Int → Int → Int) : List D → S → (D → S → Prop) → Prop
  | mk {i j l : Int} {s : S} {Φ : D → S → Prop} (k : Φ (.int (g i j l)) s) : I3R g [.int i, .int j, .int l] s Φ
section
variable {X : Cx} {c : Cc} {W : WX} {s : S} {Φ : D → S → Prop} {Ξ : PX} {e : Expr} {es : List Expr} {pos p : Pos}
end
end DL

namespace GQ2
open PySem PySem.SeqAt GQ
open AutoSeq1 (wpAny_loadPart')
open MeetsSeq MeetsSeq2 MeetsSeq3 SeqRoads2
section
variable {P : Program} {w : World} {A : Around} {Rz : Result → Shared → Prop}
end
end GQ2
namespace L2
open PySem PySem.Spec PyProof.Rows
section
variable {X : Cx} {n : Nat} {D : Eqv}
def RcN (X : Cx) (n : Nat) (D : Eqv) : Prop := ∀ (B : Around) (ps : List (Addr × Obj)) (z : Shared) (σ : St) (H : Hp) (x y : V) (u v : Value), Sub X n B → Inv X ps σ H z → RelV x u → RelV y v → D x y H →
  wpAny (model X.prog X.w) B (richCompare .NotEq u v) (fun r t => r = .bool false ∧ ∃ H', Inv X ps σ H' t ∧ Ext H H') X.xe z
def rNeG (D : Eqv) : R2 := fun x y H Q => D x y H ∧ ∀ H', Ext H H' → Q (.bl false) H'
end
end L2
namespace DL
open PySem PySem.Spec PyProof.Rows L2
def RepEq (K : PySem.W.Frag) (Fs : List D → (Rs → Prop) → Prop) (a b : Addr) (H : Hp) : Prop := ∃ (A : Addr → Prop) (d : D), (∀ a, A a → ∃ o, H a = some o) ∧ Rp K A H d (.ref a) ∧ Rp K A H d (.ref b) ∧ Fs [d, d] (fun r => r = .ok (.bl true))
theorem RepEq.mono {K : PySem.W.Frag} {Fs : List D → (Rs → Prop) → Prop} (a b : Addr) (H H' : Hp) (e : Ext H H') (h : RepEq K Fs a b H) : RepEq K Fs a b H' := by
  obtain ⟨A, d, h0, h1, h2, h3⟩ := h
  have k : Keeps A H H' := fun a o h _ => e a o h
  exact ⟨A, d, fun a ha => let ⟨o, ho⟩ := h0 a ha; ⟨o, e a o ho⟩, h1.keep k, h2.keep k, h3⟩
section
variable {X : Cx} {c : Cc} {W : WX} {s : S} {Φ : D → S → Prop} {Φb : Bool → S → Prop} {Ξ : PX} {a b : Expr} {pos : Pos} {n : Nat} {C f : Addr} {Fs : List D → (Rs → Prop) → Prop}
inductive LsO (X : Cx) (c : Cc) (C : Addr) (Fs : List D → (Rs → Prop) → Prop) (z : Bool) : D → D → S → (D → S → Prop) → Prop
  | mk {l : List D} {d1 d2 : D} {s : S} {Φ : D → S → Prop} (h1 : Src c s d1 l) (h2 : Src c s d2 l) (hi : ∀ d ∈ l, ∃ fs, d = .ins C fs) (hf : ∀ d ∈ l, Fs [d, d] (fun r => r = .ok (.bl true))) (q : Φ (.bl z) s) : LsO X c C Fs z d1 d2 s Φ
end
end DL

namespace DL
open PySem PySem.Spec PyProof.Rows L2
def Sc (d : D) : Prop := d = .non ∨ ∃ i : Int, d = .int i
theorem Sc.non : Sc .non := .inl rfl
theorem Sc.int {i : Int} : Sc (.int i) := .inr ⟨i, rfl⟩
theorem Sc.rp {K : PySem.W.Frag} {A A' : Addr → Prop} {H H' : Hp} {d : D} {v : V} (h : Sc d) (r : Rp K A H d v) : Rp K A' H' d v := by
  rcases h with rfl | ⟨i, rfl⟩ <;> (unfold Rp at r ⊢; exact r)
def spX2 (C : Addr) (f g : Str) : Sp := fun vs H Q _ => ∃ (a : Addr) (y z : V), vs = [.ref a, y, z] ∧ H a = some (exo a C none) ∧ ∀ dx, H dx = none → dx ≠ a → Q .non (upd (upd (upd H dx (exd dx [(f, y)])) a (exo a C (some dx))) dx (exd dx [(g, z), (f, y)]))
section
variable {P : Program} {w : World} {K : PySem.W.Frag} {mg : Str → Option Value} {base : Heap} {x qual : Str} {params : Arguments} {scope : Scope} {fi C : Addr} {fd : FuncData} {k : Nat} {f g a b : Str} {p1 p2 p3 p4 q1 q2 q3 q4 : Pos}
theorem fn_x2 (F : FunD K x qual params [.Assign [.Attribute (.Name "self" p1) f p2] (.Name a p3) p4, .Assign [.Attribute (.Name "self" q1) g q2] (.Name b q3) q4] scope [] [] fi fd) (S0 : FnScope ["self", a, b] ["self", a, b] scope) (T : OexC K C) (hno : PySem.W.findIn K (.ref C) f = some none) (hno2 : PySem.W.findIn K (.ref C) g = some none)
    (v0 : Vis scope "self") (v1 : Vis scope a) (v2 : Vis scope b) (hd : (a == ("__debug__" : Str)) = false) (hcd : (a == ("__classdict__" : Str)) = false) (hd2 : (b == ("__debug__" : Str)) = false) (hcd2 : (b == ("__classdict__" : Str)) = false) : FnOk P w K mg base (L2.CX P w) (k + 1) fi fd ["self", a, b] (spX2 C f g) := by
  refine F.ok S0 (fun vs H Q E ⟨a, y, z, e, _⟩ => by rw [e]; rfl) (fun cdv Ar outer s H vs Q E hr ⟨a, y, z, e, ha, q⟩ => ?_)
  subst e
  refine ⟨_, pss_cons (ps_ost (pe_var (i := 0) rfl v0) (pe_var (i := 1) rfl v1 hd hcd)) (pss_one (ps_ost (pe_var (i := 0) rfl v0) (pe_var (i := 2) rfl v2 hd2 hcd2))), ?_⟩
  refine ⟨y, rfl, .ref a, rfl, a, C, rfl, T, hno, .inl ⟨ha, fun dx n ne => ?_⟩⟩
  refine ⟨z, rfl, .ref a, rfl, a, C, rfl, T, hno2, .inr ⟨dx, [(f, y)], upd_same, ?_, by simp, q dx n ne⟩⟩
  rw [upd_ne ne, upd_same]
end
section
variable {X : Cx} {c : Cc} {W : WX} {s : S} {nx : S → Prop} {rt : D → S → Prop} {bk ct : S → Prop} {ex : PX} {pos pos2 p1 : Pos} {x f g : Str} {C fi : Addr} {k : Nat} {e e2 : Expr}
theorem sw_raiseX2 (hc : X.calm = true) (tk : Takes X W) (T : OexC X.K C) (iC : PySem.W.findIn X.K (.ref C) "__init__" = some (some (.ref fi))) (tI : PySem.W.typeIn X.K (.ref fi) = some (.type "function")) (F : FnA X.prog X.w X.K X.mg X.base k fi (spX2 C f g)) (hr : Room (k + 1) X.A)
    (gC : X.mg x = some (.ref C)) (h : EW X c W s (fun d s1 => EW X c W s1 (fun d2 s2 => Sc d ∧ Sc d2 ∧ ex (.ref C) (some [(g, d2), (f, d)]) s2) ex e2) ex e) (hg : Gl X x := by rfl) (hdb : (x == ("__debug__" : Str)) = false := by decide) (he : starEach [e, e2] X.env = (false, eval e X.env) :: starEach [e2] X.env := by rfl) (he2 : starEach [e2] X.env = (false, eval e2 X.env) :: starEach [] X.env := by rfl) (hpl : (backTo pos2 (starEach [e2] X.env)).any (·.1) = false := by rfl) :
    SW X c W s ⟨nx, rt, bk, ct, ex⟩ (.Raise (some (.Call (.Name x p1) [e, e2] [] pos2)) none pos) := by
  obtain ⟨fd, ps, F1, hb⟩ := F
  refine PS.mono (ps_raise hc tk (pmk_oex T iC tI F1 hr hb .nil (passes_call tk fun _ _ _ _ z => z.elim) hg gC (pa_cons pe_any (pa_cons pe_any pa_nil he2) he) hdb he hpl)) fun D σ H ⟨τ, e0, h1, h2, h3, h4, h5⟩ => ?_
  refine ⟨_, h, τ, e0, fun v d s1 H1 hE e1 => ⟨_, hE, _, e1, fun v2 d2 s2 H2 ⟨sc, sc2, k⟩ e3 => ?_, fun cls z dd s' H' q e3 xr => h5 _ _ _ _ _ _ q e3.pop xr⟩, fun cls z dd s' H' q e1 xr => h5 _ _ _ _ _ _ q e1 xr⟩
  refine ⟨by show 2 ≤ 1000; omega, fun a ha => ⟨a, v, v2, rfl, upd_same, fun dx hdx hne => ⟨rfl, dx, [(g, v2), (f, v)], ?_, upd_same, ?_, ?_⟩⟩⟩
  · rw [upd_ne fun z => hne z.symm, upd_same]
  · rw [upd_ne hne] at hdx
    exact hdx
  · rw [upd_ne hne] at hdx
    obtain ⟨A, z, rl⟩ := id e3
    have r1 := z.tmp v d (List.mem_cons_of_mem _ List.mem_cons_self)
    have r2 := z.tmp v2 d2 List.mem_cons_self
    refine h5 (.ref C) (some [(g, d2), (f, d)]) (some dx) s2 σ _ k ?_ ⟨dx, [(g, v2), (f, v)], rfl, upd_same, v2, [(f, v)], rfl, sc2.rp r2, v, [], rfl, sc.rp r1, rfl⟩
    obtain ⟨A, z, rl⟩ := e3.drop2
    refine ⟨_, SE.grow z rl (A' := fun _ => False) (fun b o hb => ?_) (fun _ q => q.elim) (fun _ q => q.elim)⟩
    have b1 : b ≠ dx := fun e => by rw [e, hdx] at hb; cases hb
    have b2 : b ≠ a := fun e => by rw [e, ha] at hb; cases hb
    rw [upd_ne b1, del_ne b2, upd_ne b1, upd_ne b2, upd_ne b1, upd_ne b2]
    exact hb
end
inductive FlD (f : Str) (d : D) : List (Str × D) → Prop
  | z {fs : List (Str × D)} : FlD f d ((f, d) :: fs)
  | s {g : Str} {e : D} {fs : List (Str × D)} (h : (f == g) = false) (n : FlD f d fs) : FlD f d ((g, e) :: fs)
theorem FlD.at_ {K : PySem.W.Frag} {A : Addr → Prop} {H : Hp} {f : Str} {d : D} {fs : List (Str × D)} (h : FlD f d fs) : ∀ {vs : List (Str × V)}, RpF K A H fs vs → ∃ y, vs.lookup f = some y ∧ Rp K A H d y := by
  induction h with
  | z =>
    intro vs hr
    unfold RpF at hr
    obtain ⟨x, r, rfl, hx, _⟩ := hr
    exact ⟨x, by simp, hx⟩
  | s hg n ih =>
    intro vs hr
    unfold RpF at hr
    obtain ⟨x, r, rfl, _, hr⟩ := hr
    obtain ⟨y, e, q⟩ := ih hr
    refine ⟨y, ?_, q⟩
    rw [List.lookup_cons, hg]
    exact e
section
variable {X : Cx} {c : Cc} {W : WX} {s : S} {Φ : D → S → Prop} {Ξ : PX} {N : List Str} {n f : Str} {i : Nat} {a C : Addr} {oe : Obj} {ps : List (Addr × Obj)} {p pos : Pos} {d : D} {fs : List (Str × D)}
theorem ew_xfs (hN : X.N = N) (T : XfC X.K C) (hno : PySem.W.findIn X.K (.ref C) f = some none) (hO : c.O0 = []) (hx : XH X.K c (.ref C) (some fs) oe) (hf : ∃ fl, oe.data = .fields fl) (ix : Ix N n i) (ha : At s.δ i (some (.ref a))) (hm : FlD f d fs) (sc : Sc d) (k : Φ d s)
    (hvis : Vis X.env.scope n := by first | exact Or.inl rfl | exact Or.inr (Or.inl rfl) | exact Or.inr (Or.inr rfl)) (hdb : (n == ("__debug__" : Str)) = false := by decide) (hcd : (n == ("__classdict__" : Str)) = false := by decide)
    (hb : attributeBase (.Name n p) f (X.suite a ((a, oe) :: ps)).env (eval (.Name n p) (X.suite a ((a, oe) :: ps)).env) = eval (.Name n p) (X.suite a ((a, oe) :: ps)).env := by rfl) : EW (X.suite a ((a, oe) :: ps)) c W s Φ Ξ (.Attribute (.Name n p) f pos) := by
  obtain ⟨d0, hz, dd, vs, ed, hd, hr⟩ := hx
  obtain ⟨y, hy, ry⟩ := hm.at_ hr
  refine PE.mono (pe_xf (X := X) T hno hz hf (pe_var (X := X.suite a ((a, oe) :: ps)) (i := i) (by show X.N[i]? = some n; rw [hN]; exact ix.get) hvis hdb hcd) hb) fun σ H Q ⟨τ, e0, kk, _⟩ => ?_
  obtain ⟨A, z, rl⟩ := id e0
  obtain ⟨u, hu, ru⟩ := z.slots i _ ha.get
  unfold Rp at ru
  subst ru
  exact ⟨.ref a, hu, rfl, rfl, dd, vs, y, ed, rl.keep dd _ hd (fun h => by rw [hO] at h; cases h), hy, kk _ _ s H k ⟨A, z.push (sc.rp ry), rl⟩⟩
end
section
variable {X : Cx} {c : Cc} {W : WX} {s : S} {Φ : D → S → Prop} {Ξ : PX} {pos : Pos} {i : Nat} {n y : Str} {p q q2 : Pos} {a E C : Addr} {oe : Obj} {ps : List (Addr × Obj)} {b : Bool} {N : List Str} {fs : List (Str × D)}
theorem ew_isEFs (hN : X.N = N) (hE : ExcC X.K E) (hO : c.O0 = []) (hx : XH X.K c (.ref E) (some fs) oe) (hf : ∃ fl, oe.data = .fields fl) (hm : X.mg "isinstance" = none) (hy : X.mg y = some (.ref C)) (ix : Ix N n i) (ha : At s.δ i (some (.ref a))) (kt : PySem.W.kitOne X.K (.ref E) (.ref C) = some b) (k : Φ (.bl b) s)
    (hvis : Vis X.env.scope n := by first | exact Or.inl rfl | exact Or.inr (Or.inl rfl) | exact Or.inr (Or.inr rfl)) (hdb : (n == ("__debug__" : Str)) = false := by decide) (hcd : (n == ("__classdict__" : Str)) = false := by decide) (hg : Gl X "isinstance" := by rfl) (hgy : Gl X y := by rfl) (hdy : (y == ("__debug__" : Str)) = false := by decide)
    (he : starEach [.Name n q, .Name y q2] X.env = (false, eval (.Name n q) X.env) :: starEach [.Name y q2] X.env := by rfl) (he2 : starEach [.Name y q2] X.env = (false, eval (.Name y q2) X.env) :: starEach [] X.env := by rfl) (hpl : (backTo pos (starEach [.Name y q2] X.env)).any (·.1) = false := by rfl) :
    EW (X.suite a ((a, oe) :: ps)) c W s Φ Ξ (.Call (.Name "isinstance" p) [.Name n q, .Name y q2] [] pos) := by
  obtain ⟨d, hz, dd, vs, rfl, hd, hr⟩ := hx
  refine PE.mono (pe_callB (X := X.suite a ((a, oe) :: ps)) (call_isED (X := X) hE hz hf) hg hm boot_isinstance (pa_cons (pe_var (X := X.suite a ((a, oe) :: ps)) (i := i) (by show X.N[i]? = some n; rw [hN]; exact ix.get) hvis hdb hcd) (pa_cons (pe_glob (X := X.suite a ((a, oe) :: ps)) (v := V.ref C) hgy hy rfl hdy) pa_nil he2) he) (by decide) (by decide) he hpl) fun σ H Q ⟨τ, e0, kk, hx⟩ => ?_
  obtain ⟨A, z, rl⟩ := id e0
  obtain ⟨w, h1, h2⟩ := z.slots i _ ha.get
  unfold Rp at h2
  subst h2
  exact ⟨.ref a, h1, V.ref C, .ref C, b, vs, rfl, rl.keep dd _ hd (fun h => by rw [hO] at h; cases h), fun u h => h, kt, kk _ _ s H k (e0.atom rfl)⟩
end
end DL

section
namespace L20
open PySem PySem.Spec PyProof.Rows L2 DL
def top (i : Nat) : Stmt := PySem.Challenge.pw_nailstrings_k20_lots_that_do_not_fit.main.body.getD i (.Pass ⟨0, 0, 0, 0⟩)
abbrev s_InvalidPattern_init : Stmt := inClass (top 5) 0
abbrev s_is_integer : Stmt := top 7
abbrev s_common_multiple : Stmt := top 8
abbrev s_divisors : Stmt := top 9
abbrev s_Place_init : Stmt := inClass (top 12) 0
abbrev s_Place_period : Stmt := inClass (top 12) 1
abbrev s_Place_parts : Stmt := inClass (top 12) 2
abbrev s_Place_call : Stmt := inClass (top 12) 3
abbrev s_Place_eq : Stmt := inClass (top 12) 4
abbrev s_Place_add : Stmt := inClass (top 12) 5
abbrev s_Place_radd : Stmt := inClass (top 12) 6
abbrev s_Place_sub : Stmt := inClass (top 12) 7
abbrev s_Place_rsub : Stmt := inClass (top 12) 8
abbrev s_Place_mul : Stmt := inClass (top 12) 9
abbrev s_Place_rmul : Stmt := inClass (top 12) 10
abbrev s_Place_neg : Stmt := inClass (top 12) 11
abbrev s_Place_floordiv : Stmt := inClass (top 12) 12
abbrev s_Place_rest : Stmt := inClass (top 12) 13
abbrev s_is_divisor : Stmt := top 13
abbrev s_value_in : Stmt := top 14
abbrev s_lifted : Stmt := top 15
abbrev s_added : Stmt := top 16
abbrev s_shortened : Stmt := top 17
abbrev s_least_parts : Stmt := top 18
abbrev s_made : Stmt := top 19
abbrev s_constant : Stmt := top 20
abbrev s_as_place : Stmt := top 21
abbrev s_place_of : Stmt := top 22
abbrev s_Lot_init : Stmt := inClass (top 27) 0
abbrev s_Lot_start : Stmt := inClass (top 27) 1
abbrev s_Lot_step : Stmt := inClass (top 27) 2
abbrev s_Lot_goal : Stmt := inClass (top 27) 3
abbrev s_Lot_pace : Stmt := inClass (top 27) 4
abbrev s_Lot_size : Stmt := inClass (top 27) 5
abbrev s_Lot_eq : Stmt := inClass (top 27) 6
abbrev s_Pattern_init : Stmt := inClass (top 28) 0
abbrev s_Pattern_lots : Stmt := inClass (top 28) 1
abbrev s_Pattern_least : Stmt := inClass (top 28) 2
abbrev s_Pattern_eq : Stmt := inClass (top 28) 3
abbrev s_is_place : Stmt := top 29
abbrev s_is_lots : Stmt := top 30
abbrev s_same_lot : Stmt := top 31
abbrev s_same_pattern : Stmt := top 32
abbrev s_period_of : Stmt := top 33
abbrev s_lines_of : Stmt := top 34
abbrev s_line_sum : Stmt := top 35
abbrev s_misfits : Stmt := top 36
abbrev s_first_kept : Stmt := top 37
abbrev s_first_misfit : Stmt := top 38
abbrev s__law_well : Stmt := top 40
abbrev s__law_draw : Stmt := top 41
abbrev s__law_at : Stmt := top 42
abbrev s__law_shape : Stmt := top 43
abbrev s__law_line : Stmt := top 44
abbrev s__law_size_line : Stmt := top 45
abbrev s__law_lot : Stmt := top 46
abbrev s__law_place : Stmt := top 47
abbrev s__law_made : Stmt := top 48
abbrev s__law_wild : Stmt := top 49
abbrev s__law_mild : Stmt := top 50
abbrev s__law_fits : Stmt := top 51
abbrev s__law_first_misfit : Stmt := top 52
abbrev s__law_said : Stmt := top 53
abbrev s__law_is_pair : Stmt := top 54
abbrev s_law : Stmt := top 55
def dfs : List He5.DefA := [⟨(fun K => He.ma K (He.ga K "InvalidPattern") "__init__"), "__init__", "InvalidPattern.__init__", defArgs s_InvalidPattern_init, defBody s_InvalidPattern_init, defScope s_InvalidPattern_init, [], []⟩,
  ⟨(fun K => He.ga K "is_integer"), "is_integer", "is_integer", defArgs s_is_integer, defBody s_is_integer, defScope s_is_integer, [], []⟩,
  ⟨(fun K => He.ga K "common_multiple"), "common_multiple", "common_multiple", defArgs s_common_multiple, defBody s_common_multiple, defScope s_common_multiple, [], []⟩,
  ⟨(fun K => He.ga K "divisors"), "divisors", "divisors", defArgs s_divisors, defBody s_divisors, defScope s_divisors, [], []⟩,
  ⟨(fun K => He.ma K (He.ga K "Place") "__init__"), "__init__", "Place.__init__", defArgs s_Place_init, defBody s_Place_init, defScope s_Place_init, [], []⟩,
  ⟨(fun K => DL.prAt K (He.ga K "Place") "period"), "period", "Place.period", defArgs s_Place_period, defBody s_Place_period, defScope s_Place_period, [], []⟩,
  ⟨(fun K => DL.prAt K (He.ga K "Place") "parts"), "parts", "Place.parts", defArgs s_Place_parts, defBody s_Place_parts, defScope s_Place_parts, [], []⟩,
  ⟨(fun K => He.ma K (He.ga K "Place") "__call__"), "__call__", "Place.__call__", defArgs s_Place_call, defBody s_Place_call, defScope s_Place_call, [], []⟩,
  ⟨(fun K => He.ma K (He.ga K "Place") "__eq__"), "__eq__", "Place.__eq__", defArgs s_Place_eq, defBody s_Place_eq, defScope s_Place_eq, [], []⟩,
  ⟨(fun K => He.ma K (He.ga K "Place") "__add__"), "__add__", "Place.__add__", defArgs s_Place_add, defBody s_Place_add, defScope s_Place_add, [], []⟩,
  ⟨(fun K => He.ma K (He.ga K "Place") "__radd__"), "__radd__", "Place.__radd__", defArgs s_Place_radd, defBody s_Place_radd, defScope s_Place_radd, [], []⟩,
  ⟨(fun K => He.ma K (He.ga K "Place") "__sub__"), "__sub__", "Place.__sub__", defArgs s_Place_sub, defBody s_Place_sub, defScope s_Place_sub, [], []⟩,
  ⟨(fun K => He.ma K (He.ga K "Place") "__rsub__"), "__rsub__", "Place.__rsub__", defArgs s_Place_rsub, defBody s_Place_rsub, defScope s_Place_rsub, [], []⟩,
  ⟨(fun K => He.ma K (He.ga K "Place") "__mul__"), "__mul__", "Place.__mul__", defArgs s_Place_mul, defBody s_Place_mul, defScope s_Place_mul, [], []⟩,
  ⟨(fun K => He.ma K (He.ga K "Place") "__rmul__"), "__rmul__", "Place.__rmul__", defArgs s_Place_rmul, defBody s_Place_rmul, defScope s_Place_rmul, [], []⟩,
  ⟨(fun K => He.ma K (He.ga K "Place") "__neg__"), "__neg__", "Place.__neg__", defArgs s_Place_neg, defBody s_Place_neg, defScope s_Place_neg, [], []⟩,
  ⟨(fun K => He.ma K (He.ga K "Place") "__floordiv__"), "__floordiv__", "Place.__floordiv__", defArgs s_Place_floordiv, defBody s_Place_floordiv, defScope s_Place_floordiv, [], []⟩,
  ⟨(fun K => He.ma K (He.ga K "Place") "rest"), "rest", "Place.rest", defArgs s_Place_rest, defBody s_Place_rest, defScope s_Place_rest, [], []⟩,
  ⟨(fun K => He.ga K "is_divisor"), "is_divisor", "is_divisor", defArgs s_is_divisor, defBody s_is_divisor, defScope s_is_divisor, [], []⟩,
  ⟨(fun K => He.ga K "value_in"), "value_in", "value_in", defArgs s_value_in, defBody s_value_in, defScope s_value_in, [], []⟩,
  ⟨(fun K => He.ga K "lifted"), "lifted", "lifted", defArgs s_lifted, defBody s_lifted, defScope s_lifted, [], []⟩,
  ⟨(fun K => He.ga K "added"), "added", "added", defArgs s_added, defBody s_added, defScope s_added, [], []⟩,
  ⟨(fun K => He.ga K "shortened"), "shortened", "shortened", defArgs s_shortened, defBody s_shortened, defScope s_shortened, [], []⟩,
  ⟨(fun K => He.ga K "least_parts"), "least_parts", "least_parts", defArgs s_least_parts, defBody s_least_parts, defScope s_least_parts, [], []⟩,
  ⟨(fun K => He.ga K "made"), "made", "made", defArgs s_made, defBody s_made, defScope s_made, [], []⟩,
  ⟨(fun K => He.ga K "constant"), "constant", "constant", defArgs s_constant, defBody s_constant, defScope s_constant, [], []⟩,
  ⟨(fun K => He.ga K "as_place"), "as_place", "as_place", defArgs s_as_place, defBody s_as_place, defScope s_as_place, [], []⟩,
  ⟨(fun K => He.ga K "place_of"), "place_of", "place_of", defArgs s_place_of, defBody s_place_of, defScope s_place_of, [], []⟩,
  ⟨(fun K => He.ma K (He.ga K "Lot") "__init__"), "__init__", "Lot.__init__", defArgs s_Lot_init, defBody s_Lot_init, defScope s_Lot_init, [], []⟩,
  ⟨(fun K => DL.prAt K (He.ga K "Lot") "start"), "start", "Lot.start", defArgs s_Lot_start, defBody s_Lot_start, defScope s_Lot_start, [], []⟩,
  ⟨(fun K => DL.prAt K (He.ga K "Lot") "step"), "step", "Lot.step", defArgs s_Lot_step, defBody s_Lot_step, defScope s_Lot_step, [], []⟩,
  ⟨(fun K => DL.prAt K (He.ga K "Lot") "goal"), "goal", "Lot.goal", defArgs s_Lot_goal, defBody s_Lot_goal, defScope s_Lot_goal, [], []⟩,
  ⟨(fun K => DL.prAt K (He.ga K "Lot") "pace"), "pace", "Lot.pace", defArgs s_Lot_pace, defBody s_Lot_pace, defScope s_Lot_pace, [], []⟩,
  ⟨(fun K => DL.prAt K (He.ga K "Lot") "size"), "size", "Lot.size", defArgs s_Lot_size, defBody s_Lot_size, defScope s_Lot_size, [], []⟩,
  ⟨(fun K => He.ma K (He.ga K "Lot") "__eq__"), "__eq__", "Lot.__eq__", defArgs s_Lot_eq, defBody s_Lot_eq, defScope s_Lot_eq, [], []⟩,
  ⟨(fun K => He.ma K (He.ga K "Pattern") "__init__"), "__init__", "Pattern.__init__", defArgs s_Pattern_init, defBody s_Pattern_init, defScope s_Pattern_init, [], []⟩,
  ⟨(fun K => DL.prAt K (He.ga K "Pattern") "lots"), "lots", "Pattern.lots", defArgs s_Pattern_lots, defBody s_Pattern_lots, defScope s_Pattern_lots, [], []⟩,
  ⟨(fun K => DL.prAt K (He.ga K "Pattern") "least"), "least", "Pattern.least", defArgs s_Pattern_least, defBody s_Pattern_least, defScope s_Pattern_least, [], []⟩,
  ⟨(fun K => He.ma K (He.ga K "Pattern") "__eq__"), "__eq__", "Pattern.__eq__", defArgs s_Pattern_eq, defBody s_Pattern_eq, defScope s_Pattern_eq, [], []⟩,
  ⟨(fun K => He.ga K "is_place"), "is_place", "is_place", defArgs s_is_place, defBody s_is_place, defScope s_is_place, [], []⟩,
  ⟨(fun K => He.ga K "is_lots"), "is_lots", "is_lots", defArgs s_is_lots, defBody s_is_lots, defScope s_is_lots, [], []⟩,
  ⟨(fun K => He.ga K "same_lot"), "same_lot", "same_lot", defArgs s_same_lot, defBody s_same_lot, defScope s_same_lot, [], []⟩,
  ⟨(fun K => He.ga K "same_pattern"), "same_pattern", "same_pattern", defArgs s_same_pattern, defBody s_same_pattern, defScope s_same_pattern, [], []⟩,
  ⟨(fun K => He.ga K "period_of"), "period_of", "period_of", defArgs s_period_of, defBody s_period_of, defScope s_period_of, [], []⟩,
  ⟨(fun K => He.ga K "lines_of"), "lines_of", "lines_of", defArgs s_lines_of, defBody s_lines_of, defScope s_lines_of, [], []⟩,
  ⟨(fun K => He.ga K "line_sum"), "line_sum", "line_sum", defArgs s_line_sum, defBody s_line_sum, defScope s_line_sum, [], []⟩,
  ⟨(fun K => He.ga K "misfits"), "misfits", "misfits", defArgs s_misfits, defBody s_misfits, defScope s_misfits, [], []⟩,
  ⟨(fun K => He.ga K "first_kept"), "first_kept", "first_kept", defArgs s_first_kept, defBody s_first_kept, defScope s_first_kept, [], []⟩,
  ⟨(fun K => He.ga K "first_misfit"), "first_misfit", "first_misfit", defArgs s_first_misfit, defBody s_first_misfit, defScope s_first_misfit, [], []⟩,
  ⟨(fun K => He.ga K "_law_well"), "_law_well", "_law_well", defArgs s__law_well, defBody s__law_well, defScope s__law_well, [], []⟩,
  ⟨(fun K => He.ga K "_law_draw"), "_law_draw", "_law_draw", defArgs s__law_draw, defBody s__law_draw, defScope s__law_draw, [], []⟩,
  ⟨(fun K => He.ga K "_law_at"), "_law_at", "_law_at", defArgs s__law_at, defBody s__law_at, defScope s__law_at, [], []⟩,
  ⟨(fun K => He.ga K "_law_shape"), "_law_shape", "_law_shape", defArgs s__law_shape, defBody s__law_shape, defScope s__law_shape, [], []⟩,
  ⟨(fun K => He.ga K "_law_line"), "_law_line", "_law_line", defArgs s__law_line, defBody s__law_line, defScope s__law_line, [], []⟩,
  ⟨(fun K => He.ga K "_law_size_line"), "_law_size_line", "_law_size_line", defArgs s__law_size_line, defBody s__law_size_line, defScope s__law_size_line, [], []⟩,
  ⟨(fun K => He.ga K "_law_lot"), "_law_lot", "_law_lot", defArgs s__law_lot, defBody s__law_lot, defScope s__law_lot, [], []⟩,
  ⟨(fun K => He.ga K "_law_place"), "_law_place", "_law_place", defArgs s__law_place, defBody s__law_place, defScope s__law_place, [], []⟩,
  ⟨(fun K => He.ga K "_law_made"), "_law_made", "_law_made", defArgs s__law_made, defBody s__law_made, defScope s__law_made, [], []⟩,
  ⟨(fun K => He.ga K "_law_wild"), "_law_wild", "_law_wild", defArgs s__law_wild, defBody s__law_wild, defScope s__law_wild, [], []⟩,
  ⟨(fun K => He.ga K "_law_mild"), "_law_mild", "_law_mild", defArgs s__law_mild, defBody s__law_mild, defScope s__law_mild, [], []⟩,
  ⟨(fun K => He.ga K "_law_fits"), "_law_fits", "_law_fits", defArgs s__law_fits, defBody s__law_fits, defScope s__law_fits, [], []⟩,
  ⟨(fun K => He.ga K "_law_first_misfit"), "_law_first_misfit", "_law_first_misfit", defArgs s__law_first_misfit, defBody s__law_first_misfit, defScope s__law_first_misfit, [], []⟩,
  ⟨(fun K => He.ga K "_law_said"), "_law_said", "_law_said", defArgs s__law_said, defBody s__law_said, defScope s__law_said, [], []⟩,
  ⟨(fun K => He.ga K "_law_is_pair"), "_law_is_pair", "_law_is_pair", defArgs s__law_is_pair, defBody s__law_is_pair, defScope s__law_is_pair, [], []⟩,
  ⟨(fun K => He.ga K "law"), "law", "law", defArgs s_law, defBody s_law, defScope s_law, [], []⟩]
def mores (K : PySem.W.Frag) : List Bool := [He.tupB K "STEPS" [.int 1, .int 2], He.tupB K "PACES" [.int 1, .int 2, .int (-1), .int (-2)], DL.insB K (He.ga K "Place"), DL.propB K (He.ga K "Place") "period", DL.propB K (He.ga K "Place") "parts", DL.callB K (He.ga K "Place"), DL.insB K (He.ga K "Lot"), DL.propB K (He.ga K "Lot") "start", DL.propB K (He.ga K "Lot") "step", DL.propB K (He.ga K "Lot") "goal", DL.propB K (He.ga K "Lot") "pace", DL.propB K (He.ga K "Lot") "size", DL.insB K (He.ga K "Pattern"), DL.propB K (He.ga K "Pattern") "lots", DL.propB K (He.ga K "Pattern") "least", PySem.W.selfFirst K (He.ga K "Place"), DL.opIB K (He.ga K "Place") "add", DL.opIB K (He.ga K "Place") "sub", DL.opIB K (He.ga K "Place") "mul", DL.opIB K (He.ga K "Place") "floordiv", PySem.W.notFirst K (He.ga K "Place") (.type "int"), PySem.W.notFirst K (He.ga K "Place") (.type "str"), PySem.W.notFirst K (He.ga K "Place") (.type "list"), PySem.W.notFirst K (He.ga K "Place") (.type "tuple"), PySem.W.notFirst K (He.ga K "Place") (.type "NoneType"), PySem.W.notFirst K (He.ga K "Place") (.type "bool"), PySem.W.notFirst K (He.ga K "Place") (.ref (He.ga K "Lot")), PySem.W.notFirst K (He.ga K "Place") (.ref (He.ga K "Pattern")), PySem.W.notFirst K (He.ga K "Lot") (.type "int"), PySem.W.notFirst K (He.ga K "Lot") (.type "str"), PySem.W.notFirst K (He.ga K "Lot") (.type "list"), PySem.W.notFirst K (He.ga K "Lot") (.type "tuple"), PySem.W.notFirst K (He.ga K "Lot") (.type "NoneType"), PySem.W.notFirst K (He.ga K "Lot") (.type "bool"), PySem.W.notFirst K (He.ga K "Lot") (.ref (He.ga K "Place")), PySem.W.notFirst K (He.ga K "Lot") (.ref (He.ga K "Pattern")), PySem.W.notFirst K (He.ga K "Pattern") (.type "int"), PySem.W.notFirst K (He.ga K "Pattern") (.type "str"), PySem.W.notFirst K (He.ga K "Pattern") (.type "list"), PySem.W.notFirst K (He.ga K "Pattern") (.type "tuple"), PySem.W.notFirst K (He.ga K "Pattern") (.type "NoneType"), PySem.W.notFirst K (He.ga K "Pattern") (.type "bool"), PySem.W.notFirst K (He.ga K "Pattern") (.ref (He.ga K "Place")), PySem.W.notFirst K (He.ga K "Pattern") (.ref (He.ga K "Lot")), DL.kitB K (.ref (He.ga K "Place")) (.ref (He.ga K "Place")) true, DL.kitB K (.ref (He.ga K "Place")) (.ref (He.ga K "Lot")) false, DL.kitB K (.ref (He.ga K "Place")) (.ref (He.ga K "Pattern")) false, DL.kitB K (.type "int") (.ref (He.ga K "Place")) false, DL.kitB K (.type "bool") (.ref (He.ga K "Place")) false, DL.kitB K (.type "str") (.ref (He.ga K "Place")) false, DL.kitB K (.type "list") (.ref (He.ga K "Place")) false, DL.kitB K (.type "tuple") (.ref (He.ga K "Place")) false, DL.kitB K (.type "NoneType") (.ref (He.ga K "Place")) false, DL.kitB K (.ref (He.ga K "Place")) (.type "int") false, DL.kitB K (.ref (He.ga K "Place")) (.type "bool") false, DL.kitB K (.ref (He.ga K "Place")) (.type "str") false, DL.kitB K (.ref (He.ga K "Place")) (.type "list") false, DL.kitB K (.ref (He.ga K "Place")) (.type "tuple") false, DL.kitB K (.ref (He.ga K "Lot")) (.ref (He.ga K "Place")) false, DL.kitB K (.ref (He.ga K "Lot")) (.ref (He.ga K "Lot")) true, DL.kitB K (.ref (He.ga K "Lot")) (.ref (He.ga K "Pattern")) false, DL.kitB K (.type "int") (.ref (He.ga K "Lot")) false, DL.kitB K (.type "bool") (.ref (He.ga K "Lot")) false, DL.kitB K (.type "str") (.ref (He.ga K "Lot")) false, DL.kitB K (.type "list") (.ref (He.ga K "Lot")) false, DL.kitB K (.type "tuple") (.ref (He.ga K "Lot")) false, DL.kitB K (.type "NoneType") (.ref (He.ga K "Lot")) false, DL.kitB K (.ref (He.ga K "Lot")) (.type "int") false, DL.kitB K (.ref (He.ga K "Lot")) (.type "bool") false, DL.kitB K (.ref (He.ga K "Lot")) (.type "str") false, DL.kitB K (.ref (He.ga K "Lot")) (.type "list") false, DL.kitB K (.ref (He.ga K "Lot")) (.type "tuple") false, DL.kitB K (.ref (He.ga K "Pattern")) (.ref (He.ga K "Place")) false, DL.kitB K (.ref (He.ga K "Pattern")) (.ref (He.ga K "Lot")) false, DL.kitB K (.ref (He.ga K "Pattern")) (.ref (He.ga K "Pattern")) true, DL.kitB K (.type "int") (.ref (He.ga K "Pattern")) false, DL.kitB K (.type "bool") (.ref (He.ga K "Pattern")) false, DL.kitB K (.type "str") (.ref (He.ga K "Pattern")) false, DL.kitB K (.type "list") (.ref (He.ga K "Pattern")) false, DL.kitB K (.type "tuple") (.ref (He.ga K "Pattern")) false, DL.kitB K (.type "NoneType") (.ref (He.ga K "Pattern")) false, DL.kitB K (.ref (He.ga K "Pattern")) (.type "int") false, DL.kitB K (.ref (He.ga K "Pattern")) (.type "bool") false, DL.kitB K (.ref (He.ga K "Pattern")) (.type "str") false, DL.kitB K (.ref (He.ga K "Pattern")) (.type "list") false, DL.kitB K (.ref (He.ga K "Pattern")) (.type "tuple") false, DL.excB K (He.ga K "NailError"), DL.kitB K (.ref (He.ga K "NailError")) (.ref (He.ga K "NailError")) true, DL.kitB K (.ref (He.ga K "NailError")) (.ref (He.ga K "InvalidPlace")) false, DL.kitB K (.ref (He.ga K "NailError")) (.ref (He.ga K "TooLong")) false, DL.kitB K (.ref (He.ga K "NailError")) (.ref (He.ga K "InvalidLot")) false, DL.kitB K (.ref (He.ga K "NailError")) (.ref (He.ga K "InvalidPattern")) false, DL.kitB K (.ref (He.ga K "NailError")) (.type "ValueError") true, DL.excB K (He.ga K "InvalidPlace"), DL.kitB K (.ref (He.ga K "InvalidPlace")) (.ref (He.ga K "NailError")) true, DL.kitB K (.ref (He.ga K "InvalidPlace")) (.ref (He.ga K "InvalidPlace")) true, DL.kitB K (.ref (He.ga K "InvalidPlace")) (.ref (He.ga K "TooLong")) false, DL.kitB K (.ref (He.ga K "InvalidPlace")) (.ref (He.ga K "InvalidLot")) false, DL.kitB K (.ref (He.ga K "InvalidPlace")) (.ref (He.ga K "InvalidPattern")) false, DL.kitB K (.ref (He.ga K "InvalidPlace")) (.type "ValueError") true, DL.excB K (He.ga K "TooLong"), DL.kitB K (.ref (He.ga K "TooLong")) (.ref (He.ga K "NailError")) true, DL.kitB K (.ref (He.ga K "TooLong")) (.ref (He.ga K "InvalidPlace")) false, DL.kitB K (.ref (He.ga K "TooLong")) (.ref (He.ga K "TooLong")) true, DL.kitB K (.ref (He.ga K "TooLong")) (.ref (He.ga K "InvalidLot")) false, DL.kitB K (.ref (He.ga K "TooLong")) (.ref (He.ga K "InvalidPattern")) false, DL.kitB K (.ref (He.ga K "TooLong")) (.type "ValueError") true, DL.excB K (He.ga K "InvalidLot"), DL.kitB K (.ref (He.ga K "InvalidLot")) (.ref (He.ga K "NailError")) true, DL.kitB K (.ref (He.ga K "InvalidLot")) (.ref (He.ga K "InvalidPlace")) false, DL.kitB K (.ref (He.ga K "InvalidLot")) (.ref (He.ga K "TooLong")) false, DL.kitB K (.ref (He.ga K "InvalidLot")) (.ref (He.ga K "InvalidLot")) true, DL.kitB K (.ref (He.ga K "InvalidLot")) (.ref (He.ga K "InvalidPattern")) false, DL.kitB K (.ref (He.ga K "InvalidLot")) (.type "ValueError") true, DL.excB K (He.ga K "InvalidPattern"), DL.kitB K (.ref (He.ga K "InvalidPattern")) (.ref (He.ga K "NailError")) true, DL.kitB K (.ref (He.ga K "InvalidPattern")) (.ref (He.ga K "InvalidPlace")) false, DL.kitB K (.ref (He.ga K "InvalidPattern")) (.ref (He.ga K "TooLong")) false, DL.kitB K (.ref (He.ga K "InvalidPattern")) (.ref (He.ga K "InvalidLot")) false, DL.kitB K (.ref (He.ga K "InvalidPattern")) (.ref (He.ga K "InvalidPattern")) true, DL.kitB K (.ref (He.ga K "InvalidPattern")) (.type "ValueError") true, DL.oexB K (He.ga K "InvalidPattern"), DL.eqO (PySem.W.findIn K (.ref (He.ga K "InvalidPattern")) "__init__") (some (some (.ref (He.ma K (He.ga K "InvalidPattern") "__init__")))), decide (PySem.W.typeIn K (.ref (He.ma K (He.ga K "InvalidPattern") "__init__")) = some (.type "function")), xfB K (He.ga K "InvalidPattern"), DL.eqO (PySem.W.findIn K (.ref (He.ga K "InvalidPattern")) "lot") (some none), DL.eqO (PySem.W.findIn K (.ref (He.ga K "InvalidPattern")) "n") (some none)]
def more (K : PySem.W.Frag) : Bool := (mores K).all id
theorem more_at {K : PySem.W.Frag} (h : more K = true) (i : Nat) {b : Bool} (hb : (mores K)[i]? = some b) : b = true := List.all_eq_true.mp h b (List.mem_of_getElem? hb)
def fa : List He.Fa := [.free "ValueError", .free "abs", .free "bool", .free "enumerate", .free "int", .free "isinstance", .free "len", .free "list", .free "max", .free "min", .free "range", .free "tuple", .free "zip", .glo "is_integer", .glo "common_multiple", .glo "divisors", .glo "is_divisor", .glo "value_in", .glo "lifted", .glo "added", .glo "shortened", .glo "least_parts", .glo "made", .glo "constant", .glo "as_place", .glo "place_of", .glo "is_place", .glo "is_lots", .glo "same_lot", .glo "same_pattern", .glo "period_of", .glo "lines_of", .glo "line_sum", .glo "misfits", .glo "first_kept", .glo "first_misfit", .glo "_law_well", .glo "_law_draw", .glo "_law_at", .glo "_law_shape", .glo "_law_line", .glo "_law_size_line", .glo "_law_lot", .glo "_law_place", .glo "_law_made", .glo "_law_wild", .glo "_law_mild", .glo "_law_fits", .glo "_law_first_misfit", .glo "_law_said", .glo "_law_is_pair", .glo "law", .glo "NailError", .exc "NailError", .glo "InvalidPlace", .exc "InvalidPlace", .glo "TooLong", .exc "TooLong", .glo "InvalidLot", .exc "InvalidLot", .glo "InvalidPattern", .exm "NailError" "NailError" true, .exm "NailError" "InvalidPlace" false, .exm "NailError" "TooLong" false, .exm "NailError" "InvalidLot" false, .exm "NailError" "InvalidPattern" false, .exm "InvalidPlace" "NailError" true, .exm "InvalidPlace" "InvalidPlace" true, .exm "InvalidPlace" "TooLong" false, .exm "InvalidPlace" "InvalidLot" false, .exm "InvalidPlace" "InvalidPattern" false, .exm "TooLong" "NailError" true, .exm "TooLong" "InvalidPlace" false, .exm "TooLong" "TooLong" true, .exm "TooLong" "InvalidLot" false, .exm "TooLong" "InvalidPattern" false, .exm "InvalidLot" "NailError" true, .exm "InvalidLot" "InvalidPlace" false, .exm "InvalidLot" "TooLong" false, .exm "InvalidLot" "InvalidLot" true, .exm "InvalidLot" "InvalidPattern" false, .exm "InvalidPattern" "NailError" true, .exm "InvalidPattern" "InvalidPlace" false, .exm "InvalidPattern" "TooLong" false, .exm "InvalidPattern" "InvalidLot" false, .exm "InvalidPattern" "InvalidPattern" true, .int "LONGEST" 24, .int "MOST_LOTS" 6, .glo "STEPS", .glo "PACES", .glo "Place", .cls "Place", .mkr "Place", .meth "Place" "__call__", .meth "Place" "__eq__", .meth "Place" "__add__", .meth "Place" "__radd__", .meth "Place" "__sub__", .meth "Place" "__rsub__", .meth "Place" "__mul__", .meth "Place" "__rmul__", .meth "Place" "__neg__", .meth "Place" "__floordiv__", .meth "Place" "rest", .noat "Place" "rows", .glo "Lot", .cls "Lot", .mkr "Lot", .meth "Lot" "__eq__", .noat "Lot" "upper", .noat "Lot" "stride", .noat "Lot" "lower", .noat "Lot" "lean", .noat "Lot" "many", .glo "Pattern", .cls "Pattern", .mkr "Pattern", .meth "Pattern" "__eq__", .noat "Pattern" "row", .noat "Pattern" "first"]
def ex (K : PySem.W.Frag) : Bool := fa.all (fun f => f.ok K) && more K
structure Tx (K : PySem.W.Frag) (mg : Str → Option Value) : Prop where
  f_ValueError : mg "ValueError" = none
  f_abs : mg "abs" = none
  f_bool : mg "bool" = none
  f_enumerate : mg "enumerate" = none
  f_int : mg "int" = none
  f_isinstance : mg "isinstance" = none
  f_len : mg "len" = none
  f_list : mg "list" = none
  f_max : mg "max" = none
  f_min : mg "min" = none
  f_range : mg "range" = none
  f_tuple : mg "tuple" = none
  f_zip : mg "zip" = none
  g_is_integer : mg "is_integer" = some (.ref (He.ga K "is_integer"))
  g_common_multiple : mg "common_multiple" = some (.ref (He.ga K "common_multiple"))
  g_divisors : mg "divisors" = some (.ref (He.ga K "divisors"))
  g_is_divisor : mg "is_divisor" = some (.ref (He.ga K "is_divisor"))
  g_value_in : mg "value_in" = some (.ref (He.ga K "value_in"))
  g_lifted : mg "lifted" = some (.ref (He.ga K "lifted"))
  g_added : mg "added" = some (.ref (He.ga K "added"))
  g_shortened : mg "shortened" = some (.ref (He.ga K "shortened"))
  g_least_parts : mg "least_parts" = some (.ref (He.ga K "least_parts"))
  g_made : mg "made" = some (.ref (He.ga K "made"))
  g_constant : mg "constant" = some (.ref (He.ga K "constant"))
  g_as_place : mg "as_place" = some (.ref (He.ga K "as_place"))
  g_place_of : mg "place_of" = some (.ref (He.ga K "place_of"))
  g_is_place : mg "is_place" = some (.ref (He.ga K "is_place"))
  g_is_lots : mg "is_lots" = some (.ref (He.ga K "is_lots"))
  g_same_lot : mg "same_lot" = some (.ref (He.ga K "same_lot"))
  g_same_pattern : mg "same_pattern" = some (.ref (He.ga K "same_pattern"))
  g_period_of : mg "period_of" = some (.ref (He.ga K "period_of"))
  g_lines_of : mg "lines_of" = some (.ref (He.ga K "lines_of"))
  g_line_sum : mg "line_sum" = some (.ref (He.ga K "line_sum"))
  g_misfits : mg "misfits" = some (.ref (He.ga K "misfits"))
  g_first_kept : mg "first_kept" = some (.ref (He.ga K "first_kept"))
  g_first_misfit : mg "first_misfit" = some (.ref (He.ga K "first_misfit"))
  g__law_well : mg "_law_well" = some (.ref (He.ga K "_law_well"))
  g__law_draw : mg "_law_draw" = some (.ref (He.ga K "_law_draw"))
  g__law_at : mg "_law_at" = some (.ref (He.ga K "_law_at"))
  g__law_shape : mg "_law_shape" = some (.ref (He.ga K "_law_shape"))
  g__law_line : mg "_law_line" = some (.ref (He.ga K "_law_line"))
  g__law_size_line : mg "_law_size_line" = some (.ref (He.ga K "_law_size_line"))
  g__law_lot : mg "_law_lot" = some (.ref (He.ga K "_law_lot"))
  g__law_place : mg "_law_place" = some (.ref (He.ga K "_law_place"))
  g__law_made : mg "_law_made" = some (.ref (He.ga K "_law_made"))
  g__law_wild : mg "_law_wild" = some (.ref (He.ga K "_law_wild"))
  g__law_mild : mg "_law_mild" = some (.ref (He.ga K "_law_mild"))
  g__law_fits : mg "_law_fits" = some (.ref (He.ga K "_law_fits"))
  g__law_first_misfit : mg "_law_first_misfit" = some (.ref (He.ga K "_law_first_misfit"))
  g__law_said : mg "_law_said" = some (.ref (He.ga K "_law_said"))
  g__law_is_pair : mg "_law_is_pair" = some (.ref (He.ga K "_law_is_pair"))
  g_law : mg "law" = some (.ref (He.ga K "law"))
  g_NailError : mg "NailError" = some (.ref (He.ga K "NailError"))
  x_NailError : PySem.W.excIn K (He.ga K "NailError") He.veBase "ValueError.__new__" = true ∧ PySem.W.keepIn K (.ref (He.ga K "NailError")) = true ∧ PySem.W.subIn K (.ref (He.ga K "NailError")) (.type "BaseException") = some true ∧ PySem.W.typeIn K (.ref (He.ga K "NailError")) = some (.type "type")
  g_InvalidPlace : mg "InvalidPlace" = some (.ref (He.ga K "InvalidPlace"))
  x_InvalidPlace : PySem.W.excIn K (He.ga K "InvalidPlace") He.veBase "ValueError.__new__" = true ∧ PySem.W.keepIn K (.ref (He.ga K "InvalidPlace")) = true ∧ PySem.W.subIn K (.ref (He.ga K "InvalidPlace")) (.type "BaseException") = some true ∧ PySem.W.typeIn K (.ref (He.ga K "InvalidPlace")) = some (.type "type")
  g_TooLong : mg "TooLong" = some (.ref (He.ga K "TooLong"))
  x_TooLong : PySem.W.excIn K (He.ga K "TooLong") He.veBase "ValueError.__new__" = true ∧ PySem.W.keepIn K (.ref (He.ga K "TooLong")) = true ∧ PySem.W.subIn K (.ref (He.ga K "TooLong")) (.type "BaseException") = some true ∧ PySem.W.typeIn K (.ref (He.ga K "TooLong")) = some (.type "type")
  g_InvalidLot : mg "InvalidLot" = some (.ref (He.ga K "InvalidLot"))
  x_InvalidLot : PySem.W.excIn K (He.ga K "InvalidLot") He.veBase "ValueError.__new__" = true ∧ PySem.W.keepIn K (.ref (He.ga K "InvalidLot")) = true ∧ PySem.W.subIn K (.ref (He.ga K "InvalidLot")) (.type "BaseException") = some true ∧ PySem.W.typeIn K (.ref (He.ga K "InvalidLot")) = some (.type "type")
  g_InvalidPattern : mg "InvalidPattern" = some (.ref (He.ga K "InvalidPattern"))
  m_NailError_NailError : PySem.W.exmOne K (.ref (He.ga K "NailError")) (.ref (He.ga K "NailError")) = some true
  m_NailError_InvalidPlace : PySem.W.exmOne K (.ref (He.ga K "NailError")) (.ref (He.ga K "InvalidPlace")) = some false
  m_NailError_TooLong : PySem.W.exmOne K (.ref (He.ga K "NailError")) (.ref (He.ga K "TooLong")) = some false
  m_NailError_InvalidLot : PySem.W.exmOne K (.ref (He.ga K "NailError")) (.ref (He.ga K "InvalidLot")) = some false
  m_NailError_InvalidPattern : PySem.W.exmOne K (.ref (He.ga K "NailError")) (.ref (He.ga K "InvalidPattern")) = some false
  m_InvalidPlace_NailError : PySem.W.exmOne K (.ref (He.ga K "InvalidPlace")) (.ref (He.ga K "NailError")) = some true
  m_InvalidPlace_InvalidPlace : PySem.W.exmOne K (.ref (He.ga K "InvalidPlace")) (.ref (He.ga K "InvalidPlace")) = some true
  m_InvalidPlace_TooLong : PySem.W.exmOne K (.ref (He.ga K "InvalidPlace")) (.ref (He.ga K "TooLong")) = some false
  m_InvalidPlace_InvalidLot : PySem.W.exmOne K (.ref (He.ga K "InvalidPlace")) (.ref (He.ga K "InvalidLot")) = some false
  m_InvalidPlace_InvalidPattern : PySem.W.exmOne K (.ref (He.ga K "InvalidPlace")) (.ref (He.ga K "InvalidPattern")) = some false
  m_TooLong_NailError : PySem.W.exmOne K (.ref (He.ga K "TooLong")) (.ref (He.ga K "NailError")) = some true
  m_TooLong_InvalidPlace : PySem.W.exmOne K (.ref (He.ga K "TooLong")) (.ref (He.ga K "InvalidPlace")) = some false
  m_TooLong_TooLong : PySem.W.exmOne K (.ref (He.ga K "TooLong")) (.ref (He.ga K "TooLong")) = some true
  m_TooLong_InvalidLot : PySem.W.exmOne K (.ref (He.ga K "TooLong")) (.ref (He.ga K "InvalidLot")) = some false
  m_TooLong_InvalidPattern : PySem.W.exmOne K (.ref (He.ga K "TooLong")) (.ref (He.ga K "InvalidPattern")) = some false
  m_InvalidLot_NailError : PySem.W.exmOne K (.ref (He.ga K "InvalidLot")) (.ref (He.ga K "NailError")) = some true
  m_InvalidLot_InvalidPlace : PySem.W.exmOne K (.ref (He.ga K "InvalidLot")) (.ref (He.ga K "InvalidPlace")) = some false
  m_InvalidLot_TooLong : PySem.W.exmOne K (.ref (He.ga K "InvalidLot")) (.ref (He.ga K "TooLong")) = some false
  m_InvalidLot_InvalidLot : PySem.W.exmOne K (.ref (He.ga K "InvalidLot")) (.ref (He.ga K "InvalidLot")) = some true
  m_InvalidLot_InvalidPattern : PySem.W.exmOne K (.ref (He.ga K "InvalidLot")) (.ref (He.ga K "InvalidPattern")) = some false
  m_InvalidPattern_NailError : PySem.W.exmOne K (.ref (He.ga K "InvalidPattern")) (.ref (He.ga K "NailError")) = some true
  m_InvalidPattern_InvalidPlace : PySem.W.exmOne K (.ref (He.ga K "InvalidPattern")) (.ref (He.ga K "InvalidPlace")) = some false
  m_InvalidPattern_TooLong : PySem.W.exmOne K (.ref (He.ga K "InvalidPattern")) (.ref (He.ga K "TooLong")) = some false
  m_InvalidPattern_InvalidLot : PySem.W.exmOne K (.ref (He.ga K "InvalidPattern")) (.ref (He.ga K "InvalidLot")) = some false
  m_InvalidPattern_InvalidPattern : PySem.W.exmOne K (.ref (He.ga K "InvalidPattern")) (.ref (He.ga K "InvalidPattern")) = some true
  c_LONGEST : ∃ t, mg "LONGEST" = some (.int 24 t)
  c_MOST_LOTS : ∃ t, mg "MOST_LOTS" = some (.int 6 t)
  g_STEPS : mg "STEPS" = some (.ref (He.ga K "STEPS"))
  g_PACES : mg "PACES" = some (.ref (He.ga K "PACES"))
  g_Place : mg "Place" = some (.ref (He.ga K "Place"))
  cl_Place : Cls K (He.ga K "Place")
  mk_Place : Mk K (He.ga K "Place") (He.ma K (He.ga K "Place") "__init__")
  me_Place_call : Meth K (He.ga K "Place") "__call__" (He.ma K (He.ga K "Place") "__call__")
  me_Place_eq : Meth K (He.ga K "Place") "__eq__" (He.ma K (He.ga K "Place") "__eq__")
  me_Place_add : Meth K (He.ga K "Place") "__add__" (He.ma K (He.ga K "Place") "__add__")
  me_Place_radd : Meth K (He.ga K "Place") "__radd__" (He.ma K (He.ga K "Place") "__radd__")
  me_Place_sub : Meth K (He.ga K "Place") "__sub__" (He.ma K (He.ga K "Place") "__sub__")
  me_Place_rsub : Meth K (He.ga K "Place") "__rsub__" (He.ma K (He.ga K "Place") "__rsub__")
  me_Place_mul : Meth K (He.ga K "Place") "__mul__" (He.ma K (He.ga K "Place") "__mul__")
  me_Place_rmul : Meth K (He.ga K "Place") "__rmul__" (He.ma K (He.ga K "Place") "__rmul__")
  me_Place_neg : Meth K (He.ga K "Place") "__neg__" (He.ma K (He.ga K "Place") "__neg__")
  me_Place_floordiv : Meth K (He.ga K "Place") "__floordiv__" (He.ma K (He.ga K "Place") "__floordiv__")
  me_Place_rest : Meth K (He.ga K "Place") "rest" (He.ma K (He.ga K "Place") "rest")
  no_Place_rows : NoAttr K (He.ga K "Place") "rows"
  g_Lot : mg "Lot" = some (.ref (He.ga K "Lot"))
  cl_Lot : Cls K (He.ga K "Lot")
  mk_Lot : Mk K (He.ga K "Lot") (He.ma K (He.ga K "Lot") "__init__")
  me_Lot_eq : Meth K (He.ga K "Lot") "__eq__" (He.ma K (He.ga K "Lot") "__eq__")
  no_Lot_upper : NoAttr K (He.ga K "Lot") "upper"
  no_Lot_stride : NoAttr K (He.ga K "Lot") "stride"
  no_Lot_lower : NoAttr K (He.ga K "Lot") "lower"
  no_Lot_lean : NoAttr K (He.ga K "Lot") "lean"
  no_Lot_many : NoAttr K (He.ga K "Lot") "many"
  g_Pattern : mg "Pattern" = some (.ref (He.ga K "Pattern"))
  cl_Pattern : Cls K (He.ga K "Pattern")
  mk_Pattern : Mk K (He.ga K "Pattern") (He.ma K (He.ga K "Pattern") "__init__")
  me_Pattern_eq : Meth K (He.ga K "Pattern") "__eq__" (He.ma K (He.ga K "Pattern") "__eq__")
  no_Pattern_row : NoAttr K (He.ga K "Pattern") "row"
  no_Pattern_first : NoAttr K (He.ga K "Pattern") "first"
  t_STEPS : ∀ H, SqT K H (He.ga K "STEPS") ([V.int 1, V.int 2] : List V)
  t_PACES : ∀ H, SqT K H (He.ga K "PACES") ([V.int 1, V.int 2, V.int (-1), V.int (-2)] : List V)
  in_Place : InsTy K (He.ga K "Place")
  pr_Place_period : PropOf K (He.ga K "Place") "period" (He.ma K (He.ga K "Place") "period") (DL.prAt K (He.ga K "Place") "period")
  pr_Place_parts : PropOf K (He.ga K "Place") "parts" (He.ma K (He.ga K "Place") "parts") (DL.prAt K (He.ga K "Place") "parts")
  ca_Place : StX.CallO K (He.ga K "Place") (He.ma K (He.ga K "Place") "__call__")
  in_Lot : InsTy K (He.ga K "Lot")
  pr_Lot_start : PropOf K (He.ga K "Lot") "start" (He.ma K (He.ga K "Lot") "start") (DL.prAt K (He.ga K "Lot") "start")
  pr_Lot_step : PropOf K (He.ga K "Lot") "step" (He.ma K (He.ga K "Lot") "step") (DL.prAt K (He.ga K "Lot") "step")
  pr_Lot_goal : PropOf K (He.ga K "Lot") "goal" (He.ma K (He.ga K "Lot") "goal") (DL.prAt K (He.ga K "Lot") "goal")
  pr_Lot_pace : PropOf K (He.ga K "Lot") "pace" (He.ma K (He.ga K "Lot") "pace") (DL.prAt K (He.ga K "Lot") "pace")
  pr_Lot_size : PropOf K (He.ga K "Lot") "size" (He.ma K (He.ga K "Lot") "size") (DL.prAt K (He.ga K "Lot") "size")
  in_Pattern : InsTy K (He.ga K "Pattern")
  pr_Pattern_lots : PropOf K (He.ga K "Pattern") "lots" (He.ma K (He.ga K "Pattern") "lots") (DL.prAt K (He.ga K "Pattern") "lots")
  pr_Pattern_least : PropOf K (He.ga K "Pattern") "least" (He.ma K (He.ga K "Pattern") "least") (DL.prAt K (He.ga K "Pattern") "least")
  sf_Place : PySem.W.selfFirst K (He.ga K "Place") = true
  oi_Place_add : OpI K (He.ga K "Place") "add"
  oi_Place_sub : OpI K (He.ga K "Place") "sub"
  oi_Place_mul : OpI K (He.ga K "Place") "mul"
  oi_Place_floordiv : OpI K (He.ga K "Place") "floordiv"
  nf_Place_int : PySem.W.notFirst K (He.ga K "Place") (.type "int") = true
  nf_Place_str : PySem.W.notFirst K (He.ga K "Place") (.type "str") = true
  nf_Place_list : PySem.W.notFirst K (He.ga K "Place") (.type "list") = true
  nf_Place_tuple : PySem.W.notFirst K (He.ga K "Place") (.type "tuple") = true
  nf_Place_NoneType : PySem.W.notFirst K (He.ga K "Place") (.type "NoneType") = true
  nf_Place_bool : PySem.W.notFirst K (He.ga K "Place") (.type "bool") = true
  nf_Place_Lot : PySem.W.notFirst K (He.ga K "Place") (.ref (He.ga K "Lot")) = true
  nf_Place_Pattern : PySem.W.notFirst K (He.ga K "Place") (.ref (He.ga K "Pattern")) = true
  nf_Lot_int : PySem.W.notFirst K (He.ga K "Lot") (.type "int") = true
  nf_Lot_str : PySem.W.notFirst K (He.ga K "Lot") (.type "str") = true
  nf_Lot_list : PySem.W.notFirst K (He.ga K "Lot") (.type "list") = true
  nf_Lot_tuple : PySem.W.notFirst K (He.ga K "Lot") (.type "tuple") = true
  nf_Lot_NoneType : PySem.W.notFirst K (He.ga K "Lot") (.type "NoneType") = true
  nf_Lot_bool : PySem.W.notFirst K (He.ga K "Lot") (.type "bool") = true
  nf_Lot_Place : PySem.W.notFirst K (He.ga K "Lot") (.ref (He.ga K "Place")) = true
  nf_Lot_Pattern : PySem.W.notFirst K (He.ga K "Lot") (.ref (He.ga K "Pattern")) = true
  nf_Pattern_int : PySem.W.notFirst K (He.ga K "Pattern") (.type "int") = true
  nf_Pattern_str : PySem.W.notFirst K (He.ga K "Pattern") (.type "str") = true
  nf_Pattern_list : PySem.W.notFirst K (He.ga K "Pattern") (.type "list") = true
  nf_Pattern_tuple : PySem.W.notFirst K (He.ga K "Pattern") (.type "tuple") = true
  nf_Pattern_NoneType : PySem.W.notFirst K (He.ga K "Pattern") (.type "NoneType") = true
  nf_Pattern_bool : PySem.W.notFirst K (He.ga K "Pattern") (.type "bool") = true
  nf_Pattern_Place : PySem.W.notFirst K (He.ga K "Pattern") (.ref (He.ga K "Place")) = true
  nf_Pattern_Lot : PySem.W.notFirst K (He.ga K "Pattern") (.ref (He.ga K "Lot")) = true
  k_Place_Place : PySem.W.kitOne K (.ref (He.ga K "Place")) (.ref (He.ga K "Place")) = some true
  k_Place_Lot : PySem.W.kitOne K (.ref (He.ga K "Place")) (.ref (He.ga K "Lot")) = some false
  k_Place_Pattern : PySem.W.kitOne K (.ref (He.ga K "Place")) (.ref (He.ga K "Pattern")) = some false
  k_int_Place : PySem.W.kitOne K (.type "int") (.ref (He.ga K "Place")) = some false
  k_bool_Place : PySem.W.kitOne K (.type "bool") (.ref (He.ga K "Place")) = some false
  k_str_Place : PySem.W.kitOne K (.type "str") (.ref (He.ga K "Place")) = some false
  k_list_Place : PySem.W.kitOne K (.type "list") (.ref (He.ga K "Place")) = some false
  k_tuple_Place : PySem.W.kitOne K (.type "tuple") (.ref (He.ga K "Place")) = some false
  k_NoneType_Place : PySem.W.kitOne K (.type "NoneType") (.ref (He.ga K "Place")) = some false
  k_Place_int : PySem.W.kitOne K (.ref (He.ga K "Place")) (.type "int") = some false
  k_Place_bool : PySem.W.kitOne K (.ref (He.ga K "Place")) (.type "bool") = some false
  k_Place_str : PySem.W.kitOne K (.ref (He.ga K "Place")) (.type "str") = some false
  k_Place_list : PySem.W.kitOne K (.ref (He.ga K "Place")) (.type "list") = some false
  k_Place_tuple : PySem.W.kitOne K (.ref (He.ga K "Place")) (.type "tuple") = some false
  k_Lot_Place : PySem.W.kitOne K (.ref (He.ga K "Lot")) (.ref (He.ga K "Place")) = some false
  k_Lot_Lot : PySem.W.kitOne K (.ref (He.ga K "Lot")) (.ref (He.ga K "Lot")) = some true
  k_Lot_Pattern : PySem.W.kitOne K (.ref (He.ga K "Lot")) (.ref (He.ga K "Pattern")) = some false
  k_int_Lot : PySem.W.kitOne K (.type "int") (.ref (He.ga K "Lot")) = some false
  k_bool_Lot : PySem.W.kitOne K (.type "bool") (.ref (He.ga K "Lot")) = some false
  k_str_Lot : PySem.W.kitOne K (.type "str") (.ref (He.ga K "Lot")) = some false
  k_list_Lot : PySem.W.kitOne K (.type "list") (.ref (He.ga K "Lot")) = some false
  k_tuple_Lot : PySem.W.kitOne K (.type "tuple") (.ref (He.ga K "Lot")) = some false
  k_NoneType_Lot : PySem.W.kitOne K (.type "NoneType") (.ref (He.ga K "Lot")) = some false
  k_Lot_int : PySem.W.kitOne K (.ref (He.ga K "Lot")) (.type "int") = some false
  k_Lot_bool : PySem.W.kitOne K (.ref (He.ga K "Lot")) (.type "bool") = some false
  k_Lot_str : PySem.W.kitOne K (.ref (He.ga K "Lot")) (.type "str") = some false
  k_Lot_list : PySem.W.kitOne K (.ref (He.ga K "Lot")) (.type "list") = some false
  k_Lot_tuple : PySem.W.kitOne K (.ref (He.ga K "Lot")) (.type "tuple") = some false
  k_Pattern_Place : PySem.W.kitOne K (.ref (He.ga K "Pattern")) (.ref (He.ga K "Place")) = some false
  k_Pattern_Lot : PySem.W.kitOne K (.ref (He.ga K "Pattern")) (.ref (He.ga K "Lot")) = some false
  k_Pattern_Pattern : PySem.W.kitOne K (.ref (He.ga K "Pattern")) (.ref (He.ga K "Pattern")) = some true
  k_int_Pattern : PySem.W.kitOne K (.type "int") (.ref (He.ga K "Pattern")) = some false
  k_bool_Pattern : PySem.W.kitOne K (.type "bool") (.ref (He.ga K "Pattern")) = some false
  k_str_Pattern : PySem.W.kitOne K (.type "str") (.ref (He.ga K "Pattern")) = some false
  k_list_Pattern : PySem.W.kitOne K (.type "list") (.ref (He.ga K "Pattern")) = some false
  k_tuple_Pattern : PySem.W.kitOne K (.type "tuple") (.ref (He.ga K "Pattern")) = some false
  k_NoneType_Pattern : PySem.W.kitOne K (.type "NoneType") (.ref (He.ga K "Pattern")) = some false
  k_Pattern_int : PySem.W.kitOne K (.ref (He.ga K "Pattern")) (.type "int") = some false
  k_Pattern_bool : PySem.W.kitOne K (.ref (He.ga K "Pattern")) (.type "bool") = some false
  k_Pattern_str : PySem.W.kitOne K (.ref (He.ga K "Pattern")) (.type "str") = some false
  k_Pattern_list : PySem.W.kitOne K (.ref (He.ga K "Pattern")) (.type "list") = some false
  k_Pattern_tuple : PySem.W.kitOne K (.ref (He.ga K "Pattern")) (.type "tuple") = some false
  e_NailError : ExcC K (He.ga K "NailError")
  k_NailError_NailError : PySem.W.kitOne K (.ref (He.ga K "NailError")) (.ref (He.ga K "NailError")) = some true
  k_NailError_InvalidPlace : PySem.W.kitOne K (.ref (He.ga K "NailError")) (.ref (He.ga K "InvalidPlace")) = some false
  k_NailError_TooLong : PySem.W.kitOne K (.ref (He.ga K "NailError")) (.ref (He.ga K "TooLong")) = some false
  k_NailError_InvalidLot : PySem.W.kitOne K (.ref (He.ga K "NailError")) (.ref (He.ga K "InvalidLot")) = some false
  k_NailError_InvalidPattern : PySem.W.kitOne K (.ref (He.ga K "NailError")) (.ref (He.ga K "InvalidPattern")) = some false
  k_NailError_ValueError : PySem.W.kitOne K (.ref (He.ga K "NailError")) (.type "ValueError") = some true
  e_InvalidPlace : ExcC K (He.ga K "InvalidPlace")
  k_InvalidPlace_NailError : PySem.W.kitOne K (.ref (He.ga K "InvalidPlace")) (.ref (He.ga K "NailError")) = some true
  k_InvalidPlace_InvalidPlace : PySem.W.kitOne K (.ref (He.ga K "InvalidPlace")) (.ref (He.ga K "InvalidPlace")) = some true
  k_InvalidPlace_TooLong : PySem.W.kitOne K (.ref (He.ga K "InvalidPlace")) (.ref (He.ga K "TooLong")) = some false
  k_InvalidPlace_InvalidLot : PySem.W.kitOne K (.ref (He.ga K "InvalidPlace")) (.ref (He.ga K "InvalidLot")) = some false
  k_InvalidPlace_InvalidPattern : PySem.W.kitOne K (.ref (He.ga K "InvalidPlace")) (.ref (He.ga K "InvalidPattern")) = some false
  k_InvalidPlace_ValueError : PySem.W.kitOne K (.ref (He.ga K "InvalidPlace")) (.type "ValueError") = some true
  e_TooLong : ExcC K (He.ga K "TooLong")
  k_TooLong_NailError : PySem.W.kitOne K (.ref (He.ga K "TooLong")) (.ref (He.ga K "NailError")) = some true
  k_TooLong_InvalidPlace : PySem.W.kitOne K (.ref (He.ga K "TooLong")) (.ref (He.ga K "InvalidPlace")) = some false
  k_TooLong_TooLong : PySem.W.kitOne K (.ref (He.ga K "TooLong")) (.ref (He.ga K "TooLong")) = some true
  k_TooLong_InvalidLot : PySem.W.kitOne K (.ref (He.ga K "TooLong")) (.ref (He.ga K "InvalidLot")) = some false
  k_TooLong_InvalidPattern : PySem.W.kitOne K (.ref (He.ga K "TooLong")) (.ref (He.ga K "InvalidPattern")) = some false
  k_TooLong_ValueError : PySem.W.kitOne K (.ref (He.ga K "TooLong")) (.type "ValueError") = some true
  e_InvalidLot : ExcC K (He.ga K "InvalidLot")
  k_InvalidLot_NailError : PySem.W.kitOne K (.ref (He.ga K "InvalidLot")) (.ref (He.ga K "NailError")) = some true
  k_InvalidLot_InvalidPlace : PySem.W.kitOne K (.ref (He.ga K "InvalidLot")) (.ref (He.ga K "InvalidPlace")) = some false
  k_InvalidLot_TooLong : PySem.W.kitOne K (.ref (He.ga K "InvalidLot")) (.ref (He.ga K "TooLong")) = some false
  k_InvalidLot_InvalidLot : PySem.W.kitOne K (.ref (He.ga K "InvalidLot")) (.ref (He.ga K "InvalidLot")) = some true
  k_InvalidLot_InvalidPattern : PySem.W.kitOne K (.ref (He.ga K "InvalidLot")) (.ref (He.ga K "InvalidPattern")) = some false
  k_InvalidLot_ValueError : PySem.W.kitOne K (.ref (He.ga K "InvalidLot")) (.type "ValueError") = some true
  e_InvalidPattern : ExcC K (He.ga K "InvalidPattern")
  k_InvalidPattern_NailError : PySem.W.kitOne K (.ref (He.ga K "InvalidPattern")) (.ref (He.ga K "NailError")) = some true
  k_InvalidPattern_InvalidPlace : PySem.W.kitOne K (.ref (He.ga K "InvalidPattern")) (.ref (He.ga K "InvalidPlace")) = some false
  k_InvalidPattern_TooLong : PySem.W.kitOne K (.ref (He.ga K "InvalidPattern")) (.ref (He.ga K "TooLong")) = some false
  k_InvalidPattern_InvalidLot : PySem.W.kitOne K (.ref (He.ga K "InvalidPattern")) (.ref (He.ga K "InvalidLot")) = some false
  k_InvalidPattern_InvalidPattern : PySem.W.kitOne K (.ref (He.ga K "InvalidPattern")) (.ref (He.ga K "InvalidPattern")) = some true
  k_InvalidPattern_ValueError : PySem.W.kitOne K (.ref (He.ga K "InvalidPattern")) (.type "ValueError") = some true
  ox_InvalidPattern : OexC K (He.ga K "InvalidPattern")
  fi_InvalidPattern : PySem.W.findIn K (.ref (He.ga K "InvalidPattern")) "__init__" = some (some (.ref (He.ma K (He.ga K "InvalidPattern") "__init__")))
  ti_InvalidPattern : PySem.W.typeIn K (.ref (He.ma K (He.ga K "InvalidPattern") "__init__")) = some (.type "function")
  xf_InvalidPattern : XfC K (He.ga K "InvalidPattern")
  nn_InvalidPattern_lot : PySem.W.findIn K (.ref (He.ga K "InvalidPattern")) "lot" = some none
  nn_InvalidPattern_n : PySem.W.findIn K (.ref (He.ga K "InvalidPattern")) "n" = some none
theorem fact_at {K : PySem.W.Frag} (h : ex K = true) (i : Nat) {f : He.Fa} (hf : fa[i]? = some f) : f.ok K = true := List.all_eq_true.mp (He.ba h).1 f (List.mem_of_getElem? hf)
theorem tx_mk {K : PySem.W.Frag} {h : Heap} {mg : Str → Option Value} (X : K.In h) (G : h.Ns mainGlobals mg) (c : ex K = true) : Tx K mg where
  f_ValueError := He.free_ok X G (fact_at c 0 rfl)
  f_abs := He.free_ok X G (fact_at c 1 rfl)
  f_bool := He.free_ok X G (fact_at c 2 rfl)
  f_enumerate := He.free_ok X G (fact_at c 3 rfl)
  f_int := He.free_ok X G (fact_at c 4 rfl)
  f_isinstance := He.free_ok X G (fact_at c 5 rfl)
  f_len := He.free_ok X G (fact_at c 6 rfl)
  f_list := He.free_ok X G (fact_at c 7 rfl)
  f_max := He.free_ok X G (fact_at c 8 rfl)
  f_min := He.free_ok X G (fact_at c 9 rfl)
  f_range := He.free_ok X G (fact_at c 10 rfl)
  f_tuple := He.free_ok X G (fact_at c 11 rfl)
  f_zip := He.free_ok X G (fact_at c 12 rfl)
  g_is_integer := He.glo_ok X G (fact_at c 13 rfl)
  g_common_multiple := He.glo_ok X G (fact_at c 14 rfl)
  g_divisors := He.glo_ok X G (fact_at c 15 rfl)
  g_is_divisor := He.glo_ok X G (fact_at c 16 rfl)
  g_value_in := He.glo_ok X G (fact_at c 17 rfl)
  g_lifted := He.glo_ok X G (fact_at c 18 rfl)
  g_added := He.glo_ok X G (fact_at c 19 rfl)
  g_shortened := He.glo_ok X G (fact_at c 20 rfl)
  g_least_parts := He.glo_ok X G (fact_at c 21 rfl)
  g_made := He.glo_ok X G (fact_at c 22 rfl)
  g_constant := He.glo_ok X G (fact_at c 23 rfl)
  g_as_place := He.glo_ok X G (fact_at c 24 rfl)
  g_place_of := He.glo_ok X G (fact_at c 25 rfl)
  g_is_place := He.glo_ok X G (fact_at c 26 rfl)
  g_is_lots := He.glo_ok X G (fact_at c 27 rfl)
  g_same_lot := He.glo_ok X G (fact_at c 28 rfl)
  g_same_pattern := He.glo_ok X G (fact_at c 29 rfl)
  g_period_of := He.glo_ok X G (fact_at c 30 rfl)
  g_lines_of := He.glo_ok X G (fact_at c 31 rfl)
  g_line_sum := He.glo_ok X G (fact_at c 32 rfl)
  g_misfits := He.glo_ok X G (fact_at c 33 rfl)
  g_first_kept := He.glo_ok X G (fact_at c 34 rfl)
  g_first_misfit := He.glo_ok X G (fact_at c 35 rfl)
  g__law_well := He.glo_ok X G (fact_at c 36 rfl)
  g__law_draw := He.glo_ok X G (fact_at c 37 rfl)
  g__law_at := He.glo_ok X G (fact_at c 38 rfl)
  g__law_shape := He.glo_ok X G (fact_at c 39 rfl)
  g__law_line := He.glo_ok X G (fact_at c 40 rfl)
  g__law_size_line := He.glo_ok X G (fact_at c 41 rfl)
  g__law_lot := He.glo_ok X G (fact_at c 42 rfl)
  g__law_place := He.glo_ok X G (fact_at c 43 rfl)
  g__law_made := He.glo_ok X G (fact_at c 44 rfl)
  g__law_wild := He.glo_ok X G (fact_at c 45 rfl)
  g__law_mild := He.glo_ok X G (fact_at c 46 rfl)
  g__law_fits := He.glo_ok X G (fact_at c 47 rfl)
  g__law_first_misfit := He.glo_ok X G (fact_at c 48 rfl)
  g__law_said := He.glo_ok X G (fact_at c 49 rfl)
  g__law_is_pair := He.glo_ok X G (fact_at c 50 rfl)
  g_law := He.glo_ok X G (fact_at c 51 rfl)
  g_NailError := He.glo_ok X G (fact_at c 52 rfl)
  x_NailError := He.exc_ok (fact_at c 53 rfl)
  g_InvalidPlace := He.glo_ok X G (fact_at c 54 rfl)
  x_InvalidPlace := He.exc_ok (fact_at c 55 rfl)
  g_TooLong := He.glo_ok X G (fact_at c 56 rfl)
  x_TooLong := He.exc_ok (fact_at c 57 rfl)
  g_InvalidLot := He.glo_ok X G (fact_at c 58 rfl)
  x_InvalidLot := He.exc_ok (fact_at c 59 rfl)
  g_InvalidPattern := He.glo_ok X G (fact_at c 60 rfl)
  m_NailError_NailError := He.exm_ok (fact_at c 61 rfl)
  m_NailError_InvalidPlace := He.exm_ok (fact_at c 62 rfl)
  m_NailError_TooLong := He.exm_ok (fact_at c 63 rfl)
  m_NailError_InvalidLot := He.exm_ok (fact_at c 64 rfl)
  m_NailError_InvalidPattern := He.exm_ok (fact_at c 65 rfl)
  m_InvalidPlace_NailError := He.exm_ok (fact_at c 66 rfl)
  m_InvalidPlace_InvalidPlace := He.exm_ok (fact_at c 67 rfl)
  m_InvalidPlace_TooLong := He.exm_ok (fact_at c 68 rfl)
  m_InvalidPlace_InvalidLot := He.exm_ok (fact_at c 69 rfl)
  m_InvalidPlace_InvalidPattern := He.exm_ok (fact_at c 70 rfl)
  m_TooLong_NailError := He.exm_ok (fact_at c 71 rfl)
  m_TooLong_InvalidPlace := He.exm_ok (fact_at c 72 rfl)
  m_TooLong_TooLong := He.exm_ok (fact_at c 73 rfl)
  m_TooLong_InvalidLot := He.exm_ok (fact_at c 74 rfl)
  m_TooLong_InvalidPattern := He.exm_ok (fact_at c 75 rfl)
  m_InvalidLot_NailError := He.exm_ok (fact_at c 76 rfl)
  m_InvalidLot_InvalidPlace := He.exm_ok (fact_at c 77 rfl)
  m_InvalidLot_TooLong := He.exm_ok (fact_at c 78 rfl)
  m_InvalidLot_InvalidLot := He.exm_ok (fact_at c 79 rfl)
  m_InvalidLot_InvalidPattern := He.exm_ok (fact_at c 80 rfl)
  m_InvalidPattern_NailError := He.exm_ok (fact_at c 81 rfl)
  m_InvalidPattern_InvalidPlace := He.exm_ok (fact_at c 82 rfl)
  m_InvalidPattern_TooLong := He.exm_ok (fact_at c 83 rfl)
  m_InvalidPattern_InvalidLot := He.exm_ok (fact_at c 84 rfl)
  m_InvalidPattern_InvalidPattern := He.exm_ok (fact_at c 85 rfl)
  c_LONGEST := He.int_ok X G (fact_at c 86 rfl)
  c_MOST_LOTS := He.int_ok X G (fact_at c 87 rfl)
  g_STEPS := He.glo_ok X G (fact_at c 88 rfl)
  g_PACES := He.glo_ok X G (fact_at c 89 rfl)
  g_Place := He.glo_ok X G (fact_at c 90 rfl)
  cl_Place := He.cls_ok (fact_at c 91 rfl)
  mk_Place := He.mkr_ok (fact_at c 92 rfl)
  me_Place_call := He.meth_ok (fact_at c 93 rfl)
  me_Place_eq := He.meth_ok (fact_at c 94 rfl)
  me_Place_add := He.meth_ok (fact_at c 95 rfl)
  me_Place_radd := He.meth_ok (fact_at c 96 rfl)
  me_Place_sub := He.meth_ok (fact_at c 97 rfl)
  me_Place_rsub := He.meth_ok (fact_at c 98 rfl)
  me_Place_mul := He.meth_ok (fact_at c 99 rfl)
  me_Place_rmul := He.meth_ok (fact_at c 100 rfl)
  me_Place_neg := He.meth_ok (fact_at c 101 rfl)
  me_Place_floordiv := He.meth_ok (fact_at c 102 rfl)
  me_Place_rest := He.meth_ok (fact_at c 103 rfl)
  no_Place_rows := He.noat_ok (fact_at c 104 rfl)
  g_Lot := He.glo_ok X G (fact_at c 105 rfl)
  cl_Lot := He.cls_ok (fact_at c 106 rfl)
  mk_Lot := He.mkr_ok (fact_at c 107 rfl)
  me_Lot_eq := He.meth_ok (fact_at c 108 rfl)
  no_Lot_upper := He.noat_ok (fact_at c 109 rfl)
  no_Lot_stride := He.noat_ok (fact_at c 110 rfl)
  no_Lot_lower := He.noat_ok (fact_at c 111 rfl)
  no_Lot_lean := He.noat_ok (fact_at c 112 rfl)
  no_Lot_many := He.noat_ok (fact_at c 113 rfl)
  g_Pattern := He.glo_ok X G (fact_at c 114 rfl)
  cl_Pattern := He.cls_ok (fact_at c 115 rfl)
  mk_Pattern := He.mkr_ok (fact_at c 116 rfl)
  me_Pattern_eq := He.meth_ok (fact_at c 117 rfl)
  no_Pattern_row := He.noat_ok (fact_at c 118 rfl)
  no_Pattern_first := He.noat_ok (fact_at c 119 rfl)
  t_STEPS := fun H => He.tupB_ok (more_at (He.ba c).2 0 rfl) H
  t_PACES := fun H => He.tupB_ok (more_at (He.ba c).2 1 rfl) H
  in_Place := DL.insB_ok (He.cls_ok (fact_at c 91 rfl)) (more_at (He.ba c).2 2 rfl)
  pr_Place_period := DL.propB_ok (more_at (He.ba c).2 3 rfl)
  pr_Place_parts := DL.propB_ok (more_at (He.ba c).2 4 rfl)
  ca_Place := DL.callB_ok (more_at (He.ba c).2 5 rfl)
  in_Lot := DL.insB_ok (He.cls_ok (fact_at c 106 rfl)) (more_at (He.ba c).2 6 rfl)
  pr_Lot_start := DL.propB_ok (more_at (He.ba c).2 7 rfl)
  pr_Lot_step := DL.propB_ok (more_at (He.ba c).2 8 rfl)
  pr_Lot_goal := DL.propB_ok (more_at (He.ba c).2 9 rfl)
  pr_Lot_pace := DL.propB_ok (more_at (He.ba c).2 10 rfl)
  pr_Lot_size := DL.propB_ok (more_at (He.ba c).2 11 rfl)
  in_Pattern := DL.insB_ok (He.cls_ok (fact_at c 115 rfl)) (more_at (He.ba c).2 12 rfl)
  pr_Pattern_lots := DL.propB_ok (more_at (He.ba c).2 13 rfl)
  pr_Pattern_least := DL.propB_ok (more_at (He.ba c).2 14 rfl)
  sf_Place := more_at (He.ba c).2 15 rfl
  oi_Place_add := DL.opIB_ok (more_at (He.ba c).2 16 rfl)
  oi_Place_sub := DL.opIB_ok (more_at (He.ba c).2 17 rfl)
  oi_Place_mul := DL.opIB_ok (more_at (He.ba c).2 18 rfl)
  oi_Place_floordiv := DL.opIB_ok (more_at (He.ba c).2 19 rfl)
  nf_Place_int := more_at (He.ba c).2 20 rfl
  nf_Place_str := more_at (He.ba c).2 21 rfl
  nf_Place_list := more_at (He.ba c).2 22 rfl
  nf_Place_tuple := more_at (He.ba c).2 23 rfl
  nf_Place_NoneType := more_at (He.ba c).2 24 rfl
  nf_Place_bool := more_at (He.ba c).2 25 rfl
  nf_Place_Lot := more_at (He.ba c).2 26 rfl
  nf_Place_Pattern := more_at (He.ba c).2 27 rfl
  nf_Lot_int := more_at (He.ba c).2 28 rfl
  nf_Lot_str := more_at (He.ba c).2 29 rfl
  nf_Lot_list := more_at (He.ba c).2 30 rfl
  nf_Lot_tuple := more_at (He.ba c).2 31 rfl
  nf_Lot_NoneType := more_at (He.ba c).2 32 rfl
  nf_Lot_bool := more_at (He.ba c).2 33 rfl
  nf_Lot_Place := more_at (He.ba c).2 34 rfl
  nf_Lot_Pattern := more_at (He.ba c).2 35 rfl
  nf_Pattern_int := more_at (He.ba c).2 36 rfl
  nf_Pattern_str := more_at (He.ba c).2 37 rfl
  nf_Pattern_list := more_at (He.ba c).2 38 rfl
  nf_Pattern_tuple := more_at (He.ba c).2 39 rfl
  nf_Pattern_NoneType := more_at (He.ba c).2 40 rfl
  nf_Pattern_bool := more_at (He.ba c).2 41 rfl
  nf_Pattern_Place := more_at (He.ba c).2 42 rfl
  nf_Pattern_Lot := more_at (He.ba c).2 43 rfl
  k_Place_Place := DL.kitB_ok (more_at (He.ba c).2 44 rfl)
  k_Place_Lot := DL.kitB_ok (more_at (He.ba c).2 45 rfl)
  k_Place_Pattern := DL.kitB_ok (more_at (He.ba c).2 46 rfl)
  k_int_Place := DL.kitB_ok (more_at (He.ba c).2 47 rfl)
  k_bool_Place := DL.kitB_ok (more_at (He.ba c).2 48 rfl)
  k_str_Place := DL.kitB_ok (more_at (He.ba c).2 49 rfl)
  k_list_Place := DL.kitB_ok (more_at (He.ba c).2 50 rfl)
  k_tuple_Place := DL.kitB_ok (more_at (He.ba c).2 51 rfl)
  k_NoneType_Place := DL.kitB_ok (more_at (He.ba c).2 52 rfl)
  k_Place_int := DL.kitB_ok (more_at (He.ba c).2 53 rfl)
  k_Place_bool := DL.kitB_ok (more_at (He.ba c).2 54 rfl)
  k_Place_str := DL.kitB_ok (more_at (He.ba c).2 55 rfl)
  k_Place_list := DL.kitB_ok (more_at (He.ba c).2 56 rfl)
  k_Place_tuple := DL.kitB_ok (more_at (He.ba c).2 57 rfl)
  k_Lot_Place := DL.kitB_ok (more_at (He.ba c).2 58 rfl)
  k_Lot_Lot := DL.kitB_ok (more_at (He.ba c).2 59 rfl)
  k_Lot_Pattern := DL.kitB_ok (more_at (He.ba c).2 60 rfl)
  k_int_Lot := DL.kitB_ok (more_at (He.ba c).2 61 rfl)
  k_bool_Lot := DL.kitB_ok (more_at (He.ba c).2 62 rfl)
  k_str_Lot := DL.kitB_ok (more_at (He.ba c).2 63 rfl)
  k_list_Lot := DL.kitB_ok (more_at (He.ba c).2 64 rfl)
  k_tuple_Lot := DL.kitB_ok (more_at (He.ba c).2 65 rfl)
  k_NoneType_Lot := DL.kitB_ok (more_at (He.ba c).2 66 rfl)
  k_Lot_int := DL.kitB_ok (more_at (He.ba c).2 67 rfl)
  k_Lot_bool := DL.kitB_ok (more_at (He.ba c).2 68 rfl)
  k_Lot_str := DL.kitB_ok (more_at (He.ba c).2 69 rfl)
  k_Lot_list := DL.kitB_ok (more_at (He.ba c).2 70 rfl)
  k_Lot_tuple := DL.kitB_ok (more_at (He.ba c).2 71 rfl)
  k_Pattern_Place := DL.kitB_ok (more_at (He.ba c).2 72 rfl)
  k_Pattern_Lot := DL.kitB_ok (more_at (He.ba c).2 73 rfl)
  k_Pattern_Pattern := DL.kitB_ok (more_at (He.ba c).2 74 rfl)
  k_int_Pattern := DL.kitB_ok (more_at (He.ba c).2 75 rfl)
  k_bool_Pattern := DL.kitB_ok (more_at (He.ba c).2 76 rfl)
  k_str_Pattern := DL.kitB_ok (more_at (He.ba c).2 77 rfl)
  k_list_Pattern := DL.kitB_ok (more_at (He.ba c).2 78 rfl)
  k_tuple_Pattern := DL.kitB_ok (more_at (He.ba c).2 79 rfl)
  k_NoneType_Pattern := DL.kitB_ok (more_at (He.ba c).2 80 rfl)
  k_Pattern_int := DL.kitB_ok (more_at (He.ba c).2 81 rfl)
  k_Pattern_bool := DL.kitB_ok (more_at (He.ba c).2 82 rfl)
  k_Pattern_str := DL.kitB_ok (more_at (He.ba c).2 83 rfl)
  k_Pattern_list := DL.kitB_ok (more_at (He.ba c).2 84 rfl)
  k_Pattern_tuple := DL.kitB_ok (more_at (He.ba c).2 85 rfl)
  e_NailError := DL.excB_ok (more_at (He.ba c).2 86 rfl)
  k_NailError_NailError := DL.kitB_ok (more_at (He.ba c).2 87 rfl)
  k_NailError_InvalidPlace := DL.kitB_ok (more_at (He.ba c).2 88 rfl)
  k_NailError_TooLong := DL.kitB_ok (more_at (He.ba c).2 89 rfl)
  k_NailError_InvalidLot := DL.kitB_ok (more_at (He.ba c).2 90 rfl)
  k_NailError_InvalidPattern := DL.kitB_ok (more_at (He.ba c).2 91 rfl)
  k_NailError_ValueError := DL.kitB_ok (more_at (He.ba c).2 92 rfl)
  e_InvalidPlace := DL.excB_ok (more_at (He.ba c).2 93 rfl)
  k_InvalidPlace_NailError := DL.kitB_ok (more_at (He.ba c).2 94 rfl)
  k_InvalidPlace_InvalidPlace := DL.kitB_ok (more_at (He.ba c).2 95 rfl)
  k_InvalidPlace_TooLong := DL.kitB_ok (more_at (He.ba c).2 96 rfl)
  k_InvalidPlace_InvalidLot := DL.kitB_ok (more_at (He.ba c).2 97 rfl)
  k_InvalidPlace_InvalidPattern := DL.kitB_ok (more_at (He.ba c).2 98 rfl)
  k_InvalidPlace_ValueError := DL.kitB_ok (more_at (He.ba c).2 99 rfl)
  e_TooLong := DL.excB_ok (more_at (He.ba c).2 100 rfl)
  k_TooLong_NailError := DL.kitB_ok (more_at (He.ba c).2 101 rfl)
  k_TooLong_InvalidPlace := DL.kitB_ok (more_at (He.ba c).2 102 rfl)
  k_TooLong_TooLong := DL.kitB_ok (more_at (He.ba c).2 103 rfl)
  k_TooLong_InvalidLot := DL.kitB_ok (more_at (He.ba c).2 104 rfl)
  k_TooLong_InvalidPattern := DL.kitB_ok (more_at (He.ba c).2 105 rfl)
  k_TooLong_ValueError := DL.kitB_ok (more_at (He.ba c).2 106 rfl)
  e_InvalidLot := DL.excB_ok (more_at (He.ba c).2 107 rfl)
  k_InvalidLot_NailError := DL.kitB_ok (more_at (He.ba c).2 108 rfl)
  k_InvalidLot_InvalidPlace := DL.kitB_ok (more_at (He.ba c).2 109 rfl)
  k_InvalidLot_TooLong := DL.kitB_ok (more_at (He.ba c).2 110 rfl)
  k_InvalidLot_InvalidLot := DL.kitB_ok (more_at (He.ba c).2 111 rfl)
  k_InvalidLot_InvalidPattern := DL.kitB_ok (more_at (He.ba c).2 112 rfl)
  k_InvalidLot_ValueError := DL.kitB_ok (more_at (He.ba c).2 113 rfl)
  e_InvalidPattern := DL.excB_ok (more_at (He.ba c).2 114 rfl)
  k_InvalidPattern_NailError := DL.kitB_ok (more_at (He.ba c).2 115 rfl)
  k_InvalidPattern_InvalidPlace := DL.kitB_ok (more_at (He.ba c).2 116 rfl)
  k_InvalidPattern_TooLong := DL.kitB_ok (more_at (He.ba c).2 117 rfl)
  k_InvalidPattern_InvalidLot := DL.kitB_ok (more_at (He.ba c).2 118 rfl)
  k_InvalidPattern_InvalidPattern := DL.kitB_ok (more_at (He.ba c).2 119 rfl)
  k_InvalidPattern_ValueError := DL.kitB_ok (more_at (He.ba c).2 120 rfl)
  ox_InvalidPattern := DL.oexB_ok (more_at (He.ba c).2 121 rfl)
  fi_InvalidPattern := DL.eqO_ok (more_at (He.ba c).2 122 rfl)
  ti_InvalidPattern := of_decide_eq_true (more_at (He.ba c).2 123 rfl)
  xf_InvalidPattern := xfB_ok (more_at (He.ba c).2 124 rfl)
  nn_InvalidPattern_lot := DL.eqO_ok (more_at (He.ba c).2 125 rfl)
  nn_InvalidPattern_n := DL.eqO_ok (more_at (He.ba c).2 126 rfl)
theorem fd_InvalidPattern_init {K : PySem.W.Frag} (c : SaysM ex dfs K) : ∃ fd, FunD K "__init__" "InvalidPattern.__init__" (defArgs s_InvalidPattern_init) (defBody s_InvalidPattern_init) (defScope s_InvalidPattern_init) [] [] ((fun K => He.ma K (He.ga K "InvalidPattern") "__init__") K) fd := c.def_ 0 rfl
theorem fd_is_integer {K : PySem.W.Frag} (c : SaysM ex dfs K) : ∃ fd, FunD K "is_integer" "is_integer" (defArgs s_is_integer) (defBody s_is_integer) (defScope s_is_integer) [] [] ((fun K => He.ga K "is_integer") K) fd := c.def_ 1 rfl
theorem fd_common_multiple {K : PySem.W.Frag} (c : SaysM ex dfs K) : ∃ fd, FunD K "common_multiple" "common_multiple" (defArgs s_common_multiple) (defBody s_common_multiple) (defScope s_common_multiple) [] [] ((fun K => He.ga K "common_multiple") K) fd := c.def_ 2 rfl
theorem fd_divisors {K : PySem.W.Frag} (c : SaysM ex dfs K) : ∃ fd, FunD K "divisors" "divisors" (defArgs s_divisors) (defBody s_divisors) (defScope s_divisors) [] [] ((fun K => He.ga K "divisors") K) fd := c.def_ 3 rfl
theorem fd_Place_init {K : PySem.W.Frag} (c : SaysM ex dfs K) : ∃ fd, FunD K "__init__" "Place.__init__" (defArgs s_Place_init) (defBody s_Place_init) (defScope s_Place_init) [] [] ((fun K => He.ma K (He.ga K "Place") "__init__") K) fd := c.def_ 4 rfl
theorem fd_is_divisor {K : PySem.W.Frag} (c : SaysM ex dfs K) : ∃ fd, FunD K "is_divisor" "is_divisor" (defArgs s_is_divisor) (defBody s_is_divisor) (defScope s_is_divisor) [] [] ((fun K => He.ga K "is_divisor") K) fd := c.def_ 18 rfl
theorem fd_value_in {K : PySem.W.Frag} (c : SaysM ex dfs K) : ∃ fd, FunD K "value_in" "value_in" (defArgs s_value_in) (defBody s_value_in) (defScope s_value_in) [] [] ((fun K => He.ga K "value_in") K) fd := c.def_ 19 rfl
theorem fd_lifted {K : PySem.W.Frag} (c : SaysM ex dfs K) : ∃ fd, FunD K "lifted" "lifted" (defArgs s_lifted) (defBody s_lifted) (defScope s_lifted) [] [] ((fun K => He.ga K "lifted") K) fd := c.def_ 20 rfl
theorem fd_added {K : PySem.W.Frag} (c : SaysM ex dfs K) : ∃ fd, FunD K "added" "added" (defArgs s_added) (defBody s_added) (defScope s_added) [] [] ((fun K => He.ga K "added") K) fd := c.def_ 21 rfl
theorem fd_shortened {K : PySem.W.Frag} (c : SaysM ex dfs K) : ∃ fd, FunD K "shortened" "shortened" (defArgs s_shortened) (defBody s_shortened) (defScope s_shortened) [] [] ((fun K => He.ga K "shortened") K) fd := c.def_ 22 rfl
theorem fd_least_parts {K : PySem.W.Frag} (c : SaysM ex dfs K) : ∃ fd, FunD K "least_parts" "least_parts" (defArgs s_least_parts) (defBody s_least_parts) (defScope s_least_parts) [] [] ((fun K => He.ga K "least_parts") K) fd := c.def_ 23 rfl
theorem fd_made {K : PySem.W.Frag} (c : SaysM ex dfs K) : ∃ fd, FunD K "made" "made" (defArgs s_made) (defBody s_made) (defScope s_made) [] [] ((fun K => He.ga K "made") K) fd := c.def_ 24 rfl
theorem fd_constant {K : PySem.W.Frag} (c : SaysM ex dfs K) : ∃ fd, FunD K "constant" "constant" (defArgs s_constant) (defBody s_constant) (defScope s_constant) [] [] ((fun K => He.ga K "constant") K) fd := c.def_ 25 rfl
theorem fd_as_place {K : PySem.W.Frag} (c : SaysM ex dfs K) : ∃ fd, FunD K "as_place" "as_place" (defArgs s_as_place) (defBody s_as_place) (defScope s_as_place) [] [] ((fun K => He.ga K "as_place") K) fd := c.def_ 26 rfl
theorem fd_place_of {K : PySem.W.Frag} (c : SaysM ex dfs K) : ∃ fd, FunD K "place_of" "place_of" (defArgs s_place_of) (defBody s_place_of) (defScope s_place_of) [] [] ((fun K => He.ga K "place_of") K) fd := c.def_ 27 rfl
theorem fd_Lot_init {K : PySem.W.Frag} (c : SaysM ex dfs K) : ∃ fd, FunD K "__init__" "Lot.__init__" (defArgs s_Lot_init) (defBody s_Lot_init) (defScope s_Lot_init) [] [] ((fun K => He.ma K (He.ga K "Lot") "__init__") K) fd := c.def_ 28 rfl
theorem fd_Pattern_init {K : PySem.W.Frag} (c : SaysM ex dfs K) : ∃ fd, FunD K "__init__" "Pattern.__init__" (defArgs s_Pattern_init) (defBody s_Pattern_init) (defScope s_Pattern_init) [] [] ((fun K => He.ma K (He.ga K "Pattern") "__init__") K) fd := c.def_ 35 rfl
theorem fd_is_place {K : PySem.W.Frag} (c : SaysM ex dfs K) : ∃ fd, FunD K "is_place" "is_place" (defArgs s_is_place) (defBody s_is_place) (defScope s_is_place) [] [] ((fun K => He.ga K "is_place") K) fd := c.def_ 39 rfl
theorem fd_is_lots {K : PySem.W.Frag} (c : SaysM ex dfs K) : ∃ fd, FunD K "is_lots" "is_lots" (defArgs s_is_lots) (defBody s_is_lots) (defScope s_is_lots) [] [] ((fun K => He.ga K "is_lots") K) fd := c.def_ 40 rfl
theorem fd_period_of {K : PySem.W.Frag} (c : SaysM ex dfs K) : ∃ fd, FunD K "period_of" "period_of" (defArgs s_period_of) (defBody s_period_of) (defScope s_period_of) [] [] ((fun K => He.ga K "period_of") K) fd := c.def_ 43 rfl
theorem fd_lines_of {K : PySem.W.Frag} (c : SaysM ex dfs K) : ∃ fd, FunD K "lines_of" "lines_of" (defArgs s_lines_of) (defBody s_lines_of) (defScope s_lines_of) [] [] ((fun K => He.ga K "lines_of") K) fd := c.def_ 44 rfl
theorem fd_line_sum {K : PySem.W.Frag} (c : SaysM ex dfs K) : ∃ fd, FunD K "line_sum" "line_sum" (defArgs s_line_sum) (defBody s_line_sum) (defScope s_line_sum) [] [] ((fun K => He.ga K "line_sum") K) fd := c.def_ 45 rfl
theorem fd_misfits {K : PySem.W.Frag} (c : SaysM ex dfs K) : ∃ fd, FunD K "misfits" "misfits" (defArgs s_misfits) (defBody s_misfits) (defScope s_misfits) [] [] ((fun K => He.ga K "misfits") K) fd := c.def_ 46 rfl
theorem fd_first_kept {K : PySem.W.Frag} (c : SaysM ex dfs K) : ∃ fd, FunD K "first_kept" "first_kept" (defArgs s_first_kept) (defBody s_first_kept) (defScope s_first_kept) [] [] ((fun K => He.ga K "first_kept") K) fd := c.def_ 47 rfl
theorem fd_first_misfit {K : PySem.W.Frag} (c : SaysM ex dfs K) : ∃ fd, FunD K "first_misfit" "first_misfit" (defArgs s_first_misfit) (defBody s_first_misfit) (defScope s_first_misfit) [] [] ((fun K => He.ga K "first_misfit") K) fd := c.def_ 48 rfl
theorem fd__law_well {K : PySem.W.Frag} (c : SaysM ex dfs K) : ∃ fd, FunD K "_law_well" "_law_well" (defArgs s__law_well) (defBody s__law_well) (defScope s__law_well) [] [] ((fun K => He.ga K "_law_well") K) fd := c.def_ 49 rfl
theorem fd__law_draw {K : PySem.W.Frag} (c : SaysM ex dfs K) : ∃ fd, FunD K "_law_draw" "_law_draw" (defArgs s__law_draw) (defBody s__law_draw) (defScope s__law_draw) [] [] ((fun K => He.ga K "_law_draw") K) fd := c.def_ 50 rfl
theorem fd__law_at {K : PySem.W.Frag} (c : SaysM ex dfs K) : ∃ fd, FunD K "_law_at" "_law_at" (defArgs s__law_at) (defBody s__law_at) (defScope s__law_at) [] [] ((fun K => He.ga K "_law_at") K) fd := c.def_ 51 rfl
theorem fd__law_shape {K : PySem.W.Frag} (c : SaysM ex dfs K) : ∃ fd, FunD K "_law_shape" "_law_shape" (defArgs s__law_shape) (defBody s__law_shape) (defScope s__law_shape) [] [] ((fun K => He.ga K "_law_shape") K) fd := c.def_ 52 rfl
theorem fd__law_line {K : PySem.W.Frag} (c : SaysM ex dfs K) : ∃ fd, FunD K "_law_line" "_law_line" (defArgs s__law_line) (defBody s__law_line) (defScope s__law_line) [] [] ((fun K => He.ga K "_law_line") K) fd := c.def_ 53 rfl
theorem fd__law_size_line {K : PySem.W.Frag} (c : SaysM ex dfs K) : ∃ fd, FunD K "_law_size_line" "_law_size_line" (defArgs s__law_size_line) (defBody s__law_size_line) (defScope s__law_size_line) [] [] ((fun K => He.ga K "_law_size_line") K) fd := c.def_ 54 rfl
theorem fd__law_lot {K : PySem.W.Frag} (c : SaysM ex dfs K) : ∃ fd, FunD K "_law_lot" "_law_lot" (defArgs s__law_lot) (defBody s__law_lot) (defScope s__law_lot) [] [] ((fun K => He.ga K "_law_lot") K) fd := c.def_ 55 rfl
theorem fd__law_place {K : PySem.W.Frag} (c : SaysM ex dfs K) : ∃ fd, FunD K "_law_place" "_law_place" (defArgs s__law_place) (defBody s__law_place) (defScope s__law_place) [] [] ((fun K => He.ga K "_law_place") K) fd := c.def_ 56 rfl
theorem fd__law_made {K : PySem.W.Frag} (c : SaysM ex dfs K) : ∃ fd, FunD K "_law_made" "_law_made" (defArgs s__law_made) (defBody s__law_made) (defScope s__law_made) [] [] ((fun K => He.ga K "_law_made") K) fd := c.def_ 57 rfl
theorem fd__law_wild {K : PySem.W.Frag} (c : SaysM ex dfs K) : ∃ fd, FunD K "_law_wild" "_law_wild" (defArgs s__law_wild) (defBody s__law_wild) (defScope s__law_wild) [] [] ((fun K => He.ga K "_law_wild") K) fd := c.def_ 58 rfl
theorem fd__law_mild {K : PySem.W.Frag} (c : SaysM ex dfs K) : ∃ fd, FunD K "_law_mild" "_law_mild" (defArgs s__law_mild) (defBody s__law_mild) (defScope s__law_mild) [] [] ((fun K => He.ga K "_law_mild") K) fd := c.def_ 59 rfl
theorem fd__law_fits {K : PySem.W.Frag} (c : SaysM ex dfs K) : ∃ fd, FunD K "_law_fits" "_law_fits" (defArgs s__law_fits) (defBody s__law_fits) (defScope s__law_fits) [] [] ((fun K => He.ga K "_law_fits") K) fd := c.def_ 60 rfl
theorem fd__law_first_misfit {K : PySem.W.Frag} (c : SaysM ex dfs K) : ∃ fd, FunD K "_law_first_misfit" "_law_first_misfit" (defArgs s__law_first_misfit) (defBody s__law_first_misfit) (defScope s__law_first_misfit) [] [] ((fun K => He.ga K "_law_first_misfit") K) fd := c.def_ 61 rfl
theorem fd__law_said {K : PySem.W.Frag} (c : SaysM ex dfs K) : ∃ fd, FunD K "_law_said" "_law_said" (defArgs s__law_said) (defBody s__law_said) (defScope s__law_said) [] [] ((fun K => He.ga K "_law_said") K) fd := c.def_ 62 rfl
theorem fd__law_is_pair {K : PySem.W.Frag} (c : SaysM ex dfs K) : ∃ fd, FunD K "_law_is_pair" "_law_is_pair" (defArgs s__law_is_pair) (defBody s__law_is_pair) (defScope s__law_is_pair) [] [] ((fun K => He.ga K "_law_is_pair") K) fd := c.def_ 63 rfl
theorem fd_law {K : PySem.W.Frag} (c : SaysM ex dfs K) : ∃ fd, FunD K "law" "law" (defArgs s_law) (defBody s_law) (defScope s_law) [] [] ((fun K => He.ga K "law") K) fd := c.def_ 64 rfl
def addrs : List Addr := [3, 24, 37, 49, 61, 80, 89, 96, 101, 201, 212, 219, 224, 229, 236, 243, 250, 257, 264, 271, 337, 381, 392, 399, 406, 413, 420, 427, 434, 441, 448, 455, 462, 469, 476, 483, 490, 497, 504, 509, 516, 523, 530, 535, 542, 549, 556, 561, 88, 95, 100, 211, 218, 223, 228, 235, 242, 249, 256, 263, 270, 391, 398, 405, 412, 419, 426, 433, 440, 447, 454, 461, 468, 475, 482, 489, 496, 503, 508, 515, 522, 529, 534, 541, 548, 555, 560, 25, 77, 84, 87, 91, 94, 98, 99, 115, 123, 131, 138, 145] ++ ([152, 159, 166, 173, 178, 183, 188, 193, 198, 202, 203, 207, 210, 214, 217, 221, 222, 226, 227, 231, 234, 238, 241, 245, 248, 252, 255, 259, 262, 266, 269, 287, 295, 303, 311, 319, 327, 334, 338, 339, 355, 363, 371, 378, 382, 383, 387, 390, 394, 397, 401, 404, 408, 411, 415, 418, 422, 425, 429, 432, 436, 439, 443, 446, 450, 453, 457, 460, 464, 467, 471, 474, 478, 481, 485, 488, 492, 495, 499, 502, 506, 507, 511, 514, 518, 521, 525, 528, 532, 533, 537, 540, 544, 547, 551, 554, 558, 559, 76, 114] ++ ([122, 130, 137, 144, 151, 158, 165, 172, 177, 182, 187, 192, 197, 286, 294, 302, 310, 318, 326, 333, 354, 362, 370, 377, 72, 75, 110, 113, 121, 129, 133, 136, 140, 143, 147, 150, 154, 157, 161, 164, 168, 171, 175, 176, 180, 181, 185, 186, 190, 191, 195, 196, 282, 285, 293, 301, 309, 317, 325, 329, 332, 350, 353, 361, 369, 373, 376, 6, 0, 23, 36, 48, 60, 79, 200, 336, 380, 4, 272, 273]))
def hk : PySem.W.Hook where
  α := He.AlD
  obs := fun s => obsM ex dfs (He.frG s.heap.get? addrs)
  val := fun _ => He5.valA dfs
  says := fun _ h => ∃ K : PySem.W.Frag, K.In h ∧ SaysM ex dfs K
  of := fun _ _ e => ⟨_, He.frG_in, e⟩
  keeps := fun _ _ _ ⟨K, hK, c⟩ k => ⟨K, PySem.W.Frag.In.keeps hK k, c⟩
def ob (s : PySem.W.SharedT) : He.AlD := obsM ex dfs (He.frG (HandSHeadRun.getT s) addrs)
theorem ob_eq (s : PySem.W.SharedT) : ob s = hk.obs s.abs := by
  have e : HandSHeadRun.getT s = s.abs.heap.get? := funext (HandSHeadRun.getT_eq s)
  show obsM ex dfs (He.frG (HandSHeadRun.getT s) addrs) = obsM ex dfs (He.frG s.abs.heap.get? addrs)
  rw [e]
abbrev R : PySem.W.OpenRow := PySem.W.OpenLaw.row PySem.Challenge.rw_nailstrings_k20_lots_that_do_not_fit
noncomputable def endS (w : World) (os : OsState) : Option PySem.W.SharedT := HandSHeadRun.endF (HandSHeadRun.stepQ (HandSHeadRun.denQ HandSHeadRun.tabQ) R.prog w) 20000 R.prog w os
noncomputable def lookA (w : World) (s : PySem.W.SharedT) : Bool := HandSHeadRun.looksF R.prog (PySem.W.boot_heap w.params) s.abs
noncomputable def lookB (s : PySem.W.SharedT) := HandSHeadRun.seenQ (PySem.W.view R.prog [55]) ("NailError" :: "InvalidPlace" :: "TooLong" :: "InvalidLot" :: "InvalidPattern" :: "is_integer" :: "common_multiple" :: "divisors" :: "LONGEST" :: "Place" :: "is_divisor" :: "value_in" :: "lifted" :: "added" :: "shortened" :: "least_parts" :: "made" :: "constant" :: "as_place" :: "place_of" :: "MOST_LOTS" :: "STEPS" :: "PACES" :: "Lot" :: "Pattern" :: "is_place" :: "is_lots" :: "same_lot" :: "same_pattern" :: "period_of" :: "lines_of" :: "line_sum" :: "misfits" :: "first_kept" :: "first_misfit" :: "_law_well" :: "_law_draw" :: "_law_at" :: "_law_shape" :: "_law_line" :: "_law_size_line" :: "_law_lot" :: "_law_place" :: "_law_made" :: "_law_wild" :: "_law_mild" :: "_law_fits" :: "_law_first_misfit" :: "_law_said" :: "_law_is_pair" :: []) (importedModules R.prog.main.body) (fun s => PySem.W.xlAt (PySem.W.view R.prog [55]) [] s && PySem.W.recOk R.toRowW.records s) s.abs
theorem run_a1 (w : World) (os : OsState) : (endS w os).map (fun s => lookA w s) = some true := by
  kernel_rfl
theorem run_a2 (w : World) (os : OsState) : (endS w os).map (fun s => lookB s) = some (PySem.W.openGood (PySem.W.view R.prog [55]) ("NailError" :: "InvalidPlace" :: "TooLong" :: "InvalidLot" :: "InvalidPattern" :: "is_integer" :: "common_multiple" :: "divisors" :: "LONGEST" :: "Place" :: "is_divisor" :: "value_in" :: "lifted" :: "added" :: "shortened" :: "least_parts" :: "made" :: "constant" :: "as_place" :: "place_of" :: "MOST_LOTS" :: "STEPS" :: "PACES" :: "Lot" :: "Pattern" :: "is_place" :: "is_lots" :: "same_lot" :: "same_pattern" :: "period_of" :: "lines_of" :: "line_sum" :: "misfits" :: "first_kept" :: "first_misfit" :: "_law_well" :: "_law_draw" :: "_law_at" :: "_law_shape" :: "_law_line" :: "_law_size_line" :: "_law_lot" :: "_law_place" :: "_law_made" :: "_law_wild" :: "_law_mild" :: "_law_fits" :: "_law_first_misfit" :: "_law_said" :: "_law_is_pair" :: [])) := by
  kernel_rfl
theorem run_a (w : World) (os : OsState) : (endS w os).map (fun s => (lookA w s, lookB s)) = some (true, PySem.W.openGood (PySem.W.view R.prog [55]) ("NailError" :: "InvalidPlace" :: "TooLong" :: "InvalidLot" :: "InvalidPattern" :: "is_integer" :: "common_multiple" :: "divisors" :: "LONGEST" :: "Place" :: "is_divisor" :: "value_in" :: "lifted" :: "added" :: "shortened" :: "least_parts" :: "made" :: "constant" :: "as_place" :: "place_of" :: "MOST_LOTS" :: "STEPS" :: "PACES" :: "Lot" :: "Pattern" :: "is_place" :: "is_lots" :: "same_lot" :: "same_pattern" :: "period_of" :: "lines_of" :: "line_sum" :: "misfits" :: "first_kept" :: "first_misfit" :: "_law_well" :: "_law_draw" :: "_law_at" :: "_law_shape" :: "_law_line" :: "_law_size_line" :: "_law_lot" :: "_law_place" :: "_law_made" :: "_law_wild" :: "_law_mild" :: "_law_fits" :: "_law_first_misfit" :: "_law_said" :: "_law_is_pair" :: [])) := by
  have h0 := run_a1 w os
  have h1 := run_a2 w os
  obtain ⟨s, es, _⟩ := Option.map_eq_some_iff.mp h0
  rw [es] at h0 h1 ⊢
  show some (lookA w s, lookB s) = _
  rw [show lookA w s = true from Option.some.inj h0, show lookB s = _ from Option.some.inj h1]
noncomputable def KK (s : PySem.W.SharedT) : PySem.W.Frag := He.frG (HandSHeadRun.getT s) addrs
theorem obs_cut {ex : PySem.W.Frag → Bool} {fn : List He5.DefA} {K : PySem.W.Frag} (n : Nat) (h0 : ex K = true) (h1 : obsM (fun _ => true) (fn.take n) K = He5.valA (fn.take n)) (h2 : obsM (fun _ => true) (fn.drop n) K = He5.valA (fn.drop n)) : obsM ex fn K = He5.valA fn := by
  have a1 : ((fn.take n).all fun d => d.ok K) = true := (He.ba (show (true && (fn.take n).all fun d => d.ok K) = true from congrArg Prod.fst h1)).2
  have a2 : ((fn.drop n).all fun d => d.ok K) = true := (He.ba (show (true && (fn.drop n).all fun d => d.ok K) = true from congrArg Prod.fst h2)).2
  have b1 : (fn.take n).map (fun d => He5.fnA K (d.at_ K)) = (fn.take n).map He5.DefA.val := congrArg Prod.snd h1
  have b2 : (fn.drop n).map (fun d => He5.fnA K (d.at_ K)) = (fn.drop n).map He5.DefA.val := congrArg Prod.snd h2
  have e1 : (fn.all fun d => d.ok K) = true := by
    rw [← List.take_append_drop n fn, List.all_append, a1, a2]
    rfl
  have e2 : fn.map (fun d => He5.fnA K (d.at_ K)) = fn.map He5.DefA.val := by
    rw [← List.take_append_drop n fn, List.map_append, List.map_append, b1, b2]
  unfold obsM He5.valA
  rw [h0, e1, e2]
  rfl
theorem run_b0 (w : World) (os : OsState) : (endS w os).map (fun s => fa.all (fun f => f.ok (KK s))) = some true := by
  kernel_rfl
theorem run_b1 (w : World) (os : OsState) : (endS w os).map (fun s => more (KK s)) = some true := by
  kernel_rfl
theorem run_b2 (w : World) (os : OsState) : (endS w os).map (fun s => obsM (fun _ => true) (dfs.take 32) (KK s)) = some (He5.valA (dfs.take 32)) := by
  kernel_rfl
theorem run_b3 (w : World) (os : OsState) : (endS w os).map (fun s => obsM (fun _ => true) (dfs.drop 32) (KK s)) = some (He5.valA (dfs.drop 32)) := by
  kernel_rfl
theorem run_b (w : World) (os : OsState) : (endS w os).map ob = some (He5.valA dfs) := by
  have h0 := run_b0 w os
  have h1 := run_b1 w os
  have h2 := run_b2 w os
  have h3 := run_b3 w os
  obtain ⟨s, es, _⟩ := Option.map_eq_some_iff.mp h0
  rw [es] at h0 h1 h2 h3 ⊢
  have e : obsM ex dfs (KK s) = He5.valA dfs := obs_cut 32 (by show (fa.all (fun f => f.ok (KK s)) && more (KK s)) = true; rw [show fa.all (fun f => f.ok (KK s)) = true from Option.some.inj h0, show more (KK s) = true from Option.some.inj h1]; rfl) (Option.some.inj h2) (Option.some.inj h3)
  show some (obsM ex dfs (KK s)) = _
  rw [e]
theorem at_end {α β : Type} {x : Option PySem.W.SharedT} {f : PySem.W.SharedT → α} {g : PySem.W.SharedT → β} {a : α} {b : β} (h : x.map f = some a) (k : x.map g = some b) : ∃ s, x = some s ∧ f s = a ∧ g s = b := by
  obtain ⟨s, es, e⟩ := Option.map_eq_some_iff.mp h
  rw [es] at k
  exact ⟨s, es, e, Option.some.inj k⟩
theorem run (w : World) : HandSHeadRun.RunEq R (PySem.W.view R.prog [55]) hk ob 20000 ("NailError" :: "InvalidPlace" :: "TooLong" :: "InvalidLot" :: "InvalidPattern" :: "is_integer" :: "common_multiple" :: "divisors" :: "LONGEST" :: "Place" :: "is_divisor" :: "value_in" :: "lifted" :: "added" :: "shortened" :: "least_parts" :: "made" :: "constant" :: "as_place" :: "place_of" :: "MOST_LOTS" :: "STEPS" :: "PACES" :: "Lot" :: "Pattern" :: "is_place" :: "is_lots" :: "same_lot" :: "same_pattern" :: "period_of" :: "lines_of" :: "line_sum" :: "misfits" :: "first_kept" :: "first_misfit" :: "_law_well" :: "_law_draw" :: "_law_at" :: "_law_shape" :: "_law_line" :: "_law_size_line" :: "_law_lot" :: "_law_place" :: "_law_made" :: "_law_wild" :: "_law_mild" :: "_law_fits" :: "_law_first_misfit" :: "_law_said" :: "_law_is_pair" :: []) w := by
  intro os
  obtain ⟨s, es, ea, eb⟩ := at_end (run_a w os) (run_b w os)
  have e1 : lookA w s = true := congrArg Prod.fst ea
  have e2 : lookB s = PySem.W.openGood (PySem.W.view R.prog [55]) ("NailError" :: "InvalidPlace" :: "TooLong" :: "InvalidLot" :: "InvalidPattern" :: "is_integer" :: "common_multiple" :: "divisors" :: "LONGEST" :: "Place" :: "is_divisor" :: "value_in" :: "lifted" :: "added" :: "shortened" :: "least_parts" :: "made" :: "constant" :: "as_place" :: "place_of" :: "MOST_LOTS" :: "STEPS" :: "PACES" :: "Lot" :: "Pattern" :: "is_place" :: "is_lots" :: "same_lot" :: "same_pattern" :: "period_of" :: "lines_of" :: "line_sum" :: "misfits" :: "first_kept" :: "first_misfit" :: "_law_well" :: "_law_draw" :: "_law_at" :: "_law_shape" :: "_law_line" :: "_law_size_line" :: "_law_lot" :: "_law_place" :: "_law_made" :: "_law_wild" :: "_law_mild" :: "_law_fits" :: "_law_first_misfit" :: "_law_said" :: "_law_is_pair" :: []) := congrArg Prod.snd ea
  show (endS w os).map (fun s => (lookA w s, lookB s, ob s)) = some (true, PySem.W.openGood (PySem.W.view R.prog [55]) ("NailError" :: "InvalidPlace" :: "TooLong" :: "InvalidLot" :: "InvalidPattern" :: "is_integer" :: "common_multiple" :: "divisors" :: "LONGEST" :: "Place" :: "is_divisor" :: "value_in" :: "lifted" :: "added" :: "shortened" :: "least_parts" :: "made" :: "constant" :: "as_place" :: "place_of" :: "MOST_LOTS" :: "STEPS" :: "PACES" :: "Lot" :: "Pattern" :: "is_place" :: "is_lots" :: "same_lot" :: "same_pattern" :: "period_of" :: "lines_of" :: "line_sum" :: "misfits" :: "first_kept" :: "first_misfit" :: "_law_well" :: "_law_draw" :: "_law_at" :: "_law_shape" :: "_law_line" :: "_law_size_line" :: "_law_lot" :: "_law_place" :: "_law_made" :: "_law_wild" :: "_law_mild" :: "_law_fits" :: "_law_first_misfit" :: "_law_said" :: "_law_is_pair" :: []), He5.valA dfs)
  rw [es, ← eb, ← e2, ← e1]
  rfl
end L20

end
section
open PySem PySem.W PySem.Calls PyProof.Rows
theorem L20.top_ok (hc : WalkO (view (OpenLaw.row PySem.Challenge.rw_nailstrings_k20_lots_that_do_not_fit).prog [55]) ("NailError" :: "InvalidPlace" :: "TooLong" :: "InvalidLot" :: "InvalidPattern" :: "is_integer" :: "common_multiple" :: "divisors" :: "LONGEST" :: "Place" :: "is_divisor" :: "value_in" :: "lifted" :: "added" :: "shortened" :: "least_parts" :: "made" :: "constant" :: "as_place" :: "place_of" :: "MOST_LOTS" :: "STEPS" :: "PACES" :: "Lot" :: "Pattern" :: "is_place" :: "is_lots" :: "same_lot" :: "same_pattern" :: "period_of" :: "lines_of" :: "line_sum" :: "misfits" :: "first_kept" :: "first_misfit" :: "_law_well" :: "_law_draw" :: "_law_at" :: "_law_shape" :: "_law_line" :: "_law_size_line" :: "_law_lot" :: "_law_place" :: "_law_made" :: "_law_wild" :: "_law_mild" :: "_law_fits" :: "_law_first_misfit" :: "_law_said" :: "_law_is_pair" :: []) (XL (view (OpenLaw.row PySem.Challenge.rw_nailstrings_k20_lots_that_do_not_fit).prog [55]) []) L20.hk.says (OpenLaw.row PySem.Challenge.rw_nailstrings_k20_lots_that_do_not_fit).toRowW (HandSHeadRun.topDef (OpenLaw.row PySem.Challenge.rw_nailstrings_k20_lots_that_do_not_fit).prog 55) [] fun f vs => PySem.call f vs) : PySem.Challenge.rw_nailstrings_k20_lots_that_do_not_fit.Holds := by
  w_on; o_law
  refine HandSHeadRun.head_any (r := OpenLaw.row PySem.Challenge.rw_nailstrings_k20_lots_that_do_not_fit) (q := view (OpenLaw.row PySem.Challenge.rw_nailstrings_k20_lots_that_do_not_fit).prog [55]) (H := L20.hk) (ob := L20.ob) (M := 20000) (loose := ("NailError" :: "InvalidPlace" :: "TooLong" :: "InvalidLot" :: "InvalidPattern" :: "is_integer" :: "common_multiple" :: "divisors" :: "LONGEST" :: "Place" :: "is_divisor" :: "value_in" :: "lifted" :: "added" :: "shortened" :: "least_parts" :: "made" :: "constant" :: "as_place" :: "place_of" :: "MOST_LOTS" :: "STEPS" :: "PACES" :: "Lot" :: "Pattern" :: "is_place" :: "is_lots" :: "same_lot" :: "same_pattern" :: "period_of" :: "lines_of" :: "line_sum" :: "misfits" :: "first_kept" :: "first_misfit" :: "_law_well" :: "_law_draw" :: "_law_at" :: "_law_shape" :: "_law_line" :: "_law_size_line" :: "_law_lot" :: "_law_place" :: "_law_made" :: "_law_wild" :: "_law_mild" :: "_law_fits" :: "_law_first_misfit" :: "_law_said" :: "_law_is_pair" :: [])) (d := HandSHeadRun.topDef (OpenLaw.row PySem.Challenge.rw_nailstrings_k20_lots_that_do_not_fit).prog 55) (kwd := []) L20.ob_eq
    (by kernel_rfl) (fun s => by kernel_rfl) L20.run (by kernel_rfl) (by kernel_rfl) (by kernel_rfl) (by rfl) (by first | assumption | decide +kernel) (by decide +kernel) ⟨rfl, rfl, rfl, rfl, rfl, by decide +kernel⟩ ?hw hc
  case hw => w_witness2


end
section
local macro_rules | `(tactic| fail "at") => `(tactic| first | (with_reducible exact DL.At.z) | ((with_reducible apply DL.At.s); fail "at"))
local macro_rules | `(tactic| fail "pt") => `(tactic| first | (with_reducible exact DL.Pt.z) | ((with_reducible apply DL.Pt.s); fail "pt"))
local macro_rules | `(tactic| fail "ix") => `(tactic| first | (with_reducible exact DL.Ix.z) | ((with_reducible apply DL.Ix.s); fail "ix"))
local macro_rules | `(tactic| fail "mem") => `(tactic| first | (with_reducible assumption) | (with_reducible exact DL.Mem.z) | ((with_reducible apply DL.Mem.s); fail "mem"))
local macro_rules | `(tactic| fail "src") => `(tactic| first | (with_reducible exact DL.Src.lst) | ((with_reducible apply DL.Src.own); fail "mem") | ((with_reducible apply DL.Src.ro); fail "mem"))
local macro_rules | `(tactic| fail "sq") => `(tactic| first | (with_reducible exact DL.Sq.tup) | (with_reducible exact DL.Sq.scr) | ((with_reducible apply DL.Sq.src); fail "src"))
local macro_rules | `(tactic| fail "sl") => `(tactic| first | (with_reducible exact DL.Sl.scr) | ((with_reducible apply DL.Sl.src); fail "src"))
local macro_rules | `(tactic| fail "vw") => `(tactic| first | ((with_reducible apply DL.Vw.own); fail "mem") | ((with_reducible apply DL.Vw.ro); fail "mem") | (with_reducible exact DL.Vw.id))
local macro_rules | `(tactic| fail "ati") => `(tactic| first | exact DL.At.z | (apply DL.At.s; fail "ati"))
local macro_rules | `(tactic| fail "pti") => `(tactic| first | exact DL.Pt.z | (apply DL.Pt.s; fail "pti"))
local macro_rules | `(tactic| fail "memi") => `(tactic| first | exact DL.Mem.z | (apply DL.Mem.s; fail "memi"))
local macro_rules | `(tactic| fail "sub") => `(tactic| first | exact List.Sublist.slnil | exact List.Sublist.refl _ | (apply List.Sublist.cons₂; fail "sub") | (apply List.Sublist.cons; fail "sub"))
local macro_rules | `(tactic| fail "obj") => `(tactic| first | (with_reducible exact DL.ObjD.frz) | ((with_reducible apply DL.ObjD.own); fail "memi"))
local macro_rules | `(tactic| fail "spk") => `(tactic| first | exact DL.Spl.nil | (apply DL.Spl.skip; fail "spk"))
local macro_rules | `(tactic| fail "num") => `(tactic| first | decide | omega | (simp only [List.length_cons, List.length_nil, List.length_map, List.length_append] at *; omega) | (simp only [List.length_cons, List.length_nil, List.length_map, List.length_append, List.length_replicate] at *; omega))
local macro_rules | `(tactic| fail "side") => `(tactic| first | decide | exact DL.mul_r (by omega) (by omega) | exact DL.mul_l (by omega) (by omega) | exact DL.mul_w (by omega) (by omega) (by omega) (by omega) | exact DL.mul_m (by omega) (by omega) (by omega) (by omega) | exact DL.mul_y (by omega) (by omega) (by omega) (by omega) | exact DL.div_w (by omega) (by omega) | exact DL.pow_ok (by omega) (by omega) (by omega) (by omega) | omega | (simp only [List.length_map]; omega) | (refine DL.div_w ?_ ?_ <;> simp only [List.length_map] <;> omega))
local macro_rules | `(tactic| fail "tidy") => `(tactic| try simp only [not_true_eq_false, not_false_eq_true, and_true, true_and, DL.deq_int, DL.deq_ints, DL.deq_prs, DL.deq_nil, Int.add_zero, List.isEmpty_iff, decide_eq_true_eq, decide_eq_false_iff_not, Int.not_lt, Int.not_le, Bool.not_eq_true', Bool.not_eq_false', Bool.false_eq_true, Bool.true_eq_false, reduceCtorEq, false_implies, forall_const] at *)
set_option hygiene false in
local macro_rules | `(tactic| fail "nin") => `(tactic| first | (rw [← hO]; assumption) | simp)
set_option hygiene false in
local macro_rules | `(tactic| fail "isret") => `(tactic| (have hret : DL.OwnN "return" := by (with_reducible assumption)); clear hret)
local macro_rules | `(tactic| fail "isstop") => `(tactic| have hst : DL.StopIf := by (with_reducible assumption))
local macro_rules | `(tactic| fail "dok") => `(tactic| first | exact DL.dok_ints | exact DL.dok_prs | exact DL.dok_tupi | rfl)
set_option hygiene false in
local macro_rules | `(tactic| fail "rlc") => `(tactic| first | refine DL.sw_ret (DL.lcN hN nd (by fail "ix") (hsc _ _ _) (by decide +kernel) ?_) | refine DL.sw_ret (DL.lcP hN nd (by fail "ix") (by fail "ix") (hsc _ _ _) (by decide +kernel) ?_))
local macro_rules | `(tactic| fail "ty") => `(tactic| first | (with_reducible exact DL.TyD.int) | (with_reducible exact DL.TyD.bl) | (with_reducible exact DL.TyD.lst) | (with_reducible exact DL.TyD.tup) | (with_reducible exact DL.TyD.non) | (with_reducible exact DL.TyD.str) | ((with_reducible apply DL.TyD.own); fail "mem") | ((with_reducible apply DL.TyD.ro); fail "mem") | ((with_reducible apply DL.TyD.ins); fail "ins"))
set_option hygiene false in
local macro_rules | `(tactic| fail "lcF") => `(tactic| first | refine DL.ew_frz (DL.lcN hN nd (by fail "ix") (hsc _ _ _) (by decide +kernel) ?_) | refine DL.ew_frz (DL.lcP hN nd (by fail "ix") (by fail "ix") (hsc _ _ _) (by decide +kernel) ?_) | refine DL.ew_frz (DL.lcPP hN nd (by fail "ix") (by fail "ix") (by fail "ix") (by fail "ix") (hsc _ _ _) (by decide +kernel) ?_) | refine DL.ew_frz (DL.lcT hN nd (by fail "ix") (by fail "ix") (by fail "ix") (hsc _ _ _) (by decide +kernel) ?_) | refine DL.ew_frz (DL.lcTT hN nd (by fail "ix") (by fail "ix") (by fail "ix") (by fail "ix") (by fail "ix") (by fail "ix") (hsc _ _ _) (by decide +kernel) ?_))
set_option hygiene false in
local macro_rules | `(tactic| fail "slc") => `(tactic| first | refine DL.slcNO hN nd (by fail "ix") (by (with_reducible assumption)) (by fail "ix") (hsc _ _ _) (by decide +kernel) ?_ | refine DL.slcN hN nd (by fail "ix") (by fail "ix") (hsc _ _ _) (by decide +kernel) ?_ | refine DL.slcP hN nd (by fail "ix") (by fail "ix") (by fail "ix") (hsc _ _ _) (by decide +kernel) ?_)
set_option hygiene false in
local macro_rules | `(tactic| fail "eo") => `(tactic| first | refine DL.ew_lstO ?_ | refine DL.ew_listO T.f_list ?_ | refine DL.ew_sliceO ?_ | refine DL.lcN hN nd (by fail "ix") (hsc _ _ _) (by decide +kernel) ?_ | refine DL.ew_add ?_ | fail "e")
set_option hygiene false in
local macro_rules | `(tactic| fail "for") => `(tactic| (refine DL.forP po hN nd (by fail "ix") (by fail "ix") ?_))
set_option hygiene false in
local macro_rules | `(tactic| fail "for") => `(tactic| (refine DL.forN po hN nd (by fail "ix") ?_))
set_option hygiene false in
local macro_rules | `(tactic| fail "iw") => `(tactic| (refine DL.iw_list ?_))
set_option hygiene false in
local macro_rules | `(tactic| fail "iw") => `(tactic| (refine DL.iw_enum T.f_enumerate ?_))
set_option hygiene false in
local macro_rules | `(tactic| fail "iw") => `(tactic| (refine DL.iw_zip T.f_zip ?_))
set_option hygiene false in
local macro_rules | `(tactic| fail "iw") => `(tactic| (refine DL.iw_range2 T.f_range ?_))
set_option hygiene false in
local macro_rules | `(tactic| fail "iw") => `(tactic| (refine DL.iw_range1 T.f_range ?_))
local macro_rules | `(tactic| fail "vwb") => `(tactic| first | (with_reducible exact DL.VwB.nil) | ((with_reducible apply DL.VwB.val); fail "vwb") | ((with_reducible apply DL.VwB.bor); fail "vw"; fail "vwb"))
local macro_rules | `(tactic| fail "fzf") => `(tactic| first | (with_reducible exact DL.FzF.nil) | ((with_reducible apply DL.FzF.cons ?hh ?tt); (case hh => fail "fz"); (case tt => fail "fzf")) | exact DL.FzF.id)
local macro_rules | `(tactic| fail "fz") => `(tactic| first | ((with_reducible apply DL.Fz.own ?pp ?mm ?ll); (case pp => fail "nin"); (case mm => fail "mem"); (case ll => fail "fzl")) | ((with_reducible apply DL.Fz.ins ?pp ?mm ?ll); (case pp => fail "nin"); (case mm => fail "memi"); (case ll => fail "fzf")) | ((with_reducible apply DL.Fz.tup ?ll); (case ll => fail "fzl")) | exact DL.Fz.id)
local macro_rules | `(tactic| fail "fzl") => `(tactic| first | (with_reducible exact DL.FzL.nil) | ((with_reducible apply DL.FzL.cons ?hh ?tt); (case hh => fail "fz"); (case tt => fail "fzl")) | exact DL.FzL.id)
local macro_rules | `(tactic| fail "ret") => `(tactic| (((with_reducible apply DL.RetM.ok ?ff ?oo ?kk); (case ff => fail "fz"); (case oo => fail "mem"))))
local macro_rules | `(tactic| fail "ret") => `(tactic| ((fail "isret"; ((with_reducible apply DL.RetM.own ?qq ?mm ?oo ?kk)); (case qq => fail "nin"); (case mm => fail "mem"); (case oo => fail "mem"))))
local macro_rules | `(tactic| fail "ret") => `(tactic| (((with_reducible apply DL.RetR.ok ?ff ?kk); (case ff => fail "fz"))))
local macro_rules | `(tactic| fail "ret") => `(tactic| ((fail "isret"; ((with_reducible apply DL.RetR.own ?mm ?kk)); (case mm => fail "mem"))))
set_option hygiene false in
local macro_rules | `(tactic| fail "e") => `(tactic| ((((with_reducible show DL.EW _ _ _ _ _ _ (.Attribute _ _ _))); fail "attr")))
set_option hygiene false in
local macro_rules | `(tactic| fail "e") => `(tactic| ((((with_reducible show DL.EW _ _ _ _ _ _ (.ListComp _ [_, _] _ _))); refine DL.ew_frz (DL.lc2NP hN nd (by fail "ix") (by fail "ix") (by fail "ix") (hsc _ _ _) (by decide +kernel) ?_))))
set_option hygiene false in
local macro_rules | `(tactic| fail "e") => `(tactic| ((((with_reducible show DL.EW _ _ _ _ _ _ (.ListComp _ [_] _ _))); fail "lcF")))
set_option hygiene false in
local macro_rules | `(tactic| fail "e") => `(tactic| ((((with_reducible show DL.EW _ _ _ _ _ _ (.Call _ _ _ _))); first | fail "call" | refine DL.ew_append ?_ | refine DL.ew_reverse ?_)))
set_option hygiene false in
local macro_rules | `(tactic| fail "e") => `(tactic| ((((with_reducible show DL.EW _ _ _ _ _ _ (.List _ _))); refine DL.ew_lst ?_)))
set_option hygiene false in
local macro_rules | `(tactic| fail "e") => `(tactic| ((((with_reducible show DL.EW _ _ _ _ _ _ (.Tuple _ _ _))); refine DL.ew_tup ?_)))
set_option hygiene false in
local macro_rules | `(tactic| fail "e") => `(tactic| ((((with_reducible show DL.EW _ _ _ _ _ _ (.IfExp _ _ _ _))); refine DL.ew_if ?_)))
set_option hygiene false in
local macro_rules | `(tactic| fail "e") => `(tactic| ((((with_reducible show DL.EW _ _ _ _ _ _ (.UnaryOp _ _ _))); with_reducible first | refine DL.ew_neg ?_ | refine DL.ew_notV ?_)))
set_option hygiene false in
local macro_rules | `(tactic| fail "e") => `(tactic| ((((with_reducible show DL.EW _ _ _ _ _ _ (.BoolOp _ _ _))); with_reducible first | refine DL.ew_and ?_ | refine DL.ew_or ?_)))
set_option hygiene false in
local macro_rules | `(tactic| fail "e") => `(tactic| ((((with_reducible show DL.EW _ _ _ _ _ _ (.BoolOp _ [_] _))); refine DL.ew_one ?_)))
set_option hygiene false in
local macro_rules | `(tactic| fail "e") => `(tactic| ((((with_reducible show DL.EW _ _ _ _ _ _ (.Compare _ [.Lt, .Lt] [_, _] _))); refine DL.ew_chain op_lt op_lt (by with_unfolding_all rfl) ?_)))
set_option hygiene false in
local macro_rules | `(tactic| fail "e") => `(tactic| ((((with_reducible show DL.EW _ _ _ _ _ _ (.Compare _ [.LtE, .Lt] [_, _] _))); refine DL.ew_chain op_le op_lt (by with_unfolding_all rfl) ?_)))
set_option hygiene false in
local macro_rules | `(tactic| fail "e") => `(tactic| ((((with_reducible show DL.EW _ _ _ _ _ _ (.Compare _ [.LtE, .LtE] [_, _] _))); refine DL.ew_chain op_le op_le (by with_unfolding_all rfl) ?_)))
set_option hygiene false in
local macro_rules | `(tactic| fail "e") => `(tactic| ((((with_reducible show DL.EW _ _ _ _ _ _ (.Compare _ [.NotEq] [_] _))); refine DL.ew_ne hr.units ?_)))
set_option hygiene false in
local macro_rules | `(tactic| fail "e") => `(tactic| ((((with_reducible show DL.EW _ _ _ _ _ _ (.Compare _ [.Eq] [_] _))); refine DL.ew_eq hr.units ?_)))
set_option hygiene false in
local macro_rules | `(tactic| fail "e") => `(tactic| ((((with_reducible show DL.EW _ _ _ _ _ _ (.Compare _ [.IsNot] [_] _))); refine DL.ew_isnot ?_)))
set_option hygiene false in
local macro_rules | `(tactic| fail "e") => `(tactic| ((((with_reducible show DL.EW _ _ _ _ _ _ (.Compare _ [.Is] [_] _))); refine DL.ew_is ?_)))
set_option hygiene false in
local macro_rules | `(tactic| fail "e") => `(tactic| ((((with_reducible show DL.EW _ _ _ _ _ _ (.Compare _ [.Is] [.Constant (.bool _) _ _] _))); first | refine DL.ew_isB ?_ | refine DL.ew_is ?_)))
set_option hygiene false in
local macro_rules | `(tactic| fail "e") => `(tactic| ((((with_reducible show DL.EW _ _ _ _ _ _ (.Compare _ [.NotIn] [_] _))); refine DL.ew_notin ?_)))
set_option hygiene false in
local macro_rules | `(tactic| fail "e") => `(tactic| ((((with_reducible show DL.EW _ _ _ _ _ _ (.Compare _ [.In] [_] _))); refine DL.ew_in ?_)))
set_option hygiene false in
local macro_rules | `(tactic| fail "e") => `(tactic| ((((with_reducible show DL.EW _ _ _ _ _ _ (.Compare _ [.GtE] [_] _))); refine DL.ew_ge ?_)))
set_option hygiene false in
local macro_rules | `(tactic| fail "e") => `(tactic| ((((with_reducible show DL.EW _ _ _ _ _ _ (.Compare _ [.Gt] [_] _))); refine DL.ew_gt ?_)))
set_option hygiene false in
local macro_rules | `(tactic| fail "e") => `(tactic| ((((with_reducible show DL.EW _ _ _ _ _ _ (.Compare _ [.LtE] [_] _))); refine DL.ew_le ?_)))
set_option hygiene false in
local macro_rules | `(tactic| fail "e") => `(tactic| ((((with_reducible show DL.EW _ _ _ _ _ _ (.Compare _ [.Lt] [_] _))); refine DL.ew_lt ?_)))
set_option hygiene false in
local macro_rules | `(tactic| fail "e") => `(tactic| ((((with_reducible show DL.EW _ _ _ _ _ _ (.Subscript _ _ _))); refine DL.ew_ix ?_)))
set_option hygiene false in
local macro_rules | `(tactic| fail "e") => `(tactic| ((((with_reducible show DL.EW _ _ _ _ _ _ (.Subscript _ (.Slice _ _ none _) _))); refine DL.ew_frz (DL.ew_sliceO ?_))))
set_option hygiene false in
local macro_rules | `(tactic| fail "e") => `(tactic| ((((with_reducible show DL.EW _ _ _ _ _ _ (.BinOp _ .LShift _ _))); refine DL.ew_shl ?_)))
set_option hygiene false in
local macro_rules | `(tactic| fail "e") => `(tactic| ((((with_reducible show DL.EW _ _ _ _ _ _ (.BinOp _ .Pow _ _))); refine DL.ew_pow ?_)))
set_option hygiene false in
local macro_rules | `(tactic| fail "e") => `(tactic| ((((with_reducible show DL.EW _ _ _ _ _ _ (.BinOp _ .Mod _ _))); refine DL.ew_mod ?_)))
set_option hygiene false in
local macro_rules | `(tactic| fail "e") => `(tactic| ((((with_reducible show DL.EW _ _ _ _ _ _ (.BinOp _ .FloorDiv _ _))); refine DL.ew_fdiv ?_)))
set_option hygiene false in
local macro_rules | `(tactic| fail "e") => `(tactic| ((((with_reducible show DL.EW _ _ _ _ _ _ (.BinOp _ .Mult _ _))); refine DL.ew_mul ?_)))
set_option hygiene false in
local macro_rules | `(tactic| fail "e") => `(tactic| ((((with_reducible show DL.EW _ _ _ _ _ _ (.BinOp _ .Sub _ _))); refine DL.ew_sub ?_)))
set_option hygiene false in
local macro_rules | `(tactic| fail "e") => `(tactic| ((((with_reducible show DL.EW _ _ _ _ _ _ (.BinOp _ .Add _ _))); refine DL.ew_addF ?_)))
set_option hygiene false in
local macro_rules | `(tactic| fail "e") => `(tactic| ((((with_reducible show DL.EW _ _ _ _ _ _ (.Constant _ _ _))); with_reducible first | refine DL.ew_int ?_ | refine DL.ew_bl ?_ | refine DL.ew_non ?_ | refine DL.ew_str ?_)))
set_option hygiene false in
local macro_rules | `(tactic| fail "e") => `(tactic| ((((with_reducible show DL.EW _ _ _ _ _ _ (.Name _ _))); first | refine DL.en hN (by fail "ix") (by fail "at") ?_ | fail "glob")))
set_option hygiene false in
local macro_rules | `(tactic| fail "b") => `(tactic| (refine DL.bw_val ?_))
set_option hygiene false in
local macro_rules | `(tactic| fail "b") => `(tactic| ((((with_reducible show DL.BW _ _ _ _ _ _ (.BoolOp _ _ _))); with_reducible first | refine DL.bw_w (DL.ww_and ?_) | refine DL.bw_w (DL.ww_or ?_))))
set_option hygiene false in
local macro_rules | `(tactic| fail "b") => `(tactic| ((((with_reducible show DL.BW _ _ _ _ _ _ (.UnaryOp .Not _ _))); refine DL.bw_not ?_)))
set_option hygiene false in
local macro_rules | `(tactic| fail "b") => `(tactic| ((((with_reducible show DL.BW _ _ _ _ _ _ (.Compare _ [.Lt, .Lt] [_, _] _))); refine DL.bw_chain op_lt op_lt (by with_unfolding_all rfl) ?_)))
set_option hygiene false in
local macro_rules | `(tactic| fail "b") => `(tactic| ((((with_reducible show DL.BW _ _ _ _ _ _ (.Compare _ [.LtE, .Lt] [_, _] _))); refine DL.bw_chain op_le op_lt (by with_unfolding_all rfl) ?_)))
set_option hygiene false in
local macro_rules | `(tactic| fail "b") => `(tactic| ((((with_reducible show DL.BW _ _ _ _ _ _ (.Compare _ [.LtE, .LtE] [_, _] _))); refine DL.bw_chain op_le op_le (by with_unfolding_all rfl) ?_)))
set_option hygiene false in
local macro_rules | `(tactic| fail "b") => `(tactic| ((((with_reducible show DL.BW _ _ _ _ _ _ (.Compare _ [.NotEq] [_] _))); refine DL.bw_ne hr.units ?_)))
set_option hygiene false in
local macro_rules | `(tactic| fail "b") => `(tactic| ((((with_reducible show DL.BW _ _ _ _ _ _ (.Compare _ [.Eq] [_] _))); refine DL.bw_eq hr.units ?_)))
set_option hygiene false in
local macro_rules | `(tactic| fail "b") => `(tactic| ((((with_reducible show DL.BW _ _ _ _ _ _ (.Compare _ [.IsNot] [_] _))); refine DL.bw_isnot ?_)))
set_option hygiene false in
local macro_rules | `(tactic| fail "b") => `(tactic| ((((with_reducible show DL.BW _ _ _ _ _ _ (.Compare _ [.Is] [_] _))); refine DL.bw_is ?_)))
set_option hygiene false in
local macro_rules | `(tactic| fail "b") => `(tactic| ((((with_reducible show DL.BW _ _ _ _ _ _ (.Compare _ [.Is] [.Constant (.bool _) _ _] _))); first | refine DL.bw_isB ?_ | refine DL.bw_is ?_)))
set_option hygiene false in
local macro_rules | `(tactic| fail "b") => `(tactic| ((((with_reducible show DL.BW _ _ _ _ _ _ (.Compare _ [.NotIn] [_] _))); refine DL.bw_notin ?_)))
set_option hygiene false in
local macro_rules | `(tactic| fail "b") => `(tactic| ((((with_reducible show DL.BW _ _ _ _ _ _ (.Compare _ [.In] [_] _))); refine DL.bw_in ?_)))
set_option hygiene false in
local macro_rules | `(tactic| fail "b") => `(tactic| ((((with_reducible show DL.BW _ _ _ _ _ _ (.Compare _ [.GtE] [_] _))); refine DL.bw_ge ?_)))
set_option hygiene false in
local macro_rules | `(tactic| fail "b") => `(tactic| ((((with_reducible show DL.BW _ _ _ _ _ _ (.Compare _ [.Gt] [_] _))); refine DL.bw_gt ?_)))
set_option hygiene false in
local macro_rules | `(tactic| fail "b") => `(tactic| ((((with_reducible show DL.BW _ _ _ _ _ _ (.Compare _ [.LtE] [_] _))); refine DL.bw_le ?_)))
set_option hygiene false in
local macro_rules | `(tactic| fail "b") => `(tactic| ((((with_reducible show DL.BW _ _ _ _ _ _ (.Compare _ [.Lt] [_] _))); refine DL.bw_lt ?_)))
local macro_rules | `(tactic| fail "w") => `(tactic| with_reducible first | refine DL.ww_and ?_ | refine DL.ww_or ?_ | refine DL.ww_andL ?_ | refine DL.ww_orL ?_)
set_option hygiene false in
local macro_rules | `(tactic| fail "s") => `(tactic| (with_reducible first | refine DL.sw_pass ?_ | refine DL.sw_cont ?_ | refine DL.sw_brk ?_))
set_option hygiene false in
local macro_rules | `(tactic| fail "s") => `(tactic| ((((with_reducible show DL.SW _ _ _ _ _ (.Expr _ _))); refine DL.sw_expr ?_)))
set_option hygiene false in
local macro_rules | `(tactic| fail "s") => `(tactic| ((((with_reducible show DL.SW _ _ _ _ _ (.If _ _ _ _))); refine DL.sw_if ?_)))
set_option hygiene false in
local macro_rules | `(tactic| fail "s") => `(tactic| ((((with_reducible show DL.SW _ _ _ _ _ (.Return none _))); refine DL.sw_retN ?_)))
set_option hygiene false in
local macro_rules | `(tactic| fail "s") => `(tactic| ((((with_reducible show DL.SW _ _ _ _ _ (.Return (some _) _))); refine DL.sw_ret ?_)))
set_option hygiene false in
local macro_rules | `(tactic| fail "s") => `(tactic| ((((with_reducible show DL.SW _ _ _ _ _ (.Return (some (.ListComp _ [_] _ _)) _))); fail "isret"; fail "rlc")))
set_option hygiene false in
local macro_rules | `(tactic| fail "s") => `(tactic| ((((with_reducible show DL.SW _ _ _ _ _ (.Return (some (.Subscript _ (.Slice _ _ none _) _)) _))); fail "isret"; refine DL.sw_ret (DL.ew_sliceO ?_))))
set_option hygiene false in
local macro_rules | `(tactic| fail "s") => `(tactic| ((((with_reducible show DL.SW _ _ _ _ _ (.Return (some (.Call _ _ _ _)) _))); fail "isret"; refine DL.sw_ret (DL.ew_listO T.f_list ?_))))
set_option hygiene false in
local macro_rules | `(tactic| fail "s") => `(tactic| ((((with_reducible show DL.SW _ _ _ _ _ (.Return (some (.List _ _)) _))); fail "isret"; refine DL.sw_ret (DL.ew_lstO ?_))))
set_option hygiene false in
local macro_rules | `(tactic| fail "s") => `(tactic| ((((with_reducible show DL.SW _ _ _ _ _ (.For _ _ _ [] _))); fail "for")))
set_option hygiene false in
local macro_rules | `(tactic| fail "s") => `(tactic| ((((with_reducible show DL.SW _ _ _ _ _ (.Try _ _ [] [] _))); fail "tryc")))
set_option hygiene false in
local macro_rules | `(tactic| fail "s") => `(tactic| ((((with_reducible show DL.SW _ _ _ _ _ (.Try _ [.ExceptHandler _ none _ _] [] [] _))); fail "try")))
set_option hygiene false in
local macro_rules | `(tactic| fail "s") => `(tactic| ((((with_reducible show DL.SW _ _ _ _ _ (.Raise _ _ _))); fail "raise")))
set_option hygiene false in
local macro_rules | `(tactic| fail "s") => `(tactic| ((((with_reducible show DL.SW _ _ _ _ _ (.Assign [.Attribute _ _ _] _ _))); first | (refine DL.sw_fldO (by (with_reducible assumption)) ?_; fail "eo") | refine DL.sw_fld ?_)))
set_option hygiene false in
local macro_rules | `(tactic| fail "s") => `(tactic| ((((with_reducible show DL.SW _ _ _ _ _ (.Assign [.Tuple [.Subscript _ _ _, .Subscript _ _ _] _ _] _ _))); refine DL.sw_asg (vs := []) (DL.gw_tup (by rfl) (DL.gws_cons DL.gw_sub (DL.gws_cons DL.gw_sub DL.gws_nil))) ?_)))
set_option hygiene false in
local macro_rules | `(tactic| fail "s") => `(tactic| ((((with_reducible show DL.SW _ _ _ _ _ (.Assign [.Tuple [.Name _ _, .Name _ _, .Name _ _] _ _] _ _))); refine DL.asgT (by rfl) hN nd (by fail "ix") (by fail "ix") (by fail "ix") ?_)))
set_option hygiene false in
local macro_rules | `(tactic| fail "s") => `(tactic| ((((with_reducible show DL.SW _ _ _ _ _ (.Assign [.Tuple [.Name _ _, .Name _ _] _ _] _ _))); refine DL.asgP (by rfl) hN nd (by fail "ix") (by fail "ix") ?_)))
set_option hygiene false in
local macro_rules | `(tactic| fail "s") => `(tactic| ((((with_reducible show DL.SW _ _ _ _ _ (.Assign [.Tuple [.Name _ _, .Name _ _] _ _] (.Tuple [_, _] _ _) _))); refine DL.parN (by rfl) hN nd (by fail "ix") (by fail "ix") ?_)))
set_option hygiene false in
local macro_rules | `(tactic| fail "s") => `(tactic| ((((with_reducible show DL.SW _ _ _ _ _ (.Assign [.Subscript _ _ _] _ _))); refine DL.sw_asg (vs := []) DL.gw_sub ?_)))
set_option hygiene false in
local macro_rules | `(tactic| fail "s") => `(tactic| ((((with_reducible show DL.SW _ _ _ _ _ (.Assign [.Name _ _] _ _))); first | (refine DL.sso hN nd (by fail "ix") (by (with_reducible assumption)) ?_; fail "eo") | refine DL.ss hN nd (by fail "ix") ?_)))
set_option hygiene false in
local macro_rules | `(tactic| fail "s") => `(tactic| ((((with_reducible show DL.SW _ _ _ _ _ (.Assign [.Name _ _] (.ListComp _ _ _ _) _))); fail "slc")))
local macro_rules | `(tactic| fail "l") => `(tactic| (with_reducible first | refine DL.lw_one ?_ | refine DL.lw_cons ?_ | refine DL.lw_nil ?_))
local macro_rules | `(tactic| fail "l") => `(tactic| ((((with_reducible show DL.LW _ _ _ (@DL.S.mk _ _ (DL.S.ι _)) _ _)); refine DL.lw_nn rfl ?_; try dsimp only)))
local macro_rules | `(tactic| fail "l") => `(tactic| ((((with_reducible show DL.LW _ _ _ (@DL.S.mk (List.set _ _ _) _ _) _ _)); dsimp only [List.set_cons_zero, List.set_cons_succ])))
local macro_rules | `(tactic| fail "r") => `(tactic| ((with_reducible refine Or.inl (Exists.intro _ (And.intro rfl ?_)))))
local macro_rules | `(tactic| fail "r") => `(tactic| (((with_reducible apply Or.inr); fail "own")))
local macro_rules | `(tactic| fail "r") => `(tactic| (((with_reducible apply Or.inl); (with_reducible apply DL.EqR.mk ?v1 ?v2 ?d1 ?d2 ?kk); (case v1 => fail "vw"); (case v2 => fail "vw"); (case d1 => fail "dok"); (case d2 => fail "dok"))))
local macro_rules | `(tactic| fail "r") => `(tactic| (((with_reducible refine Or.inl (DL.I2.mk ?side ?_)); (case side => fail "side"))))
local macro_rules | `(tactic| fail "r") => `(tactic| (((with_reducible apply Or.inl); (with_reducible apply Or.inr); (with_reducible apply DL.CatF.mk ?s1 ?s2 ?nn ?kk); (case s1 => fail "src"); (case s2 => fail "src"); (case nn => fail "num"))))
local macro_rules | `(tactic| fail "r") => `(tactic| ((with_reducible refine Or.inl (Or.inl (DL.I0.mk ?_)))))
local macro_rules | `(tactic| fail "r") => `(tactic| ((with_reducible refine DL.GZ.mk ?_)))
local macro_rules | `(tactic| fail "r") => `(tactic| ((with_reducible refine DL.GC.mk ?_)))
local macro_rules | `(tactic| fail "r") => `(tactic| (((with_reducible apply DL.GT.mk ?ll ?kk); (case ll => rfl))))
local macro_rules | `(tactic| fail "r") => `(tactic| (((with_reducible apply DL.GN.mk ?pt ?kk); (case pt => fail "pt"))))
local macro_rules | `(tactic| fail "r") => `(tactic| (((with_reducible apply DL.SumR.mk ?qq ?ee ?kk); (case qq => fail "sl"); (case ee => first | assumption | rfl))))
local macro_rules | `(tactic| fail "r") => `(tactic| (((with_reducible apply DL.AllR.mk ?qq ?ee ?kk); (case qq => fail "sl"); (case ee => first | assumption | rfl))))
local macro_rules | `(tactic| fail "r") => `(tactic| (((with_reducible apply DL.LstR.mk ?qq ?kk); (case qq => fail "sq"))))
local macro_rules | `(tactic| fail "r") => `(tactic| ((with_reducible refine DL.I2R.mk ?_)))
local macro_rules | `(tactic| fail "r") => `(tactic| ((with_reducible refine DL.I1R.mk ?_)))
local macro_rules | `(tactic| fail "r") => `(tactic| ((with_reducible refine DL.IntR.bl ?_)))
local macro_rules | `(tactic| fail "r") => `(tactic| ((with_reducible refine DL.IntR.int ?_)))
local macro_rules | `(tactic| fail "r") => `(tactic| (((with_reducible apply DL.LenR.mk ?qq ?kk); (case qq => fail "sq"))))
local macro_rules | `(tactic| fail "r") => `(tactic| ((((with_reducible show DL.IxRl _ _ _ _ _)); first | ((with_reducible apply DL.IxRl.mk ?qq ?ee ?kk); (case qq => fail "sq"); (case ee => first | rfl | assumption)))))
local macro_rules | `(tactic| fail "r") => `(tactic| ((with_reducible refine DL.NotR.bl ?_)))
local macro_rules | `(tactic| fail "r") => `(tactic| ((with_reducible refine DL.NotR.non ?_)))
local macro_rules | `(tactic| fail "r") => `(tactic| ((with_reducible refine DL.IsB.oth rfl ?_)))
local macro_rules | `(tactic| fail "r") => `(tactic| ((with_reducible refine DL.IsB.bl ?_)))
local macro_rules | `(tactic| fail "r") => `(tactic| ((with_reducible refine DL.IsR.bl ?_)))
local macro_rules | `(tactic| fail "r") => `(tactic| ((with_reducible refine DL.IsR.non ?_)))
local macro_rules | `(tactic| fail "r") => `(tactic| (((with_reducible apply DL.NeR.mk ?v1 ?v2 ?d1 ?d2 ?kk); (case v1 => fail "vw"); (case v2 => fail "vw"); (case d1 => fail "dok"); (case d2 => fail "dok"))))
local macro_rules | `(tactic| fail "r") => `(tactic| (((with_reducible apply DL.EqR.mk ?v1 ?v2 ?d1 ?d2 ?kk); (case v1 => fail "vw"); (case v2 => fail "vw"); (case d1 => fail "dok"); (case d2 => fail "dok"))))
local macro_rules | `(tactic| fail "r") => `(tactic| (((with_reducible refine DL.I2.mk ?side ?_); (case side => fail "side"))))
local macro_rules | `(tactic| fail "r") => `(tactic| ((with_reducible refine DL.I0.mk ?_)))
local macro_rules | `(tactic| fail "r") => `(tactic| (((with_reducible apply Or.inr); (with_reducible apply DL.CatR.mk ?s1 ?s2 ?nn ?kk); (case s1 => fail "src"); (case s2 => fail "src"); (case nn => fail "num"))))
local macro_rules | `(tactic| fail "r") => `(tactic| (((with_reducible apply Or.inr); (with_reducible apply DL.CatF.mk ?s1 ?s2 ?nn ?kk); (case s1 => fail "src"); (case s2 => fail "src"); (case nn => fail "num"))))
local macro_rules | `(tactic| fail "r") => `(tactic| ((with_reducible refine Or.inl (DL.I0.mk ?_))))
local macro_rules | `(tactic| fail "r") => `(tactic| ((((with_reducible show DL.IW _ _ _ _ _ _ _ _)); fail "iw")))
local macro_rules | `(tactic| fail "r") => `(tactic| ((((with_reducible show DL.GT _ _ _ (@DL.S.mk (List.set _ _ _) _ _) _)); dsimp only [List.set_cons_zero, List.set_cons_succ])))
local macro_rules | `(tactic| fail "r") => `(tactic| ((((with_reducible show DL.GN _ _ (@DL.S.mk (List.set _ _ _) _ _) _)); dsimp only [List.set_cons_zero, List.set_cons_succ])))
local macro_rules | `(tactic| fail "r") => `(tactic| ((((with_reducible show DL.GT _ _ _ (@DL.S.mk (DL.wipeD _ _) _ _) _)); dsimp only [DL.wipeD, List.set_cons_zero, List.set_cons_succ])))
local macro_rules | `(tactic| fail "r") => `(tactic| ((((with_reducible show DL.GN _ _ (@DL.S.mk (DL.wipeD _ _) _ _) _)); dsimp only [DL.wipeD, List.set_cons_zero, List.set_cons_succ])))
local macro_rules | `(tactic| fail "r") => `(tactic| (((with_reducible apply DL.StFR.mk ?cl ?na ?aa ?nn ?pp ?kk); (case aa => fail "ati"); (case cl => fail "cls"); (case na => fail "noat"); (case nn => first | decide | fail "nnn"); (case pp => fail "pti"))))
local macro_rules | `(tactic| fail "r") => `(tactic| (((with_reducible apply DL.FldR.mk ?oo ?cl ?na ?ll ?kk); (case oo => fail "obj"); (case cl => fail "cls"); (case na => fail "noat"); (case ll => rfl))))
local macro_rules | `(tactic| fail "r") => `(tactic| (((with_reducible apply DL.InI.mk ?hh ?ee ?kk); (case hh => fail "sq"); (case ee => first | rfl | assumption))))
local macro_rules | `(tactic| fail "x") => `(tactic| (((with_reducible refine And.intro ?nn ?_); (case nn => fail "num"))))
local macro_rules | `(tactic| fail "x") => `(tactic| ((with_reducible refine Exists.intro _ (And.intro rfl ?_))))
local macro_rules | `(tactic| fail "x") => `(tactic| (((with_reducible refine And.intro (fun h => ?_) (fun h => ?_)) <;> fail "tidy")))
local macro_rules | `(tactic| fail "x") => `(tactic| (((with_reducible refine Exists.intro _ (And.intro rfl (And.intro (fun h => ?_) (fun h => ?_)))) <;> fail "tidy")))
local macro_rules | `(tactic| fail "x") => `(tactic| (((with_reducible apply Exists.intro); (with_reducible apply And.intro); fail "pt")))
local macro_rules | `(tactic| fail "x") => `(tactic| (((with_reducible apply Exists.intro); (with_reducible apply And.intro); fail "sl")))
local macro_rules | `(tactic| fail "x") => `(tactic| ((with_reducible refine fun (_ : PySem.Shared) (_ : L2.Hp) (_ : PySem.Addr) (_ : List (PySem.Str × PySem.Addr)) (_ : List PySem.Addr) => ?_)))
local macro_rules | `(tactic| fail "x") => `(tactic| (((with_reducible apply Exists.intro); (with_reducible apply Exists.intro); (with_reducible apply And.intro); fail "sl"; (with_reducible apply And.intro); fail "sl")))
local macro_rules | `(tactic| fail "x") => `(tactic| (((with_reducible apply Exists.intro); (with_reducible apply And.intro); fail "src")))
local macro_rules | `(tactic| fail "x") => `(tactic| ((with_reducible refine DL.ow_some ?_)))
local macro_rules | `(tactic| fail "x") => `(tactic| ((with_reducible refine DL.ow_none ?_)))
local macro_rules | `(tactic| fail "x") => `(tactic| (fail "ret"))
local macro_rules | `(tactic| fail "x") => `(tactic| (((with_reducible apply Exists.intro); (with_reducible apply Exists.intro); (with_reducible apply Exists.intro); (with_reducible apply Exists.intro); (with_reducible apply And.intro); (with_reducible exact rfl); (with_reducible apply And.intro); fail "at")))
local macro_rules | `(tactic| fail "x") => `(tactic| (((with_reducible apply Exists.intro); (with_reducible apply And.intro); fail "vwb")))
local macro_rules | `(tactic| fail "x") => `(tactic| (((with_reducible apply And.intro); (with_reducible apply Exists.intro); (with_reducible apply Exists.intro); (with_reducible apply And.intro); (with_reducible exact rfl); fail "mem")))
local macro_rules | `(tactic| fail "x") => `(tactic| (((with_reducible apply DL.AppR.mk ?aa ?nn ?pp ?kk); (case aa => fail "at"); (case nn => fail "num"); (case pp => fail "pt"))))
local macro_rules | `(tactic| fail "x") => `(tactic| (((with_reducible refine fun (p : PySem.Addr) (np : p ∉ _) => ?_))))
local macro_rules | `(tactic| fail "x") => `(tactic| (((with_reducible refine fun (p : PySem.Addr) (np : p ∉ _) => Exists.intro p (Exists.intro _ (Exists.intro _ (And.intro rfl (And.intro np (And.intro rfl ?_)))))))))
local macro_rules | `(tactic| fail "x") => `(tactic| (((with_reducible apply DL.StoR.mk ?aa ?nn ?pp ?kk); (case aa => fail "at"); (case nn => first | rfl | assumption); (case pp => fail "pt"))))
local macro_rules | `(tactic| fail "x") => `(tactic| ((with_reducible refine DL.callp_exc ?_)))
local macro_rules | `(tactic| fail "x") => `(tactic| ((with_reducible refine DL.callp_own ?_)))
local macro_rules | `(tactic| fail "x") => `(tactic| ((with_reducible refine DL.callp_ok ?_)))
local macro_rules | `(tactic| fail "x") => `(tactic| (((with_reducible apply DL.RevR.mk ?aa ?pp ?kk); (case aa => fail "at"); (case pp => fail "pt"))))
local macro_rules | `(tactic| fail "x") => `(tactic| (((with_reducible apply Exists.intro); (with_reducible apply Exists.intro); (with_reducible apply And.intro); fail "ty"; (with_reducible apply And.intro); (first | exact rfl | fail "kit"))))
local macro_rules | `(tactic| fail "x") => `(tactic| (((with_reducible apply Exists.intro); (with_reducible apply Exists.intro); (with_reducible apply And.intro); fail "pt"; (with_reducible apply And.intro); fail "pt"; dsimp only)))
local macro_rules | `(tactic| fail "x") => `(tactic| (((with_reducible apply And.intro); ((with_reducible apply Exists.intro); fail "obj"))))
local macro_rules | `(tactic| fail "x") => `(tactic| (((with_reducible apply Exists.intro); (with_reducible apply And.intro); fail "obj")))
local macro_rules | `(tactic| fail "x") => `(tactic| (((with_reducible apply Exists.intro); (with_reducible apply And.intro); fail "obj"; (with_reducible apply And.intro); exact rfl)))
local macro_rules | `(tactic| fail "x") => `(tactic| ((((with_reducible show DL.MetD _ _ _ _ _ _ _ _)); first | refine DL.met_p ?_ | refine DL.met_g ?_)))
local macro_rules | `(tactic| fail "x") => `(tactic| (fail "made"))
local macro_rules | `(tactic| fail "step0") => `(tactic| (fail "x"))
local macro_rules | `(tactic| fail "step0") => `(tactic| (fail "r"))
local macro_rules | `(tactic| fail "step0") => `(tactic| ((((with_reducible show DL.WW _ _ _ _ _ _ _)); fail "w")))
local macro_rules | `(tactic| fail "step0") => `(tactic| ((((with_reducible show DL.BW _ _ _ _ _ _ _)); fail "b")))
local macro_rules | `(tactic| fail "step0") => `(tactic| ((((with_reducible show DL.AW _ _ _ _ _ _ _)); first | (with_reducible refine DL.aw_nil ?_) | refine DL.aw_cons ?_)))
local macro_rules | `(tactic| fail "step0") => `(tactic| ((((with_reducible show DL.SW _ _ _ _ _ _)); fail "s")))
local macro_rules | `(tactic| fail "step0") => `(tactic| ((((with_reducible show DL.EW _ _ _ _ _ _ _)); fail "e")))
local macro_rules | `(tactic| fail "step0") => `(tactic| ((((with_reducible show DL.LW _ _ _ _ _ _)); (fail_if_success (((with_reducible show DL.LW _ _ _ _ _ (.If _ _ _ _ :: _))); fail "isstop")); fail "l")))
local macro_rules | `(tactic| fail "step0") => `(tactic| ((((with_reducible show DL.TsW _ _ _ _ _ _ _)); with_reducible first | refine DL.ts_nil ?_ | refine DL.ts_one ?_)))
local macro_rules | `(tactic| fail "step0") => `(tactic| ((((with_reducible show (_ ∧ _) ∧ ∃ _, _)); refine And.intro ⟨rfl, rfl⟩ ?_)))
local macro_rules | `(tactic| fail "step0") => `(tactic| ((((with_reducible show DL.KW _ _ _ _ _ _ _)); first | (with_reducible refine DL.kw_nil ?_) | refine DL.kw_cons ?_)))
local macro_rules | `(tactic| fail "step") => `(tactic| fail "step0")
local macro_rules | `(tactic| fail "go") => `(tactic| repeat' (first | fail "step" | fail "stuck!"))

set_option hygiene false in
local macro_rules | `(tactic| fail "call") => `(tactic| first
  | refine DL.ew_isEC hN T.e_NailError hz hf T.f_isinstance T.g_NailError (by fail "ix") (by fail "at") T.k_NailError_NailError ?_
  | refine DL.ew_isEC hN T.e_NailError hz hf T.f_isinstance T.g_InvalidPlace (by fail "ix") (by fail "at") T.k_NailError_InvalidPlace ?_
  | refine DL.ew_isEC hN T.e_NailError hz hf T.f_isinstance T.g_TooLong (by fail "ix") (by fail "at") T.k_NailError_TooLong ?_
  | refine DL.ew_isEC hN T.e_NailError hz hf T.f_isinstance T.g_InvalidLot (by fail "ix") (by fail "at") T.k_NailError_InvalidLot ?_
  | refine DL.ew_isEC hN T.e_NailError hz hf T.f_isinstance T.g_InvalidPattern (by fail "ix") (by fail "at") T.k_NailError_InvalidPattern ?_
  | refine DL.ew_isEC hN T.e_InvalidPlace hz hf T.f_isinstance T.g_NailError (by fail "ix") (by fail "at") T.k_InvalidPlace_NailError ?_
  | refine DL.ew_isEC hN T.e_InvalidPlace hz hf T.f_isinstance T.g_InvalidPlace (by fail "ix") (by fail "at") T.k_InvalidPlace_InvalidPlace ?_
  | refine DL.ew_isEC hN T.e_InvalidPlace hz hf T.f_isinstance T.g_TooLong (by fail "ix") (by fail "at") T.k_InvalidPlace_TooLong ?_
  | refine DL.ew_isEC hN T.e_InvalidPlace hz hf T.f_isinstance T.g_InvalidLot (by fail "ix") (by fail "at") T.k_InvalidPlace_InvalidLot ?_
  | refine DL.ew_isEC hN T.e_InvalidPlace hz hf T.f_isinstance T.g_InvalidPattern (by fail "ix") (by fail "at") T.k_InvalidPlace_InvalidPattern ?_
  | refine DL.ew_isEC hN T.e_TooLong hz hf T.f_isinstance T.g_NailError (by fail "ix") (by fail "at") T.k_TooLong_NailError ?_
  | refine DL.ew_isEC hN T.e_TooLong hz hf T.f_isinstance T.g_InvalidPlace (by fail "ix") (by fail "at") T.k_TooLong_InvalidPlace ?_
  | refine DL.ew_isEC hN T.e_TooLong hz hf T.f_isinstance T.g_TooLong (by fail "ix") (by fail "at") T.k_TooLong_TooLong ?_
  | refine DL.ew_isEC hN T.e_TooLong hz hf T.f_isinstance T.g_InvalidLot (by fail "ix") (by fail "at") T.k_TooLong_InvalidLot ?_
  | refine DL.ew_isEC hN T.e_TooLong hz hf T.f_isinstance T.g_InvalidPattern (by fail "ix") (by fail "at") T.k_TooLong_InvalidPattern ?_
  | refine DL.ew_isEC hN T.e_InvalidLot hz hf T.f_isinstance T.g_NailError (by fail "ix") (by fail "at") T.k_InvalidLot_NailError ?_
  | refine DL.ew_isEC hN T.e_InvalidLot hz hf T.f_isinstance T.g_InvalidPlace (by fail "ix") (by fail "at") T.k_InvalidLot_InvalidPlace ?_
  | refine DL.ew_isEC hN T.e_InvalidLot hz hf T.f_isinstance T.g_TooLong (by fail "ix") (by fail "at") T.k_InvalidLot_TooLong ?_
  | refine DL.ew_isEC hN T.e_InvalidLot hz hf T.f_isinstance T.g_InvalidLot (by fail "ix") (by fail "at") T.k_InvalidLot_InvalidLot ?_
  | refine DL.ew_isEC hN T.e_InvalidLot hz hf T.f_isinstance T.g_InvalidPattern (by fail "ix") (by fail "at") T.k_InvalidLot_InvalidPattern ?_
  | refine DL.ew_isEC hN T.e_InvalidPattern hz hf T.f_isinstance T.g_NailError (by fail "ix") (by fail "at") T.k_InvalidPattern_NailError ?_
  | refine DL.ew_isEC hN T.e_InvalidPattern hz hf T.f_isinstance T.g_InvalidPlace (by fail "ix") (by fail "at") T.k_InvalidPattern_InvalidPlace ?_
  | refine DL.ew_isEC hN T.e_InvalidPattern hz hf T.f_isinstance T.g_TooLong (by fail "ix") (by fail "at") T.k_InvalidPattern_TooLong ?_
  | refine DL.ew_isEC hN T.e_InvalidPattern hz hf T.f_isinstance T.g_InvalidLot (by fail "ix") (by fail "at") T.k_InvalidPattern_InvalidLot ?_
  | refine DL.ew_isEC hN T.e_InvalidPattern hz hf T.f_isinstance T.g_InvalidPattern (by fail "ix") (by fail "at") T.k_InvalidPattern_InvalidPattern ?_
  | refine DL.ew_isET hN T.e_NailError hz hf T.f_isinstance T.f_ValueError (by decide +kernel) (by fail "ix") (by fail "at") T.k_NailError_ValueError ?_
  | refine DL.ew_isET hN T.e_InvalidPlace hz hf T.f_isinstance T.f_ValueError (by decide +kernel) (by fail "ix") (by fail "at") T.k_InvalidPlace_ValueError ?_
  | refine DL.ew_isET hN T.e_TooLong hz hf T.f_isinstance T.f_ValueError (by decide +kernel) (by fail "ix") (by fail "at") T.k_TooLong_ValueError ?_
  | refine DL.ew_isET hN T.e_InvalidLot hz hf T.f_isinstance T.f_ValueError (by decide +kernel) (by fail "ix") (by fail "at") T.k_InvalidLot_ValueError ?_
  | refine DL.ew_isET hN T.e_InvalidPattern hz hf T.f_isinstance T.f_ValueError (by decide +kernel) (by fail "ix") (by fail "at") T.k_InvalidPattern_ValueError ?_
  | refine DL.ew_len T.f_len ?_
  | refine DL.ew_toint T.f_int ?_
  | refine DL.ew_frz (DL.ew_listRg2 rfl T.f_list T.f_range ?_)
  | refine DL.ew_frz (DL.ew_listO T.f_list ?_)
  | refine DL.ew_max rfl T.f_max ?_
  | refine DL.ew_min rfl T.f_min ?_
  | refine DL.ew_abs T.f_abs ?_
  | refine DL.ew_isiT T.f_isinstance T.f_list boot_list ?_
  | refine DL.ew_isiT T.f_isinstance T.f_int boot_int ?_
  | refine DL.ew_isiT T.f_isinstance T.f_bool boot_bool ?_
  | refine DL.ew_isiT T.f_isinstance T.f_tuple boot_tuple ?_
  | refine DL.ew_isiC T.f_isinstance T.g_Place ?_
  | refine DL.ew_isiC T.f_isinstance T.g_Lot ?_
  | refine DL.ew_isiC T.f_isinstance T.g_Pattern ?_)
set_option hygiene false in
local macro_rules | `(tactic| fail "raise") => `(tactic| first
  | refine DL.sw_raise (x := "NailError") rfl (by first | exact tk | exact DL.takes_wf | assumption) T.x_NailError.1 T.g_NailError T.x_NailError.2.1 T.x_NailError.2.2.1 T.x_NailError.2.2.2 ?_
  | refine DL.sw_raise (x := "InvalidPlace") rfl (by first | exact tk | exact DL.takes_wf | assumption) T.x_InvalidPlace.1 T.g_InvalidPlace T.x_InvalidPlace.2.1 T.x_InvalidPlace.2.2.1 T.x_InvalidPlace.2.2.2 ?_
  | refine DL.sw_raise (x := "TooLong") rfl (by first | exact tk | exact DL.takes_wf | assumption) T.x_TooLong.1 T.g_TooLong T.x_TooLong.2.1 T.x_TooLong.2.2.1 T.x_TooLong.2.2.2 ?_
  | refine DL.sw_raise (x := "InvalidLot") rfl (by first | exact tk | exact DL.takes_wf | assumption) T.x_InvalidLot.1 T.g_InvalidLot T.x_InvalidLot.2.1 T.x_InvalidLot.2.2.1 T.x_InvalidLot.2.2.2 ?_
  | refine DL.sw_raiseX2 (x := "InvalidPattern") rfl (by first | exact tk | exact DL.takes_wf | assumption) T.ox_InvalidPattern T.fi_InvalidPattern T.ti_InvalidPattern ((xinit_InvalidPattern T c0).mono (by decide)) hr T.g_InvalidPattern ?_)
set_option hygiene false in
local macro_rules | `(tactic| fail "try") => `(tactic| first
  | refine DL.sw_try (x := "NailError") (C := .ref (He.ga K "NailError")) ⟨rfl, by decide, Or.inl T.g_NailError⟩ (by first | exact tk | assumption) (fun W pn xe tk po => ?_)
  | refine DL.sw_try (x := "InvalidPlace") (C := .ref (He.ga K "InvalidPlace")) ⟨rfl, by decide, Or.inl T.g_InvalidPlace⟩ (by first | exact tk | assumption) (fun W pn xe tk po => ?_)
  | refine DL.sw_try (x := "TooLong") (C := .ref (He.ga K "TooLong")) ⟨rfl, by decide, Or.inl T.g_TooLong⟩ (by first | exact tk | assumption) (fun W pn xe tk po => ?_)
  | refine DL.sw_try (x := "InvalidLot") (C := .ref (He.ga K "InvalidLot")) ⟨rfl, by decide, Or.inl T.g_InvalidLot⟩ (by first | exact tk | assumption) (fun W pn xe tk po => ?_)
  | refine DL.sw_try (x := "InvalidPattern") (C := .ref (He.ga K "InvalidPattern")) ⟨rfl, by decide, Or.inl T.g_InvalidPattern⟩ (by first | exact tk | assumption) (fun W pn xe tk po => ?_))
set_option hygiene false in
local macro_rules | `(tactic| fail "clz") => `(tactic| first | exact DL.ClS.nil | exact DL.ClS.named (x := "NailError") ⟨rfl, by decide, Or.inl T.g_NailError⟩ (by rw [hN]; exact DL.Ix.get (by fail "ix")) rfl (by fail "clz") | exact DL.ClS.bare (x := "NailError") ⟨rfl, by decide, Or.inl T.g_NailError⟩ (by fail "clz") | exact DL.ClS.named (x := "InvalidPlace") ⟨rfl, by decide, Or.inl T.g_InvalidPlace⟩ (by rw [hN]; exact DL.Ix.get (by fail "ix")) rfl (by fail "clz") | exact DL.ClS.bare (x := "InvalidPlace") ⟨rfl, by decide, Or.inl T.g_InvalidPlace⟩ (by fail "clz") | exact DL.ClS.named (x := "TooLong") ⟨rfl, by decide, Or.inl T.g_TooLong⟩ (by rw [hN]; exact DL.Ix.get (by fail "ix")) rfl (by fail "clz") | exact DL.ClS.bare (x := "TooLong") ⟨rfl, by decide, Or.inl T.g_TooLong⟩ (by fail "clz") | exact DL.ClS.named (x := "InvalidLot") ⟨rfl, by decide, Or.inl T.g_InvalidLot⟩ (by rw [hN]; exact DL.Ix.get (by fail "ix")) rfl (by fail "clz") | exact DL.ClS.bare (x := "InvalidLot") ⟨rfl, by decide, Or.inl T.g_InvalidLot⟩ (by fail "clz") | exact DL.ClS.named (x := "InvalidPattern") ⟨rfl, by decide, Or.inl T.g_InvalidPattern⟩ (by rw [hN]; exact DL.Ix.get (by fail "ix")) rfl (by fail "clz") | exact DL.ClS.bare (x := "InvalidPattern") ⟨rfl, by decide, Or.inl T.g_InvalidPattern⟩ (by fail "clz"))
set_option hygiene false in
local macro_rules | `(tactic| fail "tryc") => `(tactic| refine DL.sw_clausesF hO (by rw [hN]; exact nd) (by first | exact tk | assumption) (by fail "clz") (fun W ps xe tk po => ?_))
set_option hygiene false in
local macro_rules | `(tactic| fail "call") => `(tactic| first | refine DL.ew_isEFs hN T.e_InvalidPattern hO2 hx hf T.f_isinstance T.g_NailError (by fail "ix") (by fail "at") T.k_InvalidPattern_NailError ?_ | refine DL.ew_isEFs hN T.e_InvalidPattern hO2 hx hf T.f_isinstance T.g_InvalidPlace (by fail "ix") (by fail "at") T.k_InvalidPattern_InvalidPlace ?_ | refine DL.ew_isEFs hN T.e_InvalidPattern hO2 hx hf T.f_isinstance T.g_TooLong (by fail "ix") (by fail "at") T.k_InvalidPattern_TooLong ?_ | refine DL.ew_isEFs hN T.e_InvalidPattern hO2 hx hf T.f_isinstance T.g_InvalidLot (by fail "ix") (by fail "at") T.k_InvalidPattern_InvalidLot ?_ | refine DL.ew_isEFs hN T.e_InvalidPattern hO2 hx hf T.f_isinstance T.g_InvalidPattern (by fail "ix") (by fail "at") T.k_InvalidPattern_InvalidPattern ?_)
set_option hygiene false in
local macro_rules | `(tactic| fail "glob") => `(tactic| first | refine DL.ew_gintE (x := "LONGEST") T.c_LONGEST ?_ | refine DL.ew_gintE (x := "MOST_LOTS") T.c_MOST_LOTS ?_)
set_option hygiene false in
local macro_rules | `(tactic| fail "attr") => `(tactic| first
  | refine DL.ew_xfs hN T.xf_InvalidPattern T.nn_InvalidPattern_n hO2 hx hf (by fail "ix") (by fail "at") (by first | exact .z | exact .s (by decide) .z) (by first | exact DL.Sc.int | exact DL.Sc.non | assumption) ?_
  | refine DL.ew_xfs hN T.xf_InvalidPattern T.nn_InvalidPattern_lot hO2 hx hf (by fail "ix") (by fail "at") (by first | exact .z | exact .s (by decide) .z) (by first | exact DL.Sc.int | exact DL.Sc.non | assumption) ?_
  | refine DL.ew_fld ?_)
set_option hygiene false in
local macro_rules | `(tactic| fail "cls") => `(tactic| first | exact T.cl_Place | exact T.cl_Lot | exact T.cl_Pattern)
set_option hygiene false in
local macro_rules | `(tactic| fail "noat") => `(tactic| first | exact T.no_Place_rows | exact T.no_Lot_upper | exact T.no_Lot_stride | exact T.no_Lot_lower | exact T.no_Lot_lean | exact T.no_Lot_many | exact T.no_Pattern_row | exact T.no_Pattern_first)
set_option hygiene false in
local macro_rules | `(tactic| fail "ins") => `(tactic| first | exact T.in_Place | exact T.in_Lot | exact T.in_Pattern)
set_option hygiene false in
local macro_rules | `(tactic| fail "kit") => `(tactic| first | exact T.k_Place_Place | exact T.k_Place_Lot | exact T.k_Place_Pattern | exact T.k_Place_int | exact T.k_Place_bool | exact T.k_Place_str | exact T.k_Place_list | exact T.k_Place_tuple | exact T.k_Lot_Place | exact T.k_Lot_Lot | exact T.k_Lot_Pattern | exact T.k_Lot_int | exact T.k_Lot_bool | exact T.k_Lot_str | exact T.k_Lot_list | exact T.k_Lot_tuple | exact T.k_Pattern_Place | exact T.k_Pattern_Lot | exact T.k_Pattern_Pattern | exact T.k_Pattern_int | exact T.k_Pattern_bool | exact T.k_Pattern_str | exact T.k_Pattern_list | exact T.k_Pattern_tuple | exact T.k_int_Place | exact T.k_bool_Place | exact T.k_str_Place | exact T.k_list_Place | exact T.k_tuple_Place | exact T.k_NoneType_Place | exact T.k_int_Lot | exact T.k_bool_Lot | exact T.k_str_Lot | exact T.k_list_Lot | exact T.k_tuple_Lot | exact T.k_NoneType_Lot | exact T.k_int_Pattern | exact T.k_bool_Pattern | exact T.k_str_Pattern | exact T.k_list_Pattern | exact T.k_tuple_Pattern | exact T.k_NoneType_Pattern)
section

namespace L20.PL
open PySem PySem.Spec PyProof.Rows L2 DL
def valIn (rows : List (Int × Int)) (n : Int) : Int := (rows.getD (n % rows.length).toNat (0, 0)).1 * (n / rows.length) + (rows.getD (n % rows.length).toNat (0, 0)).2
def liftP (rows : List (Int × Int)) (t : Nat) : List (Int × Int) := (List.range t).flatMap fun (m : Nat) => rows.map fun q => (q.1 * t, q.1 * m + q.2)
def bd (rows : List (Int × Int)) : Prop := ∀ q ∈ rows, -(2 ^ 200) < q.1 ∧ q.1 < 2 ^ 200 ∧ -(2 ^ 200) < q.2 ∧ q.2 < 2 ^ 200
theorem liftP_len {rows : List (Int × Int)} : ∀ {t u : Nat}, ((List.range t).flatMap fun (m : Nat) => rows.map fun q => (q.1 * (u : Int), q.1 * (m : Int) + q.2)).length = rows.length * t
  | 0, u => by simp
  | t + 1, u => by
    rw [List.range_succ, List.flatMap_append, List.length_append, liftP_len]
    simp [Nat.mul_succ]
theorem liftP_get {rows : List (Int × Int)} {u : Nat} : ∀ {t m r : Nat}, m < t → r < rows.length → ((List.range t).flatMap fun (m : Nat) => rows.map fun q => (q.1 * (u : Int), q.1 * (m : Int) + q.2))[rows.length * m + r]? = rows[r]?.map fun q => (q.1 * (u : Int), q.1 * (m : Int) + q.2)
  | 0, m, r, h, _ => by omega
  | t + 1, m, r, h, hr => by
    rw [List.range_succ, List.flatMap_append]
    by_cases e : m = t
    · subst e
      rw [List.getElem?_append_right (by rw [liftP_len]; omega), liftP_len]
      simp
    · have hm : m < t := by omega
      have h1 : rows.length * m + r < rows.length * t := by
        have : rows.length * (m + 1) ≤ rows.length * t := Nat.mul_le_mul_left _ hm
        rw [Nat.mul_succ] at this
        omega
      rw [List.getElem?_append_left (by rw [liftP_len]; exact h1)]
      exact liftP_get hm hr
theorem valIn_lift {s : List (Int × Int)} {t : Nat} (hs : 0 < s.length) (ht : 0 < t) (n : Int) : valIn (liftP s t) n = valIn s n := by
  have hl : (liftP s t).length = s.length * t := liftP_len
  unfold valIn
  rw [hl]
  have hp : (0 : Int) < s.length := by omega
  have ht' : (0 : Int) < t := by omega
  have hP : (0 : Int) < ((s.length * t : Nat) : Int) := by
    have := Nat.mul_pos hs ht
    omega
  -- n = P * K + p * m + r
  have e1 := Int.emod_add_mul_ediv n ((s.length * t : Nat) : Int)
  have e2 := Int.emod_add_mul_ediv n (s.length : Int)
  have h0 := Int.emod_nonneg n (Int.ne_of_gt hP)
  have h1 := Int.emod_lt_of_pos n hP
  have g0 := Int.emod_nonneg n (Int.ne_of_gt hp)
  have g1 := Int.emod_lt_of_pos n hp
  generalize hK : n / ((s.length * t : Nat) : Int) = K at *
  generalize hk : n % ((s.length * t : Nat) : Int) = k at *
  generalize hq : n / (s.length : Int) = q at *
  generalize hr : n % (s.length : Int) = r at *
  -- m
  have hm : k / (s.length : Int) = q - t * K := by
    have : k = r + s.length * (q - t * K) := by
      have : ((s.length * t : Nat) : Int) * K = s.length * (t * K) := by push_cast; rw [Int.mul_assoc]
      rw [Int.mul_sub]
      omega
    rw [this, Int.add_mul_ediv_left _ _ (Int.ne_of_gt hp), Int.ediv_eq_zero_of_lt g0 g1]
    omega
  have hkr : k = r + s.length * (q - t * K) := by
    have : ((s.length * t : Nat) : Int) * K = s.length * (t * K) := by push_cast; rw [Int.mul_assoc]
    rw [Int.mul_sub]
    omega
  have m0 : 0 ≤ q - t * K := by
    rw [← hm]
    exact Int.ediv_nonneg h0 (Int.le_of_lt hp)
  have m1 : q - t * K < t := by
    rw [← hm]
    refine Int.ediv_lt_of_lt_mul hp ?_
    rw [Int.mul_comm]
    push_cast at h1
    exact h1
  obtain ⟨m, em⟩ := Int.eq_ofNat_of_zero_le m0
  obtain ⟨r', er⟩ := Int.eq_ofNat_of_zero_le g0
  have ek : k.toNat = s.length * m + r' := by
    rw [hkr, em, er]
    have : (r' : Int) + s.length * (m : Int) = ((s.length * m + r' : Nat) : Int) := by push_cast; omega
    rw [this, Int.toNat_natCast]
  have hr' : r' < s.length := by omega
  have hmt : m < t := by omega
  have hget := liftP_get (rows := s) (u := t) hmt hr'
  rw [ek, er, Int.toNat_natCast]
  have e3 : (liftP s t).getD (s.length * m + r') (0, 0) = ((s.getD r' (0, 0)).1 * t, (s.getD r' (0, 0)).1 * m + (s.getD r' (0, 0)).2) := by
    rw [List.getD_eq_getElem?_getD]
    show (((List.range t).flatMap fun (m : Nat) => s.map fun q => (q.1 * (t : Int), q.1 * (m : Int) + q.2))[s.length * m + r']?).getD (0, 0) = _
    rw [hget, List.getD_eq_getElem?_getD, List.getElem?_eq_getElem hr']
    rfl
  rw [e3]
  generalize s.getD r' (0, 0) = z
  have eq2 : q = m + t * K := by omega
  rw [eq2]
  show z.1 * t * K + (z.1 * m + z.2) = z.1 * (m + t * K) + z.2
  rw [Int.mul_add, Int.mul_assoc]
  omega
theorem bd_at {rows : List (Int × Int)} (h : bd rows) (i : Nat) : -(2 ^ 200) < (rows.getD i (0, 0)).1 ∧ (rows.getD i (0, 0)).1 < 2 ^ 200 ∧ -(2 ^ 200) < (rows.getD i (0, 0)).2 ∧ (rows.getD i (0, 0)).2 < 2 ^ 200 := by
  by_cases hi : i < rows.length
  · rw [List.getD_eq_getElem?_getD, List.getElem?_eq_getElem hi]
    exact h _ (List.getElem_mem hi)
  · rw [List.getD_eq_getElem?_getD, List.getElem?_eq_none (by omega)]
    exact ⟨by decide, by decide, by decide, by decide⟩
theorem ediv_bd {n p B : Int} (hp : 0 < p) (h0 : -B < n) (h1 : n < B) : -B < n / p ∧ n / p < B := by
  have e1 := Int.emod_add_mul_ediv n p
  have g0 := Int.emod_nonneg n (Int.ne_of_gt hp)
  have g1 := Int.emod_lt_of_pos n hp
  generalize n / p = q at *
  generalize n % p = r at *
  have hpq : p * q ≤ n := by omega
  have hpq2 : n < p * (q + 1) := by rw [Int.mul_add]; omega
  constructor
  · by_cases hq : 0 ≤ q
    · omega
    · have : p * (q + 1) ≤ 1 * (q + 1) := Int.mul_le_mul_of_nonpos_right (by omega) (by omega)
      omega
  · by_cases hq : 0 ≤ q
    · have : 1 * q ≤ p * q := Int.mul_le_mul_of_nonneg_right (by omega) hq
      omega
    · omega
def F_value_in : List D → (Rs → Prop) → Prop := fun ds P => ∃ (rows : List (Int × Int)) (n : Int), ds = [.lst (rows.map D.pr), .int n] ∧ 0 < rows.length ∧ rows.length ≤ 10000 ∧ bd rows ∧ -(2 ^ 200) < n ∧ n < 2 ^ 200 ∧ P (.ok (.int (valIn rows n)))
theorem sc_value_in : FnScope ["rows", "n", "a", "b"] ["rows", "n"] (defScope s_value_in) := ⟨rfl, rfl, rfl, by decide +kernel, rfl, by decide +kernel, by decide +kernel⟩
theorem ok_value_in {P : Program} {w : World} {K : PySem.W.Frag} {mg : Str → Option Value} {base : Heap} (T : Tx K mg) (c0 : SaysM ex dfs K) : Df P w K mg base 1 "value_in" ["rows", "n"] (spP K [false,false] F_value_in) := by
  refine df_pure (N := ["rows", "n", "a", "b"]) (fd_value_in c0) T.g_value_in sc_value_in (fun _ _ _ _ _ _ us hl => match us, hl with | [_, _], _ => rfl) rfl (by decide) ?_
  intro cdv A outer s H E hr po c W hO tk hN nd ds Q δ hF hS
  have hsc : ∀ N q f, (FX P w K mg base N q (defScope s_value_in) f cdv A outer s H E).env.scope = defScope s_value_in := fun _ _ _ => rfl
  obtain ⟨rows, n, rfl, h0, hl, hb, hn0, hn1, q⟩ := hF
  obtain ⟨δ1, rfl, hS1⟩ := hS.v
  obtain ⟨δ2, rfl, hS2⟩ := hS1.v
  obtain rfl := hS2.n
  show LW _ c W ⟨[some (.lst (rows.map D.pr)), some (.int n), none, none], []⟩ (fnNd Q) (_ :: _)
  have hp : (0 : Int) < rows.length := by omega
  have g0 := Int.emod_nonneg n (Int.ne_of_gt hp)
  have g1 := Int.emod_lt_of_pos n hp
  obtain ⟨z, ez, hz⟩ := prs_at (l := rows) (k := n % ((rows.map D.pr).length : Int)) (by rw [List.length_map]; exact g0) (by rw [List.length_map]; exact g1)
  have hzd : rows.getD (n % rows.length).toNat (0, 0) = z := by
    rw [List.length_map] at ez
    rw [List.getD_eq_getElem?_getD, ez]
    rfl
  have hzb := bd_at hb (n % rows.length).toNat
  rw [hzd] at hzb
  have hqb : -(2 ^ 200) < n / ((rows.map D.pr).length : Int) ∧ n / ((rows.map D.pr).length : Int) < 2 ^ 200 := by
    rw [List.length_map]
    exact ediv_bd hp hn0 hn1
  fail "go"
  have e : z.1 * (n / ((rows.map D.pr).length : Int)) + z.2 = valIn rows n := by
    unfold valIn
    rw [hzd, List.length_map]
  rw [e]
  exact q
def F_lifted : List D → (Rs → Prop) → Prop := fun ds P => ∃ (rows : List (Int × Int)) (t : Nat), ds = [.lst (rows.map D.pr), .int ((rows.length * t : Nat) : Int)] ∧ 0 < rows.length ∧ rows.length ≤ 100000 ∧ rows.length * t ≤ 100000 ∧ P (.ok (.lst ((liftP rows t).map D.pr)))
theorem sc_lifted : FnScope ["rows", "period", "times", "m", "a", "b"] ["rows", "period"] (defScope s_lifted) := ⟨rfl, rfl, rfl, by decide +kernel, rfl, by decide +kernel, by decide +kernel⟩
theorem ok_lifted {P : Program} {w : World} {K : PySem.W.Frag} {mg : Str → Option Value} {base : Heap} (T : Tx K mg) (c0 : SaysM ex dfs K) : Df P w K mg base 1 "lifted" ["rows", "period"] (spP K [true,false] F_lifted) := by
  refine df_pure (N := ["rows", "period", "times", "m", "a", "b"]) (fd_lifted c0) T.g_lifted sc_lifted (fun _ _ _ _ _ _ us hl => match us, hl with | [_, _], _ => rfl) rfl (by decide) ?_
  intro cdv A outer s H E hr po c W hO tk hN nd ds Q δ hF hS
  have hsc : ∀ N q f, (FX P w K mg base N q (defScope s_lifted) f cdv A outer s H E).env.scope = defScope s_lifted := fun _ _ _ => rfl
  obtain ⟨rows, t, rfl, h0, hrl, hl, q⟩ := hF
  obtain ⟨p0, δ1, rfl, hm0, hS1⟩ := hS.l
  obtain ⟨δ2, rfl, hS2⟩ := hS1.v
  obtain rfl := hS2.n
  show LW _ c W ⟨[some (.ref p0), some (.int ((rows.length * t : Nat) : Int)), none, none, none, none], []⟩ (fnNd Q) (_ :: _)
  have htt : t ≤ 100000 := Nat.le_trans (Nat.le_mul_of_pos_left t h0) hl
  have hdv : ((rows.length * t : Nat) : Int) / ((rows.map D.pr).length : Int) = t := by
    rw [List.length_map]
    push_cast
    rw [Int.mul_comm]
    exact Int.mul_ediv_cancel _ (by omega)
  fail "go"
  rw [hdv]
  fail "go"
  have eres : (List.range (rgD 0 (t : Int).toNat).length).flatMap (fun i : Nat => rows.map fun q => D.tup [.int (q.1 * (t : Int)), .int (q.1 * (0 + (i : Int)) + q.2)]) = (liftP rows t).map D.pr := by
    rw [rgD_len, Int.toNat_natCast]
    unfold liftP
    rw [List.map_flatMap]
    congr 1
    funext m
    rw [List.map_map, Int.zero_add]
    rfl
  refine lc2_res (fun i : Nat => rows.map fun q => D.tup [.int (q.1 * (t : Int)), .int (q.1 * (0 + (i : Int)) + q.2)]) (by rw [eres, List.length_map]; unfold liftP; rw [liftP_len]; omega) (fun _ _ _ => trivial) (fun h m => gn_mono h m) (fun h m => gp_mono h m) (fun i d p hd hi np => ?_) ?_
  · obtain ⟨rfl, hi2⟩ := rgD_of hd
    fail "go"
    refine ⟨rfl, by simp, fun _ _ => .src (.ro hm0), fun j d1 hd1 hj => ?_⟩
    rw [List.getElem?_map] at hd1
    obtain ⟨a, ea, rfl⟩ := Option.map_eq_some_iff.mp hd1
    fail "go"
    refine ⟨?_, rfl⟩
    rw [List.getElem?_map, ea]
    rfl
  rw [eres]
  fail "go"
  exact q

end L20.PL

end
section

namespace L20.PL
open PySem PySem.Spec PyProof.Rows L2 DL
set_option hygiene false in
local macro_rules | `(tactic| fail "call") => `(tactic| first
  | refine DL.ew_fn (x := "value_in") ((ok_value_in T c0).mono (by decide)) hr (by first | exact tk | exact DL.takes_wf | assumption) ?_
  | refine DL.ew_fn (x := "lifted") ((ok_lifted T c0).mono (by decide)) hr (by first | exact tk | exact DL.takes_wf | assumption) ?_)
def divsN (n : Nat) : List Nat := (List.range n).filter fun i => decide (((n : Nat) : Int) % (1 + (i : Int)) = 0)
def F_divisors : List D → (Rs → Prop) → Prop := fun ds P => ∃ n : Nat, ds = [.int (n : Int)] ∧ n ≤ 100000 ∧ P (.ok (.lst ((divsN n).map fun i : Nat => D.int (1 + (i : Int)))))
theorem sc_divisors : FnScope ["whole", "d"] ["whole"] (defScope s_divisors) := ⟨rfl, rfl, rfl, by decide +kernel, rfl, by decide +kernel, by decide +kernel⟩
theorem ok_divisors {P : Program} {w : World} {K : PySem.W.Frag} {mg : Str → Option Value} {base : Heap} (T : Tx K mg) (c0 : SaysM ex dfs K) : Df P w K mg base 1 "divisors" ["whole"] (spP K [false] F_divisors) := by
  refine df_pure (N := ["whole", "d"]) (fd_divisors c0) T.g_divisors sc_divisors (fun _ _ _ _ _ _ us hl => match us, hl with | [_], _ => rfl) rfl (by decide) ?_
  intro cdv A outer s H E hr po c W hO tk hN nd ds Q δ hF hS
  have hsc : ∀ N q f, (FX P w K mg base N q (defScope s_divisors) f cdv A outer s H E).env.scope = defScope s_divisors := fun _ _ _ => rfl
  obtain ⟨n, rfl, hn, q⟩ := hF
  obtain ⟨δ1, rfl, hS1⟩ := hS.v
  obtain rfl := hS1.n
  show LW _ c W ⟨[some (.int (n : Int)), none], []⟩ (fnNd Q) (_ :: _)
  fail "go"
  refine ⟨1, _, rfl, rfl, ⟨by decide, by decide, by omega, by omega⟩, ?_⟩
  refine lc_fil (fun i : Nat => D.int (1 + (i : Int))) (fun i : Nat => decide ((n : Int) % (1 + (i : Int)) = 0)) (by rw [rgD_len]; omega) (fun _ _ _ => trivial) (fun h m => gn_mono h m) (fun i d t acc hd hi np => ?_) ?_
  · obtain ⟨rfl, hi2⟩ := rgD_of hd
    fail "go"
    refine ⟨rfl, rfl, fun _ => ?_⟩
    fail "go"
    exact ⟨rfl, rfl⟩
  rw [rgD_len, show ((n : Int) + 1 - 1).toNat = n by omega]
  fail "go"
  exact q
def shortP (rows : List (Int × Int)) (p t : Nat) : List (Int × Int) := (rows.take p).map fun q => (q.1 / (t : Int), q.2)
def shortOf (rows : List (Int × Int)) (p t : Nat) : Option (List (Int × Int)) :=
  if (∀ q ∈ rows.take p, q.1 % (t : Int) = 0) ∧ liftP (shortP rows p t) t = rows then some (shortP rows p t) else none
def F_shortened : List D → (Rs → Prop) → Prop := fun ds P => ∃ (rows : List (Int × Int)) (p t : Nat), ds = [.lst (rows.map D.pr), .int (p : Int)] ∧ rows.length = p * t ∧ 0 < p ∧ 0 < t ∧ rows.length ≤ 10000 ∧
  (shortOf rows p t = none → P (.ok .non)) ∧ (∀ s, shortOf rows p t = some s → P (.ok (.lst (s.map D.pr))))
theorem sc_shortened : FnScope ["rows", "period", "times", "short", "a", "b"] ["rows", "period"] (defScope s_shortened) := ⟨rfl, rfl, rfl, by decide +kernel, rfl, by decide +kernel, by decide +kernel⟩
theorem ok_shortened {P : Program} {w : World} {K : PySem.W.Frag} {mg : Str → Option Value} {base : Heap} (T : Tx K mg) (c0 : SaysM ex dfs K) : Df P w K mg base 2 "shortened" ["rows", "period"] (spP K [true,false] F_shortened) := by
  refine df_pure (N := ["rows", "period", "times", "short", "a", "b"]) (fd_shortened c0) T.g_shortened sc_shortened (fun _ _ _ _ _ _ us hl => match us, hl with | [_, _], _ => rfl) rfl (by decide) ?_
  intro cdv A outer s H E hr po c W hO tk hN nd ds Q δ hF hS
  have hsc : ∀ N q f, (FX P w K mg base N q (defScope s_shortened) f cdv A outer s H E).env.scope = defScope s_shortened := fun _ _ _ => rfl
  obtain ⟨rows, p, t, rfl, hpt, hp, ht, hl, q1, q2⟩ := hF
  obtain ⟨p0, δ1, rfl, hm0, hS1⟩ := hS.l
  obtain ⟨δ2, rfl, hS2⟩ := hS1.v
  obtain rfl := hS2.n
  have ow : OwnN "short" := .mk
  have hp2 : p ≤ 10000 := by have := Nat.le_mul_of_pos_right p ht; omega
  have ht2 : t ≤ 10000 := by have := Nat.le_mul_of_pos_left t hp; omega
  have hdv : ((rows.map D.pr).length : Int) / (p : Int) = t := by
    rw [List.length_map, hpt]
    push_cast
    rw [Int.mul_comm]
    exact Int.mul_ediv_cancel _ (by omega)
  have hcut : cutD (rows.map D.pr) none (some (p : Int)) = (rows.take p).map D.pr := by
    rw [cut_take (by omega), Int.toNat_natCast, List.map_take]
  have htl : (rows.take p).length = p := by
    rw [List.length_take]
    have := Nat.le_mul_of_pos_right p ht
    omega
  have hsl : (shortP rows p t).length = p := by unfold shortP; rw [List.length_map, htl]
  show LW _ c W ⟨[some (.ref p0), some (.int (p : Int)), none, none, none, none], []⟩ (fnNd Q) (_ :: _)
  fail "go"
  rw [hdv]
  fail "go"
  rename_i r nr _ _
  refine ⟨fun i s' => ∃ o4 o5 : Option D, s' = ⟨[some (.ref p0), some (.int (p : Int)), some (.int (t : Int)), some (.ref r), o4, o5], [(r, ((shortP rows p t).take i).map D.pr)]⟩ ∧ ∀ q ∈ (rows.take p).take i, q.1 % (t : Int) = 0,
    ⟨none, none, rfl, by simp⟩, fun _ _ _ => .src .lst, ?_, ?_⟩
  · rintro i d s' hd ⟨o4, o5, rfl, hI⟩
    rw [hcut, List.getElem?_map] at hd
    obtain ⟨a, ea, rfl⟩ := Option.map_eq_some_iff.mp hd
    have hi : i < p := by
      have := (List.getElem?_eq_some_iff.mp ea).1
      omega
    fail "go"
    · rename_i h
      refine q1 ?_
      unfold shortOf
      rw [if_neg fun z => h (z.1 a (List.mem_of_getElem? ea))]
    rename_i h
    refine .mk .z (by simp only [List.length_map, List.length_take]; omega) .z ?_
    have es : (shortP rows p t)[i]? = some (a.1 / (t : Int), a.2) := by
      unfold shortP
      rw [List.getElem?_map, ea]
      rfl
    refine ⟨_, _, by rw [List.take_add_one, es, List.map_append]; rfl, fun q hq => ?_⟩
    rw [List.take_add_one, ea] at hq
    rcases List.mem_append.mp hq with hq | hq
    · exact hI q hq
    · rw [List.mem_singleton.mp hq]
      exact h
  rintro s' ⟨o4, o5, rfl, hI⟩
  rw [hcut, List.length_map, htl] at hI ⊢
  rw [List.take_of_length_le (Nat.le_of_eq hsl)]
  rw [List.take_of_length_le (Nat.le_of_eq htl)] at hI
  fail "go"
  refine ⟨shortP rows p t, t, by rw [hsl, ← hpt, List.length_map], by omega, by omega, by rw [hsl, ← hpt]; omega, ?_⟩
  fail "go"
  · rename_i h
    refine q1 ?_
    unfold shortOf
    rw [if_neg fun z => h z.2]
  · rename_i h
    refine q2 _ ?_
    unfold shortOf
    rw [if_pos ⟨hI, h⟩]
theorem divs_of {n i : Nat} (h : i ∈ divsN n) : ∃ t, n = (i + 1) * t ∧ i < n := by
  obtain ⟨h1, h2⟩ := List.mem_filter.mp h
  have hi := List.mem_range.mp h1
  have h3 : ((n : Nat) : Int) % (1 + (i : Int)) = 0 := of_decide_eq_true h2
  have h4 : n % (i + 1) = 0 := by
    have e : ((n % (i + 1) : Nat) : Int) = (n : Int) % (1 + (i : Int)) := by
      push_cast
      rw [Int.add_comm]
    omega
  exact ⟨n / (i + 1), (Nat.mul_div_cancel' (Nat.dvd_of_mod_eq_zero h4)).symm, hi⟩
def leastP (rows : List (Int × Int)) : List (Int × Int) := ((divsN rows.length).findSome? fun i => shortOf rows (i + 1) (rows.length / (i + 1))).getD rows
def F_least_parts : List D → (Rs → Prop) → Prop := fun ds P => ∃ rows : List (Int × Int), ds = [.lst (rows.map D.pr)] ∧ 0 < rows.length ∧ rows.length ≤ 10000 ∧ P (.ok (.lst ((leastP rows).map D.pr)))
theorem find_take {α β : Type} {f : α → Option β} : ∀ {l : List α} {i : Nat} {a : α} {b : β}, l[i]? = some a → (l.take i).findSome? f = none → f a = some b → l.findSome? f = some b
  | [], _, _, _, h, _, _ => by simp at h
  | x :: l, 0, a, b, h, _, hb => by
    cases h
    rw [List.findSome?_cons, hb]
  | x :: l, i + 1, a, b, h, h2, hb => by
    rw [List.take_succ_cons, List.findSome?_cons] at h2
    cases hx : f x with
    | some y => rw [hx] at h2; cases h2
    | none =>
      rw [hx] at h2
      rw [List.findSome?_cons, hx]
      exact find_take (by simpa using h) h2 hb
theorem liftP_one {rows : List (Int × Int)} : liftP rows 1 = rows := by
  unfold liftP
  simp
theorem find_some {rows : List (Int × Int)} (h : 0 < rows.length) : (divsN rows.length).findSome? (fun i => shortOf rows (i + 1) (rows.length / (i + 1))) ≠ none := fun e => by
  have h1 := List.findSome?_eq_none_iff.mp e (rows.length - 1) (List.mem_filter.mpr ⟨List.mem_range.mpr (by omega), by
    have : 1 + ((rows.length - 1 : Nat) : Int) = rows.length := by omega
    rw [this, Int.emod_self]
    rfl⟩)
  rw [show rows.length - 1 + 1 = rows.length by omega, Nat.div_self h] at h1
  have h2 : shortP rows rows.length 1 = rows := by
    unfold shortP
    rw [List.take_length]
    simp
  unfold shortOf at h1
  rw [h2, liftP_one, if_pos ⟨fun q _ => Int.emod_one _, rfl⟩] at h1
  cases h1
set_option hygiene false in
local macro_rules | `(tactic| fail "call") => `(tactic| first
  | refine DL.ew_fn (x := "value_in") ((ok_value_in T c0).mono (by decide)) hr (by first | exact tk | exact DL.takes_wf | assumption) ?_
  | refine DL.ew_fn (x := "lifted") ((ok_lifted T c0).mono (by decide)) hr (by first | exact tk | exact DL.takes_wf | assumption) ?_
  | refine DL.ew_fn (x := "divisors") ((ok_divisors T c0).mono (by decide)) hr (by first | exact tk | exact DL.takes_wf | assumption) ?_
  | refine DL.ew_fn (x := "shortened") ((ok_shortened T c0).mono (by decide)) hr (by first | exact tk | exact DL.takes_wf | assumption) ?_)
theorem sc_least_parts : FnScope ["rows", "period", "short"] ["rows"] (defScope s_least_parts) := ⟨rfl, rfl, rfl, by decide +kernel, rfl, by decide +kernel, by decide +kernel⟩
theorem ok_least_parts {P : Program} {w : World} {K : PySem.W.Frag} {mg : Str → Option Value} {base : Heap} (T : Tx K mg) (c0 : SaysM ex dfs K) : Df P w K mg base 3 "least_parts" ["rows"] (spP K [true] F_least_parts) := by
  refine df_pure (N := ["rows", "period", "short"]) (fd_least_parts c0) T.g_least_parts sc_least_parts (fun _ _ _ _ _ _ us hl => match us, hl with | [_], _ => rfl) rfl (by decide) ?_
  intro cdv A outer s H E hr po c W hO tk hN nd ds Q δ hF hS
  have hsc : ∀ N q f, (FX P w K mg base N q (defScope s_least_parts) f cdv A outer s H E).env.scope = defScope s_least_parts := fun _ _ _ => rfl
  obtain ⟨rows, rfl, h0, hl, q⟩ := hF
  obtain ⟨p0, δ1, rfl, hm0, hS1⟩ := hS.l
  obtain rfl := hS1.n
  show LW _ c W ⟨[some (.ref p0), none, none], []⟩ (fnNd Q) (_ :: _)
  fail "go"
  refine ⟨rows.length, by rw [List.length_map], by omega, ?_⟩
  fail "go"
  refine ⟨fun i s' => ∃ o1 o2 : Option D, s' = ⟨[some (.ref p0), o1, o2], []⟩ ∧ ((divsN rows.length).take i).findSome? (fun i => shortOf rows (i + 1) (rows.length / (i + 1))) = none,
    ⟨none, none, rfl, rfl⟩, fun _ _ _ => .src .lst, ?_, ?_⟩
  · rintro i d s' hd ⟨o1, o2, rfl, hI⟩
    rw [List.getElem?_map] at hd
    obtain ⟨k, ek, rfl⟩ := Option.map_eq_some_iff.mp hd
    obtain ⟨t, ht, hk⟩ := divs_of (List.mem_of_getElem? ek)
    have ht0 : 0 < t := by
      rcases Nat.eq_zero_or_pos t with e | e
      · rw [e, Nat.mul_zero] at ht
        omega
      · exact e
    have hdv : rows.length / (k + 1) = t := by
      rw [ht, Nat.mul_div_cancel_left _ (by omega)]
    fail "go"
    refine ⟨rows, k + 1, t, by rw [Int.add_comm]; rfl, ht, by omega, ht0, hl, fun hs => ?_, fun s hs => ?_⟩
    · fail "go"
      · rename_i h
        exact absurd h (by decide)
      refine ⟨_, _, rfl, ?_⟩
      rw [List.take_add_one, ek, List.findSome?_append, hI]
      show Option.or none (List.findSome? _ [k]) = none
      rw [List.findSome?_cons, hdv, hs]
      rfl
    · have e : leastP rows = s := by
        unfold leastP
        rw [find_take ek hI (by show shortOf rows (k + 1) (rows.length / (k + 1)) = some s; rw [hdv]; exact hs)]
        rfl
      rw [e] at q
      fail "go"
      · exact q
      rename_i h
      exact absurd h (by simp [DL.isNon])
  · rintro s' ⟨o1, o2, rfl, hI⟩
    rw [List.length_map, List.take_length] at hI
    exact absurd hI (find_some h0)

end L20.PL

end
section

namespace L20.PL
open PySem PySem.Spec PyProof.Rows L2 DL
set_option hygiene false in
local macro_rules | `(tactic| fail "call") => `(tactic| first
  | refine DL.ew_fn (x := "value_in") ((ok_value_in T c0).mono (by decide)) hr (by first | exact tk | exact DL.takes_wf | assumption) ?_
  | refine DL.ew_fn (x := "lifted") ((ok_lifted T c0).mono (by decide)) hr (by first | exact tk | exact DL.takes_wf | assumption) ?_
  | refine DL.ew_fn (x := "divisors") ((ok_divisors T c0).mono (by decide)) hr (by first | exact tk | exact DL.takes_wf | assumption) ?_
  | refine DL.ew_fn (x := "shortened") ((ok_shortened T c0).mono (by decide)) hr (by first | exact tk | exact DL.takes_wf | assumption) ?_
  | refine DL.ew_fn (x := "least_parts") ((ok_least_parts T c0).mono (by decide)) hr (by first | exact tk | exact DL.takes_wf | assumption) ?_)
theorem least_cases (rows : List (Int × Int)) : leastP rows = rows ∨ ∃ i t, rows.length = (i + 1) * t ∧ i < rows.length ∧ 0 < t ∧ leastP rows = shortP rows (i + 1) t ∧ liftP (shortP rows (i + 1) t) t = rows := by
  unfold leastP
  cases h : (divsN rows.length).findSome? fun i => shortOf rows (i + 1) (rows.length / (i + 1)) with
  | none => exact .inl rfl
  | some s =>
    obtain ⟨l1, a, l2, e, h1, _⟩ := List.findSome?_eq_some_iff.mp h
    have hm : a ∈ divsN rows.length := by rw [e]; simp
    obtain ⟨t, ht, hk⟩ := divs_of hm
    have ht0 : 0 < t := by
      rcases Nat.eq_zero_or_pos t with e | e
      · rw [e, Nat.mul_zero] at ht
        omega
      · exact e
    have hdv : rows.length / (a + 1) = t := by rw [ht, Nat.mul_div_cancel_left _ (by omega)]
    rw [hdv] at h1
    unfold shortOf at h1
    split at h1
    · rename_i hc
      cases h1
      exact .inr ⟨a, t, ht, hk, ht0, rfl, hc.2⟩
    · cases h1
theorem shortP_len {rows : List (Int × Int)} {p t : Nat} (h : p ≤ rows.length) : (shortP rows p t).length = p := by
  unfold shortP
  rw [List.length_map, List.length_take]
  omega
theorem least_spec {rows : List (Int × Int)} (h : 0 < rows.length) : ∃ t, 0 < t ∧ rows.length = (leastP rows).length * t ∧ 0 < (leastP rows).length ∧ liftP (leastP rows) t = rows := by
  rcases least_cases rows with e | ⟨i, t, h1, h2, h3, e, h4⟩
  · rw [e]
    exact ⟨1, by decide, by omega, h, liftP_one⟩
  · rw [e, shortP_len (by omega)]
    exact ⟨t, h3, h1, by omega, h4⟩
theorem least_val {rows : List (Int × Int)} (h : 0 < rows.length) (n : Int) : valIn (leastP rows) n = valIn rows n := by
  obtain ⟨t, h1, h2, h3, h4⟩ := least_spec h
  have := valIn_lift (t := t) h3 h1 n
  rw [h4] at this
  exact this.symm
theorem least_len {rows : List (Int × Int)} (h : 0 < rows.length) : 0 < (leastP rows).length ∧ (leastP rows).length ≤ rows.length := by
  obtain ⟨t, h1, h2, h3, h4⟩ := least_spec h
  exact ⟨h3, by rw [h2]; exact Nat.le_mul_of_pos_right _ h1⟩
theorem least_bd {rows : List (Int × Int)} (h : bd rows) : bd (leastP rows) := by
  rcases least_cases rows with e | ⟨i, t, h1, h2, h3, e, h4⟩
  · rw [e]; exact h
  · rw [e]
    intro q hq
    unfold shortP at hq
    obtain ⟨a, ha, rfl⟩ := List.mem_map.mp hq
    have hb := h a (List.mem_of_mem_take ha)
    have := ediv_bd (n := a.1) (p := t) (B := 2 ^ 200) (by omega) hb.1 hb.2.1
    exact ⟨this.1, this.2, hb.2.2⟩
abbrev plD (K : PySem.W.Frag) (rows : List (Int × Int)) : D := .ins (He.ga K "Place") [("rows", .lst (rows.map D.pr))]
def F_pinit (K : PySem.W.Frag) : Ow → List D → (Rs → Ow → Prop) → Prop := fun o ds P => ∃ (q : Addr) (l : List D), o = ⟨[], [(q, He.ga K "Place", [])]⟩ ∧ ds = [.ref q, .lst l] ∧ P (.ok .non) ⟨[], [(q, He.ga K "Place", [("rows", .lst l)])]⟩
theorem sc_Place_init : FnScope ["self", "rows"] ["self", "rows"] (defScope s_Place_init) := ⟨rfl, rfl, rfl, by decide +kernel, rfl, by decide +kernel, by decide +kernel⟩
theorem ok_Place_init {P : Program} {w : World} {K : PySem.W.Frag} {mg : Str → Option Value} {base : Heap} (T : Tx K mg) (c0 : SaysM ex dfs K) : FnA P w K mg base 1 ((fun K => He.ma K (He.ga K "Place") "__init__") K) (spG K (F_pinit K)) := by
  refine fa_gen (N := ["self", "rows"]) (fd_Place_init c0) sc_Place_init (fun _ _ _ _ _ _ us hl => match us, hl with | [_, _], _ => rfl) (by decide) ?_ ?_
  rotate_left
  intro cdv A outer s H E hr po c W ow hO tk hN nd ds Q hF
  have hsc : ∀ N q f, (FX P w K mg base N q (defScope s_Place_init) f cdv A outer s H E).env.scope = defScope s_Place_init := fun _ _ _ => rfl
  obtain ⟨q0, l, rfl, rfl, q⟩ := hF
  show LW _ c W (@S.mk [some (.ref q0), some (.lst l)] [] ⟨[(q0, He.ga K "Place", [])]⟩) (fnNdG _ Q) (_ :: _)
  fail "go"
  case refine_1 =>
    rintro o ds Q ⟨q0, l, rfl, rfl, _⟩
    rfl
  refine .mk ⟨[], [(q0, He.ga K "Place", [("rows", .lst l)])]⟩ (by fail "sub") (by fail "sub") .id q
theorem spl_no {α : Type} : ∀ l : List α, Spl l [] l
  | [] => .nil
  | _ :: l => .skip (spl_no l)
theorem made_Place {K : PySem.W.Frag} {c : Cc} {W : WX} {s : S} {Φ : D → S → Prop} {Ξ : PX} {l : List D} (h : Φ (.ins (He.ga K "Place") [("rows", .lst l)]) s) : ∀ q, q ∉ c.O0 → MetD K c W (spG K (F_pinit K)) [.ref q, .lst l] (@S.mk s.δ s.ω ⟨(q, He.ga K "Place", []) :: s.ι.l⟩)
    (fun d s2 => d = .non ∧ ∃ p C fs ι, D.ref q = .ref p ∧ p ∉ c.O0 ∧ s2.ι.l = (p, C, fs) :: ι ∧ Φ (.ins C fs) (@S.mk s2.δ s2.ω ⟨ι⟩)) Ξ := fun q nq =>
  met_g ⟨⟨[], [(q, He.ga K "Place", [])]⟩, s.ω, s.ι.l, spl_no _, .take (spl_no _), q, l, rfl, rfl, fun _ => ⟨rfl, q, _, _, _, rfl, nq, rfl, h⟩⟩
local macro_rules | `(tactic| fail "made") => `(tactic| ((((with_reducible show ∀ q, q ∉ _ → DL.MetD _ _ _ _ _ _ _ _)); refine made_Place ?_)))
def F_made (K : PySem.W.Frag) : List D → (Rs → Prop) → Prop := fun ds P => ∃ rows : List (Int × Int), ds = [.lst (rows.map D.pr)] ∧ 0 < rows.length ∧ rows.length ≤ 10000 ∧
  ((leastP rows).length ≤ 24 → P (.ok (plD K (leastP rows)))) ∧ (24 < (leastP rows).length → P (.exc (.ref (He.ga K "TooLong")) none))
set_option hygiene false in
local macro_rules | `(tactic| fail "call") => `(tactic| first
  | refine DL.ew_fn (x := "value_in") ((ok_value_in T c0).mono (by decide)) hr (by first | exact tk | exact DL.takes_wf | assumption) ?_
  | refine DL.ew_fn (x := "lifted") ((ok_lifted T c0).mono (by decide)) hr (by first | exact tk | exact DL.takes_wf | assumption) ?_
  | refine DL.ew_fn (x := "divisors") ((ok_divisors T c0).mono (by decide)) hr (by first | exact tk | exact DL.takes_wf | assumption) ?_
  | refine DL.ew_fn (x := "shortened") ((ok_shortened T c0).mono (by decide)) hr (by first | exact tk | exact DL.takes_wf | assumption) ?_
  | refine DL.ew_fn (x := "least_parts") ((ok_least_parts T c0).mono (by decide)) hr (by first | exact tk | exact DL.takes_wf | assumption) ?_
  | refine DL.ew_frzI (DL.ew_make (x := "Place") T.mk_Place ((ok_Place_init T c0).mono (by decide)) hr (by first | exact tk | exact DL.takes_wf | assumption) T.g_Place ?_))
theorem sc_made : FnScope ["rows", "short"] ["rows"] (defScope s_made) := ⟨rfl, rfl, rfl, by decide +kernel, rfl, by decide +kernel, by decide +kernel⟩
theorem ok_made {P : Program} {w : World} {K : PySem.W.Frag} {mg : Str → Option Value} {base : Heap} (T : Tx K mg) (c0 : SaysM ex dfs K) : Df P w K mg base 4 "made" ["rows"] (spP K [true] (F_made K)) := by
  refine df_pure (N := ["rows", "short"]) (fd_made c0) T.g_made sc_made (fun _ _ _ _ _ _ us hl => match us, hl with | [_], _ => rfl) rfl (by decide) ?_
  intro cdv A outer s H E hr po c W hO tk hN nd ds Q δ hF hS
  have hsc : ∀ N q f, (FX P w K mg base N q (defScope s_made) f cdv A outer s H E).env.scope = defScope s_made := fun _ _ _ => rfl
  obtain ⟨rows, rfl, h0, hl, q1, q2⟩ := hF
  obtain ⟨p0, δ1, rfl, hm0, hS1⟩ := hS.l
  obtain rfl := hS1.n
  have hll := least_len h0
  show LW _ c W ⟨[some (.ref p0), none], []⟩ (fnNd Q) (_ :: _)
  fail "go"
  refine ⟨rows, rfl, h0, hl, ?_⟩
  fail "go"
  · rename_i h
    rw [List.length_map] at h
    exact q2 (by omega)
  · rename_i h
    rw [List.length_map] at h
    exact q1 (by omega)
def F_const (K : PySem.W.Frag) : List D → (Rs → Prop) → Prop := fun ds P => ∃ v : Int, ds = [.int v] ∧ P (.ok (plD K [(0, v)]))
theorem sc_constant : FnScope ["value"] ["value"] (defScope s_constant) := ⟨rfl, rfl, rfl, by decide +kernel, rfl, by decide +kernel, by decide +kernel⟩
theorem ok_constant {P : Program} {w : World} {K : PySem.W.Frag} {mg : Str → Option Value} {base : Heap} (T : Tx K mg) (c0 : SaysM ex dfs K) : Df P w K mg base 3 "constant" ["value"] (spP K [false] (F_const K)) := by
  refine df_pure (N := ["value"]) (fd_constant c0) T.g_constant sc_constant (fun _ _ _ _ _ _ us hl => match us, hl with | [_], _ => rfl) rfl (by decide) ?_
  intro cdv A outer s H E hr po c W hO tk hN nd ds Q δ hF hS
  have hsc : ∀ N q f, (FX P w K mg base N q (defScope s_constant) f cdv A outer s H E).env.scope = defScope s_constant := fun _ _ _ => rfl
  obtain ⟨v, rfl, q⟩ := hF
  obtain ⟨δ1, rfl, hS1⟩ := hS.v
  obtain rfl := hS1.n
  show LW _ c W ⟨[some (.int v)], []⟩ (fnNd Q) (_ :: _)
  fail "go"
  exact q
def F_isint : List D → (Rs → Prop) → Prop := fun ds P => ∃ i : Int, ds = [.int i] ∧ P (.ok (.bl true))
theorem sc_is_integer : FnScope ["value"] ["value"] (defScope s_is_integer) := ⟨rfl, rfl, rfl, by decide +kernel, rfl, by decide +kernel, by decide +kernel⟩
theorem ok_is_integer {P : Program} {w : World} {K : PySem.W.Frag} {mg : Str → Option Value} {base : Heap} (T : Tx K mg) (c0 : SaysM ex dfs K) : Df P w K mg base 1 "is_integer" ["value"] (spP K [false] F_isint) := by
  refine df_pure (N := ["value"]) (fd_is_integer c0) T.g_is_integer sc_is_integer (fun _ _ _ _ _ _ us hl => match us, hl with | [_], _ => rfl) rfl (by decide) ?_
  intro cdv A outer s H E hr po c W hO tk hN nd ds Q δ hF hS
  have hsc : ∀ N q f, (FX P w K mg base N q (defScope s_is_integer) f cdv A outer s H E).env.scope = defScope s_is_integer := fun _ _ _ => rfl
  obtain ⟨i, rfl, q⟩ := hF
  obtain ⟨δ1, rfl, hS1⟩ := hS.v
  obtain rfl := hS1.n
  show LW _ c W ⟨[some (.int i)], []⟩ (fnNd Q) (_ :: _)
  fail "go"
  all_goals exact q
def F_call (K : PySem.W.Frag) : List D → (Rs → Prop) → Prop := fun ds P => ∃ (rows : List (Int × Int)) (n : Int), ds = [plD K rows, .int n] ∧ 0 < rows.length ∧ rows.length ≤ 10000 ∧ bd rows ∧ -(2 ^ 200) < n ∧ n < 2 ^ 200 ∧ P (.ok (.int (valIn rows n)))
def F_period (K : PySem.W.Frag) : List D → (Rs → Prop) → Prop := fun ds P => ∃ rows : List (Int × Int), ds = [plD K rows] ∧ P (.ok (.int rows.length))
def F_parts (K : PySem.W.Frag) : List D → (Rs → Prop) → Prop := fun ds P => ∃ rows : List (Int × Int), ds = [plD K rows] ∧ P (.own (rows.map D.pr))
end L20.PL

end
section

namespace L20.PL
open PySem PySem.Spec PyProof.Rows L2 DL
def Rep (f : Int → Int) (p : Int) : Prop := ∀ n, f (n + p + p) - f (n + p) = f (n + p) - f n
theorem val_step {X : List (Int × Int)} (h : 0 < X.length) (n : Int) : valIn X (n + X.length) = valIn X n + (X.getD (n % X.length).toNat (0, 0)).1 := by
  unfold valIn
  have e1 : (n + X.length) % (X.length : Int) = n % X.length := Int.add_emod_right _ _
  have e2 : (n + X.length) / (X.length : Int) = n / X.length + 1 := Int.add_ediv_of_dvd_right (Int.dvd_refl _) |>.trans (by rw [Int.ediv_self (by omega)])
  rw [e1, e2, Int.mul_add]
  omega
theorem val_at {X : List (Int × Int)} {r : Nat} (h : r < X.length) : X[r]? = some (valIn X ((r : Int) + X.length) - valIn X r, valIn X r) := by
  have h1 := val_step (X := X) (by omega) (r : Int)
  have e1 : (r : Int) % (X.length : Int) = r := Int.emod_eq_of_lt (by omega) (by omega)
  have e2 : (r : Int) / (X.length : Int) = 0 := Int.ediv_eq_zero_of_lt (by omega) (by omega)
  have e3 : valIn X r = (X.getD r (0, 0)).2 := by
    unfold valIn
    rw [e1, e2, Int.toNat_natCast]
    omega
  rw [e1, Int.toNat_natCast] at h1
  have e4 : valIn X ((r : Int) + X.length) - valIn X r = (X.getD r (0, 0)).1 := by omega
  rw [e4, e3, List.getD_eq_getElem?_getD, List.getElem?_eq_getElem h]
  rfl
end L20.PL

end
section

namespace L20.PL
open PySem PySem.Spec PyProof.Rows L2 DL
def flatP (G : Nat → Int × Int → Int × Int) (rows : List (Int × Int)) (d : Nat) : List (Int × Int) := (List.range d).flatMap fun m => rows.map (G m)
def floorP (rows : List (Int × Int)) (d : Nat) : List (Int × Int) := flatP (fun m q => (q.1, (q.1 * (m : Int) + q.2) / (d : Int))) rows d
def restP (rows : List (Int × Int)) (d : Nat) : List (Int × Int) := flatP (fun m q => (0, (q.1 * (m : Int) + q.2) % (d : Int))) rows d
def mulP (rows : List (Int × Int)) (f : Int) : List (Int × Int) := rows.map fun q => (q.1 * f, q.2 * f)
def zipP (A B : List (Int × Int)) (sg : Int) : List (Int × Int) := List.zipWith (fun p q => (p.1 + sg * q.1, p.2 + sg * q.2)) A B
theorem zip_len {A B : List (Int × Int)} {sg : Int} (h : A.length = B.length) : (zipP A B sg).length = A.length := by
  unfold zipP
  rw [List.length_zipWith]
  omega
abbrev lcmP (A B : List (Int × Int)) : Nat := Nat.lcm A.length B.length
def addP (A B : List (Int × Int)) (sg : Int) : List (Int × Int) := zipP (liftP A (lcmP A B / A.length)) (liftP B (lcmP A B / B.length)) sg
theorem lcm_l {A B : List (Int × Int)} : A.length * (lcmP A B / A.length) = lcmP A B := Nat.mul_div_cancel' (Nat.dvd_lcm_left _ _)
theorem lcm_r {A B : List (Int × Int)} : B.length * (lcmP A B / B.length) = lcmP A B := Nat.mul_div_cancel' (Nat.dvd_lcm_right _ _)
theorem lift_len {A : List (Int × Int)} {t : Nat} : (liftP A t).length = A.length * t := liftP_len
theorem lcm_pos {A B : List (Int × Int)} (h1 : 0 < A.length) (h2 : 0 < B.length) : 0 < lcmP A B := Nat.lcm_pos h1 h2
theorem lift_eqs {A B : List (Int × Int)} : (liftP A (lcmP A B / A.length)).length = (liftP B (lcmP A B / B.length)).length := by rw [lift_len, lift_len, lcm_l, lcm_r]
theorem add_len {A B : List (Int × Int)} {sg : Int} : (addP A B sg).length = lcmP A B := by
  unfold addP
  rw [zip_len lift_eqs, lift_len, lcm_l]
end L20.PL

end
section

namespace L20.PL
open PySem PySem.Spec PyProof.Rows L2 DL
set_option hygiene false in
local macro_rules | `(tactic| fail "call") => `(tactic| first
  | refine DL.ew_fn (x := "value_in") ((ok_value_in T c0).mono (by decide)) hr (by first | exact tk | exact DL.takes_wf | assumption) ?_
  | refine DL.ew_fn (x := "lifted") ((ok_lifted T c0).mono (by decide)) hr (by first | exact tk | exact DL.takes_wf | assumption) ?_
  | refine DL.ew_fn (x := "divisors") ((ok_divisors T c0).mono (by decide)) hr (by first | exact tk | exact DL.takes_wf | assumption) ?_
  | refine DL.ew_fn (x := "shortened") ((ok_shortened T c0).mono (by decide)) hr (by first | exact tk | exact DL.takes_wf | assumption) ?_
  | refine DL.ew_fn (x := "least_parts") ((ok_least_parts T c0).mono (by decide)) hr (by first | exact tk | exact DL.takes_wf | assumption) ?_
  | refine DL.ew_frzI (DL.ew_make (x := "Place") T.mk_Place ((ok_Place_init T c0).mono (by decide)) hr (by first | exact tk | exact DL.takes_wf | assumption) T.g_Place ?_)
  | refine DL.ew_fn (x := "made") ((ok_made T c0).mono (by decide)) hr (by first | exact tk | exact DL.takes_wf | assumption) ?_
  | refine DL.ew_fn (x := "is_integer") ((ok_is_integer T c0).mono (by decide)) hr (by first | exact tk | exact DL.takes_wf | assumption) ?_
  | refine DL.ew_fn (x := "constant") ((ok_constant T c0).mono (by decide)) hr (by first | exact tk | exact DL.takes_wf | assumption) ?_)
def F_lcm : List D → (Rs → Prop) → Prop := fun ds P => ∃ a b : Nat, ds = [.int (a : Int), .int (b : Int)] ∧ 0 < a ∧ 0 < b ∧ a ≤ 10000 ∧ b ≤ 10000 ∧ P (.ok (.int ((Nat.lcm a b : Nat) : Int)))
theorem sc_common_multiple : FnScope ["one", "other", "a", "b"] ["one", "other"] (defScope s_common_multiple) := ⟨rfl, rfl, rfl, by decide +kernel, rfl, by decide +kernel, by decide +kernel⟩
theorem ok_common_multiple {P : Program} {w : World} {K : PySem.W.Frag} {mg : Str → Option Value} {base : Heap} (T : Tx K mg) (c0 : SaysM ex dfs K) : Df P w K mg base 1 "common_multiple" ["one", "other"] (spP K [false,false] F_lcm) := by
  refine df_pure (N := ["one", "other", "a", "b"]) (fd_common_multiple c0) T.g_common_multiple sc_common_multiple (fun _ _ _ _ _ _ us hl => match us, hl with | [_, _], _ => rfl) rfl (by decide) ?_
  intro cdv A outer s H E hr po c W hO tk hN nd ds Q δ hF hS
  have hsc : ∀ N q f, (FX P w K mg base N q (defScope s_common_multiple) f cdv A outer s H E).env.scope = defScope s_common_multiple := fun _ _ _ => rfl
  obtain ⟨m0, k0, rfl, ha, hb, hal, hbl, q⟩ := hF
  obtain ⟨δ1, rfl, hS1⟩ := hS.v
  obtain ⟨δ2, rfl, hS2⟩ := hS1.v
  obtain rfl := hS2.n
  show LW _ c W ⟨[some (.int (m0 : Int)), some (.int (k0 : Int)), none, none], []⟩ (fnNd Q) (_ :: _)
  fail "go"
  refine sw_while po (fun m s' => ∃ x y : Nat, s' = ⟨[some (.int (m0 : Int)), some (.int (k0 : Int)), some (.int (x : Int)), some (.int (y : Int))], []⟩ ∧ y = m ∧ 0 < x ∧ x ≤ 10000 ∧ y ≤ 10000 ∧ Nat.gcd x y = Nat.gcd m0 k0) k0 ⟨m0, k0, rfl, rfl, ha, hal, hbl, rfl⟩ ?_
  rintro m s' ⟨x, y, rfl, rfl, hx, hxl, hyl, hg⟩
  fail "go"
  · rename_i h
    have hy : 0 < y := by omega
    have hm := Nat.mod_lt x hy
    refine ⟨x % y, hm, y, x % y, rfl, rfl, hy, hyl, by omega, ?_⟩
    rw [← hg, Nat.gcd_comm x y, Nat.gcd_rec y x, Nat.gcd_comm]
  · rename_i h
    have hy : y = 0 := by omega
    subst hy
    rw [Nat.gcd_zero_right] at hg
    have e : (m0 : Int) / (x : Int) * (k0 : Int) = ((Nat.lcm m0 k0 : Nat) : Int) := by
      rw [Nat.lcm, ← hg, ← Nat.div_mul_right_comm (by rw [hg]; exact Nat.gcd_dvd_left _ _)]
      push_cast
      rfl
    rw [e]
    exact q
def asR (K : PySem.W.Frag) (d : D) (rows : List (Int × Int)) : Prop := d = plD K rows ∨ ∃ v : Int, d = .int v ∧ rows = [(0, v)]
def F_asp (K : PySem.W.Frag) : List D → (Rs → Prop) → Prop := fun ds P => ∃ (d : D) (rows : List (Int × Int)), ds = [d] ∧ asR K d rows ∧ P (.ok (plD K rows))
theorem sc_as_place : FnScope ["value"] ["value"] (defScope s_as_place) := ⟨rfl, rfl, rfl, by decide +kernel, rfl, by decide +kernel, by decide +kernel⟩
theorem ok_as_place {P : Program} {w : World} {K : PySem.W.Frag} {mg : Str → Option Value} {base : Heap} (T : Tx K mg) (c0 : SaysM ex dfs K) : Df P w K mg base 4 "as_place" ["value"] (spP K [false] (F_asp K)) := by
  refine df_pure (N := ["value"]) (fd_as_place c0) T.g_as_place sc_as_place (fun _ _ _ _ _ _ us hl => match us, hl with | [_], _ => rfl) rfl (by decide) ?_
  intro cdv A outer s H E hr po c W hO tk hN nd ds Q δ hF hS
  have hsc : ∀ N q f, (FX P w K mg base N q (defScope s_as_place) f cdv A outer s H E).env.scope = defScope s_as_place := fun _ _ _ => rfl
  obtain ⟨d, rows, rfl, hd, q⟩ := hF
  obtain ⟨δ1, rfl, hS1⟩ := hS.v
  obtain rfl := hS1.n
  show LW _ c W ⟨[some d], []⟩ (fnNd Q) (_ :: _)
  rcases hd with rfl | ⟨v, rfl, rfl⟩
  · fail "go"
    exact q
  · fail "go"
    refine ⟨v, rfl, ?_⟩
    fail "go"
    exact q
def F_isdiv : List D → (Rs → Prop) → Prop := fun ds P => ∃ d : Nat, ds = [.int (d : Int)] ∧ 0 < d ∧ d ≤ 4 ∧ P (.ok (.bl true))
theorem sc_is_divisor : FnScope ["value"] ["value"] (defScope s_is_divisor) := ⟨rfl, rfl, rfl, by decide +kernel, rfl, by decide +kernel, by decide +kernel⟩
theorem ok_is_divisor {P : Program} {w : World} {K : PySem.W.Frag} {mg : Str → Option Value} {base : Heap} (T : Tx K mg) (c0 : SaysM ex dfs K) : Df P w K mg base 2 "is_divisor" ["value"] (spP K [false] F_isdiv) := by
  refine df_pure (N := ["value"]) (fd_is_divisor c0) T.g_is_divisor sc_is_divisor (fun _ _ _ _ _ _ us hl => match us, hl with | [_], _ => rfl) rfl (by decide) ?_
  intro cdv A outer s H E hr po c W hO tk hN nd ds Q δ hF hS
  have hsc : ∀ N q f, (FX P w K mg base N q (defScope s_is_divisor) f cdv A outer s H E).env.scope = defScope s_is_divisor := fun _ _ _ => rfl
  obtain ⟨d, rfl, h0, h4, q⟩ := hF
  obtain ⟨δ1, rfl, hS1⟩ := hS.v
  obtain rfl := hS1.n
  show LW _ c W ⟨[some (.int (d : Int))], []⟩ (fnNd Q) (_ :: _)
  fail "go"
  refine ⟨_, rfl, ?_⟩
  fail "go"
  refine ⟨1, _, rfl, rfl, fun _ => ?_, fun h => absurd h (by simp only [decide_eq_false_iff_not]; omega)⟩
  fail "go"
  rw [show decide ((d : Int) ≤ 4) = true from decide_eq_true (by omega)]
  exact q
def F_added : List D → (Rs → Prop) → Prop := fun ds P => ∃ (A B : List (Int × Int)) (sg : Int), ds = [.lst (A.map D.pr), .lst (B.map D.pr), .int sg] ∧ 0 < A.length ∧ 0 < B.length ∧ A.length ≤ 100 ∧ B.length ≤ 100 ∧ -10 < sg ∧ sg < 10 ∧ P (.ok (.lst ((addP A B sg).map D.pr)))
set_option hygiene false in
local macro_rules | `(tactic| fail "call") => `(tactic| first
  | refine DL.ew_fn (x := "value_in") ((ok_value_in T c0).mono (by decide)) hr (by first | exact tk | exact DL.takes_wf | assumption) ?_
  | refine DL.ew_fn (x := "lifted") ((ok_lifted T c0).mono (by decide)) hr (by first | exact tk | exact DL.takes_wf | assumption) ?_
  | refine DL.ew_fn (x := "divisors") ((ok_divisors T c0).mono (by decide)) hr (by first | exact tk | exact DL.takes_wf | assumption) ?_
  | refine DL.ew_fn (x := "shortened") ((ok_shortened T c0).mono (by decide)) hr (by first | exact tk | exact DL.takes_wf | assumption) ?_
  | refine DL.ew_fn (x := "least_parts") ((ok_least_parts T c0).mono (by decide)) hr (by first | exact tk | exact DL.takes_wf | assumption) ?_
  | refine DL.ew_frzI (DL.ew_make (x := "Place") T.mk_Place ((ok_Place_init T c0).mono (by decide)) hr (by first | exact tk | exact DL.takes_wf | assumption) T.g_Place ?_)
  | refine DL.ew_fn (x := "made") ((ok_made T c0).mono (by decide)) hr (by first | exact tk | exact DL.takes_wf | assumption) ?_
  | refine DL.ew_fn (x := "is_integer") ((ok_is_integer T c0).mono (by decide)) hr (by first | exact tk | exact DL.takes_wf | assumption) ?_
  | refine DL.ew_fn (x := "constant") ((ok_constant T c0).mono (by decide)) hr (by first | exact tk | exact DL.takes_wf | assumption) ?_
  | refine DL.ew_fn (x := "common_multiple") ((ok_common_multiple T c0).mono (by decide)) hr (by first | exact tk | exact DL.takes_wf | assumption) ?_
  | refine DL.ew_fn (x := "as_place") ((ok_as_place T c0).mono (by decide)) hr (by first | exact tk | exact DL.takes_wf | assumption) ?_
  | refine DL.ew_fn (x := "is_divisor") ((ok_is_divisor T c0).mono (by decide)) hr (by first | exact tk | exact DL.takes_wf | assumption) ?_)
theorem sc_added : FnScope ["rows", "others", "sign", "period", "a", "b", "c", "d"] ["rows", "others", "sign"] (defScope s_added) := ⟨rfl, rfl, rfl, by decide +kernel, rfl, by decide +kernel, by decide +kernel⟩
theorem ok_added {P : Program} {w : World} {K : PySem.W.Frag} {mg : Str → Option Value} {base : Heap} (T : Tx K mg) (c0 : SaysM ex dfs K) : Df P w K mg base 2 "added" ["rows", "others", "sign"] (spP K [false,false,false] F_added) := by
  refine df_pure (N := ["rows", "others", "sign", "period", "a", "b", "c", "d"]) (fd_added c0) T.g_added sc_added (fun _ _ _ _ _ _ us hl => match us, hl with | [_, _, _], _ => rfl) rfl (by decide) ?_
  intro cdv A outer s H E hr po c W hO tk hN nd ds Q δ hF hS
  have hsc : ∀ N q f, (FX P w K mg base N q (defScope s_added) f cdv A outer s H E).env.scope = defScope s_added := fun _ _ _ => rfl
  obtain ⟨A, B, sg, rfl, hA, hB, hAl, hBl, hs0, hs1, q⟩ := hF
  obtain ⟨δ1, rfl, hS1⟩ := hS.v
  obtain ⟨δ2, rfl, hS2⟩ := hS1.v
  obtain ⟨δ3, rfl, hS3⟩ := hS2.v
  obtain rfl := hS3.n
  show LW _ c W ⟨[some (.lst (A.map D.pr)), some (.lst (B.map D.pr)), some (.int sg), none, none, none, none, none], []⟩ (fnNd Q) (_ :: _)
  have hlp := lcm_pos hA hB
  have hlm : lcmP A B ≤ 10000 := by
    have h1 : lcmP A B ∣ A.length * B.length := Nat.lcm_dvd (Nat.dvd_mul_right _ _) (Nat.dvd_mul_left _ _)
    have h2 := Nat.le_of_dvd (Nat.mul_pos hA hB) h1
    have h3 : A.length * B.length ≤ 100 * 100 := Nat.mul_le_mul hAl hBl
    omega
  fail "go"
  refine ⟨A.length, B.length, by rw [List.length_map, List.length_map], hA, hB, by omega, by omega, ?_⟩
  fail "go"
  refine ⟨A, lcmP A B / A.length, by rw [lcm_l], hA, by omega, by rw [lcm_l]; omega, ?_⟩
  fail "go"
  refine ⟨B, lcmP A B / B.length, by rw [lcm_r], hB, by omega, by rw [lcm_r]; omega, ?_⟩
  fail "go"
  have hz : List.map (fun z : D × D => D.tup [z.1, z.2]) ((List.map D.pr (liftP A (lcmP A B / A.length))).zip (List.map D.pr (liftP B (lcmP A B / B.length)))) = ((liftP A (lcmP A B / A.length)).zip (liftP B (lcmP A B / B.length))).map fun z => D.tup [D.pr z.1, D.pr z.2] := by
    rw [List.zip_map, List.map_map]
    rfl
  rw [hz]
  have hzl : ((liftP A (lcmP A B / A.length)).zip (liftP B (lcmP A B / B.length))).length = lcmP A B := by
    rw [List.length_zip, lift_len, lift_len, lcm_l, lcm_r]
    omega
  refine lc_res ((addP A B sg).map D.pr) (by rw [List.length_map, List.length_map, add_len, hzl]) (by rw [List.length_map, add_len]; omega) (fun _ _ _ => ⟨.src .lst, .src .lst⟩) (fun h m => gpp_mono h m) (fun i d t hd hi np => ?_) ?_
  · rw [List.getElem?_map] at hd
    obtain ⟨a, ea, rfl⟩ := Option.map_eq_some_iff.mp hd
    obtain ⟨e1, e2⟩ := List.getElem?_zip_eq_some.mp ea
    fail "go"
    refine ⟨?_, rfl⟩
    rw [List.getElem?_map]
    unfold addP zipP
    rw [List.getElem?_zipWith, e1, e2]
    rfl
  fail "go"
  exact q
def madeOut (K : PySem.W.Frag) (R : List (Int × Int)) (P : Rs → Prop) : Prop := ((leastP R).length ≤ 24 → P (.ok (plD K (leastP R)))) ∧ (24 < (leastP R).length → P (.exc (.ref (He.ga K "TooLong")) none))
set_option hygiene false in
local macro_rules | `(tactic| fail "call") => `(tactic| first
  | refine DL.ew_fn (x := "value_in") ((ok_value_in T c0).mono (by decide)) hr (by first | exact tk | exact DL.takes_wf | assumption) ?_
  | refine DL.ew_fn (x := "lifted") ((ok_lifted T c0).mono (by decide)) hr (by first | exact tk | exact DL.takes_wf | assumption) ?_
  | refine DL.ew_fn (x := "divisors") ((ok_divisors T c0).mono (by decide)) hr (by first | exact tk | exact DL.takes_wf | assumption) ?_
  | refine DL.ew_fn (x := "shortened") ((ok_shortened T c0).mono (by decide)) hr (by first | exact tk | exact DL.takes_wf | assumption) ?_
  | refine DL.ew_fn (x := "least_parts") ((ok_least_parts T c0).mono (by decide)) hr (by first | exact tk | exact DL.takes_wf | assumption) ?_
  | refine DL.ew_frzI (DL.ew_make (x := "Place") T.mk_Place ((ok_Place_init T c0).mono (by decide)) hr (by first | exact tk | exact DL.takes_wf | assumption) T.g_Place ?_)
  | refine DL.ew_fn (x := "made") ((ok_made T c0).mono (by decide)) hr (by first | exact tk | exact DL.takes_wf | assumption) ?_
  | refine DL.ew_fn (x := "is_integer") ((ok_is_integer T c0).mono (by decide)) hr (by first | exact tk | exact DL.takes_wf | assumption) ?_
  | refine DL.ew_fn (x := "constant") ((ok_constant T c0).mono (by decide)) hr (by first | exact tk | exact DL.takes_wf | assumption) ?_
  | refine DL.ew_fn (x := "common_multiple") ((ok_common_multiple T c0).mono (by decide)) hr (by first | exact tk | exact DL.takes_wf | assumption) ?_
  | refine DL.ew_fn (x := "as_place") ((ok_as_place T c0).mono (by decide)) hr (by first | exact tk | exact DL.takes_wf | assumption) ?_
  | refine DL.ew_fn (x := "is_divisor") ((ok_is_divisor T c0).mono (by decide)) hr (by first | exact tk | exact DL.takes_wf | assumption) ?_
  | refine DL.ew_fn (x := "added") ((ok_added T c0).mono (by decide)) hr (by first | exact tk | exact DL.takes_wf | assumption) ?_)
def F_padd (K : PySem.W.Frag) : List D → (Rs → Prop) → Prop := fun ds P => ∃ (A B : List (Int × Int)) (d : D), ds = [plD K A, d] ∧ asR K d B ∧ 0 < A.length ∧ 0 < B.length ∧ A.length ≤ 100 ∧ B.length ≤ 100 ∧ madeOut K (addP A B 1) P
def F_pmul (K : PySem.W.Frag) : List D → (Rs → Prop) → Prop := fun ds P => ∃ (A : List (Int × Int)) (f : Int), ds = [plD K A, .int f] ∧ 0 < A.length ∧ A.length ≤ 100 ∧ bd A ∧ -(2 ^ 200) < f ∧ f < 2 ^ 200 ∧ madeOut K (mulP A f) P
def F_pfl (K : PySem.W.Frag) : List D → (Rs → Prop) → Prop := fun ds P => ∃ (A : List (Int × Int)) (d : Nat), ds = [plD K A, .int (d : Int)] ∧ 0 < d ∧ d ≤ 4 ∧ 0 < A.length ∧ A.length ≤ 100 ∧ bd A ∧ madeOut K (floorP A d) P
def F_prest (K : PySem.W.Frag) : List D → (Rs → Prop) → Prop := fun ds P => ∃ (A : List (Int × Int)) (d : Nat), ds = [plD K A, .int (d : Int)] ∧ 0 < d ∧ d ≤ 4 ∧ 0 < A.length ∧ A.length ≤ 100 ∧ bd A ∧ madeOut K (restP A d) P
def F_peq (K : PySem.W.Frag) : List D → (Rs → Prop) → Prop := fun ds P => ∃ A B : List (Int × Int), ds = [plD K A, plD K B] ∧ A.length ≤ 1000 ∧ B.length ≤ 1000 ∧ P (.ok (.bl (decide (A = B))))
end L20.PL

end
section

namespace L20.PL
open PySem PySem.Spec PyProof.Rows L2 DL
set_option hygiene false in
local macro_rules | `(tactic| fail "call") => `(tactic| first
  | refine DL.ew_fn (x := "value_in") ((ok_value_in T c0).mono (by decide)) hr (by first | exact tk | exact DL.takes_wf | assumption) ?_
  | refine DL.ew_fn (x := "lifted") ((ok_lifted T c0).mono (by decide)) hr (by first | exact tk | exact DL.takes_wf | assumption) ?_
  | refine DL.ew_fn (x := "divisors") ((ok_divisors T c0).mono (by decide)) hr (by first | exact tk | exact DL.takes_wf | assumption) ?_
  | refine DL.ew_fn (x := "shortened") ((ok_shortened T c0).mono (by decide)) hr (by first | exact tk | exact DL.takes_wf | assumption) ?_
  | refine DL.ew_fn (x := "least_parts") ((ok_least_parts T c0).mono (by decide)) hr (by first | exact tk | exact DL.takes_wf | assumption) ?_
  | refine DL.ew_frzI (DL.ew_make (x := "Place") T.mk_Place ((ok_Place_init T c0).mono (by decide)) hr (by first | exact tk | exact DL.takes_wf | assumption) T.g_Place ?_)
  | refine DL.ew_fn (x := "made") ((ok_made T c0).mono (by decide)) hr (by first | exact tk | exact DL.takes_wf | assumption) ?_
  | refine DL.ew_fn (x := "is_integer") ((ok_is_integer T c0).mono (by decide)) hr (by first | exact tk | exact DL.takes_wf | assumption) ?_)
def F_place_of (K : PySem.W.Frag) : List D → (Rs → Prop) → Prop := fun ds P => ∃ rows : List (Int × Int), ds = [.lst (rows.map D.pr)] ∧ 0 < rows.length ∧ rows.length ≤ 24 ∧ P (.ok (plD K (leastP rows)))
theorem sc_place_of : FnScope ["parts", "part"] ["parts"] (defScope s_place_of) := ⟨rfl, rfl, rfl, by decide +kernel, rfl, by decide +kernel, by decide +kernel⟩
theorem ok_place_of {P : Program} {w : World} {K : PySem.W.Frag} {mg : Str → Option Value} {base : Heap} (T : Tx K mg) (c0 : SaysM ex dfs K) : Df P w K mg base 5 "place_of" ["parts"] (spP K [true] (F_place_of K)) := by
  refine df_pure (N := ["parts", "part"]) (fd_place_of c0) T.g_place_of sc_place_of (fun _ _ _ _ _ _ us hl => match us, hl with | [_], _ => rfl) rfl (by decide) ?_
  intro cdv A outer s H E hr po c W hO tk hN nd ds Q δ hF hS
  have hsc : ∀ N q f, (FX P w K mg base N q (defScope s_place_of) f cdv A outer s H E).env.scope = defScope s_place_of := fun _ _ _ => rfl
  obtain ⟨rows, rfl, h0, hl, q⟩ := hF
  obtain ⟨p0, δ1, rfl, hm0, hS1⟩ := hS.l
  obtain rfl := hS1.n
  have hll := least_len h0
  show LW _ c W ⟨[some (.ref p0), none], []⟩ (fnNd Q) (_ :: _)
  fail "go"
  refine ⟨1, _, rfl, rfl, fun _ => ?_, fun h => absurd h (by simp only [List.length_map, decide_eq_false_iff_not]; omega)⟩
  fail "go"
  · rename_i h
    exact absurd h (by simp only [List.length_map]; omega)
  refine ⟨fun i s' => ∃ o1 : Option D, s' = ⟨[some (.ref p0), o1], []⟩, ⟨none, rfl⟩, fun _ _ _ => .src (.ro hm0), ?_, ?_⟩
  · rintro i d s' hd ⟨o1, rfl⟩
    rw [List.getElem?_map] at hd
    obtain ⟨a, ea, rfl⟩ := Option.map_eq_some_iff.mp hd
    fail "go"
    · rename_i h
      exact absurd rfl h
    refine ⟨a.1, rfl, ?_⟩
    fail "go"
    refine ⟨a.2, rfl, ?_⟩
    fail "go"
    exact ⟨_, rfl⟩
  · rintro s' ⟨o1, rfl⟩
    fail "go"
    refine ⟨rows, rfl, h0, by omega, fun _ => ?_, fun h => by omega⟩
    fail "go"
    exact q

end L20.PL

end
section

namespace L20.PL
open PySem PySem.Spec PyProof.Rows L2 DL
structure Lt where
  u : List (Int × Int)
  s : Int
  g : List (Int × Int)
  p : Int
  m : List (Int × Int)
abbrev lotD (K : PySem.W.Frag) (l : Lt) : D := .ins (He.ga K "Lot") [("upper", plD K l.u), ("stride", .int l.s), ("lower", plD K l.g), ("lean", .int l.p), ("many", plD K l.m)]
def Sp (l : Lt) : Prop := (l.s = 1 ∨ l.s = 2) ∧ (l.p = 1 ∨ l.p = 2 ∨ l.p = -1 ∨ l.p = -2)
structure Per (l : Lt) (P : Nat) : Prop where
  u0 : 0 < l.u.length
  g0 : 0 < l.g.length
  m0 : 0 < l.m.length
  u : l.u.length ∣ P
  g : l.g.length ∣ P
  m : l.m.length ∣ P
def F_lsum : List D → (Rs → Prop) → Prop := fun ds P => ∃ (a b e d f : Int), ds = [.tup [.int a, .int b], .tup [.int e, .int d], .int f] ∧ -100 < f ∧ f < 100 ∧ P (.ok (.tup [.int (a + f * e), .int (b + f * d)]))
theorem sc_line_sum : FnScope ["line", "other", "factor"] ["line", "other", "factor"] (defScope s_line_sum) := ⟨rfl, rfl, rfl, by decide +kernel, rfl, by decide +kernel, by decide +kernel⟩
theorem ok_line_sum {P : Program} {w : World} {K : PySem.W.Frag} {mg : Str → Option Value} {base : Heap} (T : Tx K mg) (c0 : SaysM ex dfs K) : Df P w K mg base 1 "line_sum" ["line", "other", "factor"] (spP K [false,false,false] F_lsum) := by
  refine df_pure (N := ["line", "other", "factor"]) (fd_line_sum c0) T.g_line_sum sc_line_sum (fun _ _ _ _ _ _ us hl => match us, hl with | [_, _, _], _ => rfl) rfl (by decide) ?_
  intro cdv A outer s H E hr po c W hO tk hN nd ds Q δ hF hS
  have hsc : ∀ N q f, (FX P w K mg base N q (defScope s_line_sum) f cdv A outer s H E).env.scope = defScope s_line_sum := fun _ _ _ => rfl
  obtain ⟨a, b, e, d, f, rfl, hf0, hf1, q⟩ := hF
  obtain ⟨δ1, rfl, hS1⟩ := hS.v
  obtain ⟨δ2, rfl, hS2⟩ := hS1.v
  obtain ⟨δ3, rfl, hS3⟩ := hS2.v
  obtain rfl := hS3.n
  show LW _ c W ⟨[some (.tup [.int a, .int b]), some (.tup [.int e, .int d]), some (.int f)], []⟩ (fnNd Q) (_ :: _)
  fail "go"
  exact q
abbrev linD (l : Lt) (P : Nat) : List D := zip3D ((liftP l.u (P / l.u.length)).map D.pr) ((liftP l.g (P / l.g.length)).map D.pr) ((liftP l.m (P / l.m.length)).map D.pr)
theorem liftD_len {l : List (Int × Int)} {P : Nat} (h : l.length ∣ P) : (liftP l (P / l.length)).length = P := by
  unfold liftP
  rw [liftP_len, Nat.mul_div_cancel' h]
set_option hygiene false in
local macro_rules | `(tactic| fail "call") => `(tactic| first
  | refine DL.ew_fn (x := "lifted") ((ok_lifted T c0).mono (by decide)) hr (by first | exact tk | exact DL.takes_wf | assumption) ?_)
set_option hygiene false in
local macro_rules | `(tactic| fail "e") => `(tactic| ((with_reducible show DL.EW _ _ _ _ _ _ (.Call (.Name "list" _) [.Call (.Name "zip" _) [_, _, _] [] _] [] _)); refine DL.ew_frz (DL.ew_listZ3 rfl T.f_list T.f_zip ?_)))
local macro_rules | `(tactic| fail "x") => `(tactic| ((with_reducible show DL.LzR _ _ _ _ _ _); (with_reducible apply DL.LzR.mk ?ha ?hb ?hd ?he ?hf ?kk); (case ha => fail "sl"); (case hb => fail "sl"); (case hd => fail "sl")))
def F_lines (K : PySem.W.Frag) : List D → (Rs → Prop) → Prop := fun ds P => ∃ (l : Lt) (Q : Nat), ds = [lotD K l, .int (Q : Int)] ∧ Per l Q ∧ 0 < Q ∧ Q ≤ 5000 ∧ P (.ok (.lst (linD l Q)))
theorem sc_lines_of : FnScope ["lot", "period", "starts", "goals"] ["lot", "period"] (defScope s_lines_of) := ⟨rfl, rfl, rfl, by decide +kernel, rfl, by decide +kernel, by decide +kernel⟩
theorem ok_lines_of {P : Program} {w : World} {K : PySem.W.Frag} {mg : Str → Option Value} {base : Heap} (T : Tx K mg) (c0 : SaysM ex dfs K) : Df P w K mg base 2 "lines_of" ["lot", "period"] (spP K [false,false] (F_lines K)) := by
  refine df_pure (N := ["lot", "period", "starts", "goals"]) (fd_lines_of c0) T.g_lines_of sc_lines_of (fun _ _ _ _ _ _ us hl => match us, hl with | [_, _], _ => rfl) rfl (by decide) ?_
  intro cdv A outer s H E hr po c W hO tk hN nd ds Q δ hF hS
  have hsc : ∀ N q f, (FX P w K mg base N q (defScope s_lines_of) f cdv A outer s H E).env.scope = defScope s_lines_of := fun _ _ _ => rfl
  obtain ⟨l, P0, rfl, hP, h0, h1, q⟩ := hF
  obtain ⟨δ1, rfl, hS1⟩ := hS.v
  obtain ⟨δ2, rfl, hS2⟩ := hS1.v
  obtain rfl := hS2.n
  show LW _ c W ⟨[some (lotD K l), some (.int (P0 : Int)), none, none], []⟩ (fnNd Q) (_ :: _)
  have lu := Nat.mul_div_cancel' hP.u
  have lg := Nat.mul_div_cancel' hP.g
  have lm := Nat.mul_div_cancel' hP.m
  have ku := Nat.le_of_dvd h0 hP.u
  have kg := Nat.le_of_dvd h0 hP.g
  have km := Nat.le_of_dvd h0 hP.m
  fail "go"
  refine ⟨l.u, P0 / l.u.length, by rw [lu], hP.u0, by omega, by omega, ?_⟩
  fail "go"
  refine ⟨l.g, P0 / l.g.length, by rw [lg], hP.g0, by omega, by omega, ?_⟩
  fail "go"
  refine ⟨l.m, P0 / l.m.length, by rw [lm], hP.m0, by omega, by omega, ?_⟩
  fail "go"
  case he => rw [List.length_map, List.length_map, liftD_len hP.g, liftD_len hP.u]
  case hf => rw [List.length_map, List.length_map, liftD_len hP.m, liftD_len hP.u]
  fail "go"
  exact q

end L20.PL

end
section

namespace L20.PL
open PySem PySem.Spec PyProof.Rows L2 DL
def optI : Option Int → D
  | none => .non
  | some n => .int n
def mxI (a b : Int) : Int := if b > a then b else a
def mnI (a b : Int) : Int := if b < a then b else a
def hiS (h : Option Int) (x : Int) : Option Int := some (match h with
  | none => x
  | some h => mnI h x)
def fkS : List (Int × Int) → Int → Option Int → Option (Int × Option Int)
  | [], lo, hi => some (lo, hi)
  | q :: l, lo, hi => if 0 < q.1 then fkS l (mxI lo (-(q.2 / q.1))) hi else if q.1 < 0 then fkS l lo (hiS hi (q.2 / -q.1)) else if q.2 < 0 then none else fkS l lo hi
def fkE : Int × Option Int → Option Int
  | (lo, none) => some lo
  | (lo, some h) => if lo ≤ h then some lo else none
def fk (l : List (Int × Int)) (lo : Int) : Option Int := (fkS l lo none).bind fkE
theorem fkS_app : ∀ (l m : List (Int × Int)) (lo : Int) (hi : Option Int), fkS (l ++ m) lo hi = (fkS l lo hi).bind fun z => fkS m z.1 z.2
  | [], m, lo, hi => rfl
  | q :: l, m, lo, hi => by
    show (if 0 < q.1 then fkS (l ++ m) (mxI lo (-(q.2 / q.1))) hi else if q.1 < 0 then fkS (l ++ m) lo (hiS hi (q.2 / -q.1)) else if q.2 < 0 then none else fkS (l ++ m) lo hi) = Option.bind (if 0 < q.1 then fkS l (mxI lo (-(q.2 / q.1))) hi else if q.1 < 0 then fkS l lo (hiS hi (q.2 / -q.1)) else if q.2 < 0 then none else fkS l lo hi) _
    split
    · exact fkS_app l m _ _
    · split
      · exact fkS_app l m _ _
      · split
        · rfl
        · exact fkS_app l m _ _
def hiC : Option Int → Int → Prop
  | none, _ => True
  | some h, j => j ≤ h
def allN (l : List (Int × Int)) (j : Int) : Prop := ∀ q ∈ l, 0 ≤ q.1 * j + q.2
theorem pos_ix {a b j : Int} (ha : 0 < a) : 0 ≤ a * j + b ↔ -(b / a) ≤ j := by
  have h := Int.le_ediv_iff_mul_le (a := -j) (b := b) (c := a) ha
  rw [Int.neg_mul, Int.mul_comm] at h
  omega
theorem neg_ix {a b j : Int} (ha : a < 0) : 0 ≤ a * j + b ↔ j ≤ b / -a := by
  have h := Int.le_ediv_iff_mul_le (a := j) (b := b) (c := -a) (by omega)
  rw [Int.mul_neg, Int.mul_comm] at h
  omega
theorem hiC_S {h : Option Int} {x j : Int} : hiC (hiS h x) j ↔ hiC h j ∧ j ≤ x := by
  cases h with
  | none => exact ⟨fun h => ⟨trivial, h⟩, fun h => h.2⟩
  | some h =>
    show j ≤ mnI h x ↔ j ≤ h ∧ j ≤ x
    unfold mnI
    split <;> omega
theorem fkS_none : ∀ {l : List (Int × Int)} {lo : Int} {hi : Option Int}, fkS l lo hi = none → ∀ j, ¬ allN l j
  | q :: l, lo, hi, h, j, g => by
    have h : (if 0 < q.1 then fkS l (mxI lo (-(q.2 / q.1))) hi else if q.1 < 0 then fkS l lo (hiS hi (q.2 / -q.1)) else if q.2 < 0 then none else fkS l lo hi) = none := h
    have gl : allN l j := fun z hz => g z (List.mem_cons_of_mem _ hz)
    have gq := g q List.mem_cons_self
    split at h
    · exact fkS_none h j gl
    · split at h
      · exact fkS_none h j gl
      · split at h
        · have : q.1 = 0 := by omega
          rw [this, Int.zero_mul] at gq
          omega
        · exact fkS_none h j gl
theorem fkS_some : ∀ {l : List (Int × Int)} {lo lo' : Int} {hi hi' : Option Int}, fkS l lo hi = some (lo', hi') → ∀ j, (lo ≤ j ∧ hiC hi j ∧ allN l j ↔ lo' ≤ j ∧ hiC hi' j)
  | [], lo, lo', hi, hi', h, j => by
    cases h
    exact ⟨fun h => ⟨h.1, h.2.1⟩, fun h => ⟨h.1, h.2, fun _ z => by cases z⟩⟩
  | q :: l, lo, lo', hi, hi', h, j => by
    have h : (if 0 < q.1 then fkS l (mxI lo (-(q.2 / q.1))) hi else if q.1 < 0 then fkS l lo (hiS hi (q.2 / -q.1)) else if q.2 < 0 then none else fkS l lo hi) = some (lo', hi') := h
    have al : allN (q :: l) j ↔ 0 ≤ q.1 * j + q.2 ∧ allN l j := ⟨fun g => ⟨g q List.mem_cons_self, fun z hz => g z (List.mem_cons_of_mem _ hz)⟩, fun g z hz => (List.mem_cons.mp hz).elim (fun e => e ▸ g.1) fun hz => g.2 z hz⟩
    rw [al]
    split at h
    · rename_i c
      rw [← fkS_some h j, pos_ix c]
      have : mxI lo (-(q.2 / q.1)) ≤ j ↔ lo ≤ j ∧ -(q.2 / q.1) ≤ j := by unfold mxI; split <;> omega
      rw [this]
      exact ⟨fun ⟨a, b, d, e⟩ => ⟨⟨a, d⟩, b, e⟩, fun ⟨⟨a, d⟩, b, e⟩ => ⟨a, b, d, e⟩⟩
    · split at h
      · rename_i c
        rw [← fkS_some h j, neg_ix c, hiC_S]
        exact ⟨fun ⟨a, b, d, e⟩ => ⟨a, ⟨b, d⟩, e⟩, fun ⟨a, ⟨b, d⟩, e⟩ => ⟨a, b, d, e⟩⟩
      · split at h
        · cases h
        · rename_i c1 c2 c3
          rw [← fkS_some h j]
          have e0 : q.1 = 0 := by omega
          rw [e0, Int.zero_mul]
          exact ⟨fun ⟨a, b, _, e⟩ => ⟨a, b, e⟩, fun ⟨a, b, e⟩ => ⟨a, b, by omega, e⟩⟩
theorem fk_some {l : List (Int × Int)} {lo k : Int} (h : fk l lo = some k) : lo ≤ k ∧ allN l k ∧ ∀ j, lo ≤ j → allN l j → k ≤ j := by
  unfold fk at h
  cases e : fkS l lo none with
  | none => rw [e] at h; cases h
  | some z =>
    obtain ⟨lo', hi'⟩ := z
    rw [e] at h
    have key := fkS_some e
    have hk : k = lo' ∧ hiC hi' lo' := by
      cases hi' with
      | none => cases h; exact ⟨rfl, trivial⟩
      | some h0 =>
        have h : (if lo' ≤ h0 then some lo' else none) = some k := h
        split at h
        · cases h
          rename_i q
          exact ⟨rfl, q⟩
        · cases h
    obtain ⟨rfl, hc⟩ := hk
    obtain ⟨a, _, b⟩ := (key k).mpr ⟨Int.le_refl _, hc⟩
    exact ⟨a, b, fun j h1 h2 => ((key j).mp ⟨h1, trivial, h2⟩).1⟩
theorem fk_none {l : List (Int × Int)} {lo : Int} (h : fk l lo = none) : ∀ j, lo ≤ j → ¬ allN l j := fun j hj g => by
  unfold fk at h
  cases e : fkS l lo none with
  | none => exact fkS_none e j g
  | some z =>
    obtain ⟨lo', hi'⟩ := z
    rw [e] at h
    obtain ⟨a, b⟩ := (fkS_some e j).mp ⟨hj, trivial, g⟩
    cases hi' with
    | none => cases h
    | some h0 =>
      have h : (if lo' ≤ h0 then some lo' else none) = none := h
      split at h
      · cases h
      · have b : j ≤ h0 := b
        omega
def F_fkept : List D → (Rs → Prop) → Prop := fun ds P => ∃ (l : List (Int × Int)) (lo : Int), ds = [.lst (l.map D.pr), .int lo] ∧ l.length ≤ 1000 ∧ (∀ q ∈ l, -(2 ^ 300) < q.1 ∧ q.1 < 2 ^ 300) ∧ P (.ok (optI (fk l lo)))
theorem sc_first_kept : FnScope ["lines", "least", "low", "high", "a", "b"] ["lines", "least"] (defScope s_first_kept) := ⟨rfl, rfl, rfl, by decide +kernel, rfl, by decide +kernel, by decide +kernel⟩
theorem ok_first_kept {P : Program} {w : World} {K : PySem.W.Frag} {mg : Str → Option Value} {base : Heap} (T : Tx K mg) (c0 : SaysM ex dfs K) : Df P w K mg base 1 "first_kept" ["lines", "least"] (spP K [false,false] F_fkept) := by
  refine df_pure (N := ["lines", "least", "low", "high", "a", "b"]) (fd_first_kept c0) T.g_first_kept sc_first_kept (fun _ _ _ _ _ _ us hl => match us, hl with | [_, _], _ => rfl) rfl (by decide) ?_
  intro cdv A outer s H E hr po c W hO tk hN nd ds Q δ hF hS
  have hsc : ∀ N q f, (FX P w K mg base N q (defScope s_first_kept) f cdv A outer s H E).env.scope = defScope s_first_kept := fun _ _ _ => rfl
  obtain ⟨l, lo, rfl, hl, hb, q⟩ := hF
  obtain ⟨δ1, rfl, hS1⟩ := hS.v
  obtain ⟨δ2, rfl, hS2⟩ := hS1.v
  obtain rfl := hS2.n
  show LW _ c W ⟨[some (.lst (l.map D.pr)), some (.int lo), none, none, none, none], []⟩ (fnNd Q) (_ :: _)
  fail "go"
  refine ⟨fun i s' => ∃ (lo' : Int) (hi' : Option Int) (o4 o5 : Option D), s' = ⟨[some (.lst (l.map D.pr)), some (.int lo), some (.int lo'), some (optI hi'), o4, o5], []⟩ ∧ fkS (l.take i) lo none = some (lo', hi'), ⟨lo, none, none, none, rfl, rfl⟩, fun _ _ _ => .src .lst, ?_, ?_⟩
  · rintro i d s' hd ⟨lo', hi', o4, o5, rfl, hI⟩
    rw [List.getElem?_map] at hd
    obtain ⟨⟨a, b⟩, ea, rfl⟩ := Option.map_eq_some_iff.mp hd
    have hab := hb _ (List.mem_of_getElem? ea)
    dsimp only at hab
    have hnx : fkS (l.take (i + 1)) lo none = (if 0 < a then some (mxI lo' (-(b / a)), hi') else if a < 0 then some (lo', hiS hi' (b / -a)) else if b < 0 then none else some (lo', hi')) := by
      rw [List.take_add_one, ea, Option.toList_some, fkS_app, hI]
      rfl
    have hpr : fkS l lo none = (fkS (l.take (i + 1)) lo none).bind fun z => fkS (l.drop (i + 1)) z.1 z.2 := by
      rw [← fkS_app, List.take_append_drop]
    show GT 2 _ (.tup [.int a, .int b]) _ _
    cases hi' with
    | none =>
      dsimp only [optI]
      fail "go"
      · rename_i h
        exact ⟨mxI lo' (-(b / a)), none, _, _, rfl, hnx.trans (if_pos h)⟩
      · rename_i h1 h2 h3
        exact ⟨lo', some (b / -a), _, _, rfl, hnx.trans ((if_neg (by omega)).trans (if_pos h2))⟩
      · rename_i h
        cases h
      · rename_i h1 h2 h3
        have e : fk l lo = none := by
          unfold fk
          rw [hpr, hnx, if_neg (by omega), if_neg (by omega), if_pos h3]
          rfl
        rw [e] at q
        exact q
      · rename_i h1 h2 h3
        exact ⟨lo', none, _, _, rfl, hnx.trans ((if_neg (by omega)).trans ((if_neg (by omega)).trans (if_neg (by omega))))⟩
    | some h0 =>
      dsimp only [optI]
      fail "go"
      · rename_i h
        exact ⟨mxI lo' (-(b / a)), some h0, _, _, rfl, hnx.trans (if_pos h)⟩
      · rename_i h
        cases h
      · rename_i h1 h2 h3
        exact ⟨lo', some (mnI h0 (b / -a)), _, _, rfl, hnx.trans ((if_neg (by omega)).trans (if_pos h2))⟩
      · rename_i h1 h2 h3
        have e : fk l lo = none := by
          unfold fk
          rw [hpr, hnx, if_neg (by omega), if_neg (by omega), if_pos h3]
          rfl
        rw [e] at q
        exact q
      · rename_i h1 h2 h3
        exact ⟨lo', some h0, _, _, rfl, hnx.trans ((if_neg (by omega)).trans ((if_neg (by omega)).trans (if_neg (by omega))))⟩
  · rintro s' ⟨lo', hi', o4, o5, rfl, hI⟩
    rw [List.length_map, List.take_length] at hI
    have e : fk l lo = fkE (lo', hi') := by
      unfold fk
      rw [hI]
      rfl
    rw [e] at q
    cases hi' with
    | none =>
      dsimp only [optI]
      fail "go"
      · exact q
      · rename_i h
        cases h
    | some h0 =>
      dsimp only [optI]
      have e2 : fkE (lo', some h0) = if lo' ≤ h0 then some lo' else none := rfl
      rw [e2] at q
      fail "go"
      · rename_i h
        cases h
      · rename_i h1 h2
        rw [if_pos h2] at q
        exact q
      · rename_i h1 h2
        rw [if_neg (by omega)] at q
        exact q

end L20.PL

end
section

namespace L20.PL
open PySem PySem.Spec PyProof.Rows L2 DL
def lsum (a b : Int × Int) (f : Int) : Int × Int := (a.1 + f * b.1, a.2 + f * b.2)
def lastL (m : Int × Int) : Int × Int := (m.1, m.2 - 1)
def endsL (l : Lt) (s g m : Int × Int) : List (Int × Int) := [s, lsum s (lastL m) l.s, g, lsum g (lastL m) l.p]
def casE (m : Int × Int) (P r : Int) (e : Int × Int) : List (List (Int × Int)) := [[lastL m, (-e.1, -e.2 - 1)], [lastL m, lsum e (P, r) (-1)]]
def misL (l : Lt) (s g m : Int × Int) (P r : Int) : List (List (Int × Int)) := [(-m.1, -m.2 - 1)] :: (endsL l s g m).flatMap (casE m P r)
abbrev csD (L : List (List (Int × Int))) : List D := L.map fun c => D.lst (c.map D.pr)
theorem Sp.small {l : Lt} (h : Sp l) : -100 < l.s ∧ l.s < 100 ∧ -100 < l.p ∧ l.p < 100 := by
  unfold Sp at h
  omega
local macro_rules | `(tactic| fail "iw") => `(tactic| ((with_reducible show DL.IW _ _ _ _ _ _ _ (.Tuple _ _ _)); refine DL.iw_tup ?_))
theorem casE_len (m : Int × Int) (P r : Int) : ∀ L : List (Int × Int), (L.flatMap (casE m P r)).length = 2 * L.length
  | [] => rfl
  | e :: L => by
    rw [List.flatMap_cons, List.length_append, casE_len m P r L, List.length_cons]
    show 2 + 2 * L.length = _
    omega
set_option hygiene false in
local macro_rules | `(tactic| fail "call") => `(tactic| first
  | refine DL.ew_fn (x := "line_sum") ((ok_line_sum T c0).mono (by decide)) hr (by first | exact tk | exact DL.takes_wf | assumption) ?_)
def F_misf (K : PySem.W.Frag) : List D → (Rs → Prop) → Prop := fun ds P => ∃ (l : Lt) (s g m : Int × Int) (Q r : Int), ds = [lotD K l, .tup [D.pr s, D.pr g, D.pr m], .int Q, .int r] ∧ Sp l ∧ P (.ok (.lst (csD (misL l s g m Q r))))
theorem sc_misfits : FnScope ["lot", "lines", "period", "rest", "last", "cases", "end", "start", "goal", "size"] ["lot", "lines", "period", "rest"] (defScope s_misfits) := ⟨rfl, rfl, rfl, by decide +kernel, rfl, by decide +kernel, by decide +kernel⟩
theorem ok_misfits {P : Program} {w : World} {K : PySem.W.Frag} {mg : Str → Option Value} {base : Heap} (T : Tx K mg) (c0 : SaysM ex dfs K) : Df P w K mg base 2 "misfits" ["lot", "lines", "period", "rest"] (spP K [false,false,false,false] (F_misf K)) := by
  refine df_pure (N := ["lot", "lines", "period", "rest", "last", "cases", "end", "start", "goal", "size"]) (fd_misfits c0) T.g_misfits sc_misfits (fun _ _ _ _ _ _ us hl => match us, hl with | [_, _, _, _], _ => rfl) rfl (by decide) ?_
  intro cdv A outer s H E hr po c W hO tk hN nd ds Q δ hF hS
  have hsc : ∀ N q f, (FX P w K mg base N q (defScope s_misfits) f cdv A outer s H E).env.scope = defScope s_misfits := fun _ _ _ => rfl
  obtain ⟨l, s1, g1, m1, Q0, r0, rfl, hs, q⟩ := hF
  obtain ⟨δ1, rfl, hS1⟩ := hS.v
  obtain ⟨δ2, rfl, hS2⟩ := hS1.v
  obtain ⟨δ3, rfl, hS3⟩ := hS2.v
  obtain ⟨δ4, rfl, hS4⟩ := hS3.v
  obtain rfl := hS4.n
  have ow : OwnN "cases" := .mk
  have hsm := hs.small
  show LW _ c W ⟨[some (lotD K l), some (.tup [D.pr s1, D.pr g1, D.pr m1]), some (.int Q0), some (.int r0), none, none, none, none, none, none], []⟩ (fnNd Q) (_ :: _)
  fail "go"
  rename_i r nr
  refine ⟨s1.1, s1.2, m1.1, m1.2 - 1, l.s, rfl, by omega, by omega, ?_⟩
  fail "go"
  refine ⟨g1.1, g1.2, m1.1, m1.2 - 1, l.p, rfl, by omega, by omega, ?_⟩
  fail "go"
  refine ⟨fun i s' => ∃ o6 : Option D, s' = ⟨[some (lotD K l), some (.tup [D.pr s1, D.pr g1, D.pr m1]), some (.int Q0), some (.int r0), some (D.pr (lastL m1)), some (.ref r), o6, some (D.pr s1), some (D.pr g1), some (D.pr m1)], [(r, csD ([(-m1.1, -m1.2 - 1)] :: ((endsL l s1 g1 m1).take i).flatMap (casE m1 Q0 r0)))]⟩, ⟨none, rfl⟩, fun _ _ _ => trivial, ?_, ?_⟩
  · rintro i d s' hd ⟨o6, rfl⟩
    obtain ⟨⟨a, b⟩, ea, rfl⟩ : ∃ e : Int × Int, (endsL l s1 g1 m1)[i]? = some e ∧ d = D.pr e := by
      have hm : ([D.pr s1, .tup [.int (s1.1 + l.s * m1.1), .int (s1.2 + l.s * (m1.2 - 1))], D.pr g1, .tup [.int (g1.1 + l.p * m1.1), .int (g1.2 + l.p * (m1.2 - 1))]] : List D) = (endsL l s1 g1 m1).map D.pr := rfl
      rw [hm, List.getElem?_map] at hd
      obtain ⟨e, he, rfl⟩ := Option.map_eq_some_iff.mp hd
      exact ⟨e, he, rfl⟩
    apply DL.GN.mk ?pt ?kk
    case pt => fail "pt"
    show LW _ c W (@S.mk [_, _, _, _, some (.tup [.int m1.1, .int (m1.2 - 1)]), _, some (.tup [.int a, .int b]), _, _, _] _ _) _ (_ :: _)
    fail "go"
    have hi4 : i < 4 := (List.getElem?_eq_some_iff.mp ea).1
    have hl4 := casE_len m1 Q0 r0 ((endsL l s1 g1 m1).take i)
    rw [List.length_take, show (endsL l s1 g1 m1).length = 4 from rfl] at hl4
    refine .mk .z (by rw [List.length_map, List.length_cons]; omega) .z ?_
    fail "go"
    refine ⟨a, b, Q0, r0, -1, rfl, by decide, by decide, ?_⟩
    fail "go"
    have e : csD ([(-m1.1, -m1.2 - 1)] :: ((endsL l s1 g1 m1).take (i + 1)).flatMap (casE m1 Q0 r0)) = csD ([(-m1.1, -m1.2 - 1)] :: ((endsL l s1 g1 m1).take i).flatMap (casE m1 Q0 r0)) ++ [D.lst [D.pr (lastL m1), D.pr (-a, -b - 1)]] ++ [D.lst [D.pr (lastL m1), D.pr (lsum (a, b) (Q0, r0) (-1))]] := by
      rw [List.take_add_one, ea, Option.toList_some, List.flatMap_append, List.append_assoc]
      unfold csD
      rw [← List.cons_append, List.map_append]
      rfl
    rw [e]
    exact ⟨_, rfl⟩
  · rintro s' ⟨o6, rfl⟩
    fail "go"
    exact q
def perI (l : Lt) (q : Nat) (i : Nat) : Nat := ([l.u.length, l.g.length, l.m.length].take i).foldl Nat.lcm q
def perOf (ls : List Lt) : Nat := ls.foldl (fun q l => perI l q 3) 1
theorem perI_dvd {l : Lt} {B : Nat} (h : Per l B) {q : Nat} (hq : q ∣ B) : ∀ i, perI l q i ∣ B := fun i => by
  unfold perI
  have : ∀ (L : List Nat) (q : Nat), (∀ x ∈ L, x ∣ B) → q ∣ B → L.foldl Nat.lcm q ∣ B := fun L => by
    induction L with
    | nil => exact fun q _ h => h
    | cons a L ih => exact fun q hl hq => ih _ (fun x hx => hl x (List.mem_cons_of_mem _ hx)) (Nat.lcm_dvd hq (hl a List.mem_cons_self))
  refine this _ q (fun x hx => ?_) hq
  have := List.mem_of_mem_take hx
  simp only [List.mem_cons, List.not_mem_nil, or_false] at this
  rcases this with rfl | rfl | rfl
  · exact h.u
  · exact h.g
  · exact h.m
theorem perF_dvd {B : Nat} : ∀ {ls : List Lt} {q : Nat}, (∀ l ∈ ls, Per l B) → q ∣ B → ls.foldl (fun q l => perI l q 3) q ∣ B
  | [], q, _, h => h
  | l :: ls, q, hl, h => perF_dvd (ls := ls) (fun x hx => hl x (List.mem_cons_of_mem _ hx)) (perI_dvd (hl l List.mem_cons_self) h 3)
theorem Per.of {l : Lt} {B : Nat} (h : Per l B) : Per l (perOf [l]) := by
  refine ⟨h.u0, h.g0, h.m0, ?_, ?_, ?_⟩
  all_goals show _ ∣ Nat.lcm (Nat.lcm (Nat.lcm 1 l.u.length) l.g.length) l.m.length
  · exact Nat.dvd_trans (Nat.dvd_trans (Nat.dvd_lcm_right _ _) (Nat.dvd_lcm_left _ _)) (Nat.dvd_lcm_left _ _)
  · exact Nat.dvd_trans (Nat.dvd_lcm_right _ _) (Nat.dvd_lcm_left _ _)
  · exact Nat.dvd_lcm_right _ _
set_option hygiene false in
local macro_rules | `(tactic| fail "call") => `(tactic| first
  | refine DL.ew_fn (x := "common_multiple") ((ok_common_multiple T c0).mono (by decide)) hr (by first | exact tk | exact DL.takes_wf | assumption) ?_)
def F_per (K : PySem.W.Frag) : List D → (Rs → Prop) → Prop := fun ds P => ∃ (ls : List Lt) (B : Nat), ds = [.lst (ls.map (lotD K))] ∧ (∀ l ∈ ls, Per l B) ∧ 0 < B ∧ B ≤ 10000 ∧ P (.ok (.int (perOf ls : Nat)))
theorem sc_period_of : FnScope ["lots", "period", "lot", "place"] ["lots"] (defScope s_period_of) := ⟨rfl, rfl, rfl, by decide +kernel, rfl, by decide +kernel, by decide +kernel⟩
theorem ok_period_of {P : Program} {w : World} {K : PySem.W.Frag} {mg : Str → Option Value} {base : Heap} (T : Tx K mg) (c0 : SaysM ex dfs K) : Df P w K mg base 2 "period_of" ["lots"] (spP K [false] (F_per K)) := by
  refine df_pure (N := ["lots", "period", "lot", "place"]) (fd_period_of c0) T.g_period_of sc_period_of (fun _ _ _ _ _ _ us hl => match us, hl with | [_], _ => rfl) rfl (by decide) ?_
  intro cdv A outer s H E hr po c W hO tk hN nd ds Q δ hF hS
  have hsc : ∀ N q f, (FX P w K mg base N q (defScope s_period_of) f cdv A outer s H E).env.scope = defScope s_period_of := fun _ _ _ => rfl
  obtain ⟨ls, B0, rfl, hls, hB0, hB1, q⟩ := hF
  obtain ⟨δ1, rfl, hS1⟩ := hS.v
  obtain rfl := hS1.n
  show LW _ c W ⟨[some (.lst (ls.map (lotD K))), none, none, none], []⟩ (fnNd Q) (_ :: _)
  have pos : ∀ {q : Nat}, q ∣ B0 → 0 < q ∧ q ≤ 10000 := fun h => ⟨Nat.pos_of_dvd_of_pos h hB0, Nat.le_trans (Nat.le_of_dvd hB0 h) hB1⟩
  fail "go"
  refine ⟨fun i s' => ∃ (o2 o3 : Option D) (q : Nat), s' = ⟨[some (.lst (ls.map (lotD K))), some (.int (q : Int)), o2, o3], []⟩ ∧ q = (ls.take i).foldl (fun q l => perI l q 3) 1, ⟨none, none, 1, rfl, rfl⟩, fun _ _ _ => .src .lst, ?_, ?_⟩
  · rintro i d s' hd ⟨o2, o3, q1, rfl, hq⟩
    rw [List.getElem?_map] at hd
    obtain ⟨l, el, rfl⟩ := Option.map_eq_some_iff.mp hd
    have hl := hls l (List.mem_of_getElem? el)
    have hd1 : q1 ∣ B0 := hq ▸ perF_dvd (fun x hx => hls x (List.mem_of_mem_take hx)) (Nat.one_dvd _)
    apply DL.GN.mk ?pt ?kk
    case pt => fail "pt"
    fail "go"
    refine ⟨fun j s' => ∃ (o3 : Option D), s' = ⟨[some (.lst (ls.map (lotD K))), some (.int ((perI l q1 j : Nat) : Int)), some (lotD K l), o3], []⟩, ⟨o3, rfl⟩, fun _ _ _ => trivial, ?_, ?_⟩
    · rintro j d s' hd2 ⟨o3, rfl⟩
      obtain ⟨rows, er, rfl, hr0, hrd⟩ : ∃ rows : List (Int × Int), ([l.u.length, l.g.length, l.m.length])[j]? = some rows.length ∧ d = plD K rows ∧ 0 < rows.length ∧ rows.length ∣ B0 := by
        match j, hd2 with
        | 0, h => cases h; exact ⟨l.u, rfl, rfl, hl.u0, hl.u⟩
        | 1, h => cases h; exact ⟨l.g, rfl, rfl, hl.g0, hl.g⟩
        | 2, h => cases h; exact ⟨l.m, rfl, rfl, hl.m0, hl.m⟩
        | j + 3, h => cases h
      apply DL.GN.mk ?ptx ?kkx
      case ptx => fail "pt"
      fail "go"
      have p1 := pos (perI_dvd hl hd1 j)
      have p2 := pos hrd
      refine ⟨perI l q1 j, rows.length, by rw [List.length_map], p1.1, p2.1, p1.2, p2.2, ?_⟩
      fail "go"
      have e : perI l q1 (j + 1) = Nat.lcm (perI l q1 j) rows.length := by
        unfold perI
        rw [List.take_add_one, er, Option.toList_some, List.foldl_append]
        rfl
      rw [e]
      exact ⟨_, rfl⟩
    · rintro s' ⟨o3, rfl⟩
      refine ⟨_, _, _, rfl, ?_⟩
      rw [List.take_add_one, el, Option.toList_some, List.foldl_append, ← hq]
      rfl
  · rintro s' ⟨o2, o3, q1, rfl, hq⟩
    rw [List.length_map, List.take_length] at hq
    subst hq
    fail "go"
    exact q

end L20.PL

end
section

namespace L20.PL
open PySem PySem.Spec PyProof.Rows L2 DL
def endV (l : Lt) (n : Int) : List Int := [valIn l.u n, valIn l.u n + l.s * (valIn l.m n - 1), valIn l.g n, valIn l.g n + l.p * (valIn l.m n - 1)]
def Bad (l : Lt) (n : Int) : Prop := valIn l.m n < 0 ∨ (1 ≤ valIn l.m n ∧ ∃ e ∈ endV l n, e < 0 ∨ n ≤ e)
abbrev rowA (x : List (Int × Int)) (Q r : Nat) : Int × Int := (liftP x (Q / x.length)).getD r (0, 0)
theorem row_val {x : List (Int × Int)} {Q r : Nat} (hx : 0 < x.length) (hd : x.length ∣ Q) (hr : r < Q) (k : Int) : valIn x ((Q : Int) * k + r) = (rowA x Q r).1 * k + (rowA x Q r).2 := by
  have hl := liftD_len hd
  have ht : 0 < Q / x.length := Nat.div_pos (Nat.le_of_dvd (by omega) hd) hx
  rw [← valIn_lift hx ht]
  unfold valIn rowA
  rw [hl, show ((Q : Int) * k + r) % Q = r by rw [Int.add_comm, Int.add_mul_emod_self_left]; exact Int.emod_eq_of_lt (by omega) (by omega),
    show ((Q : Int) * k + r) / Q = k by rw [Int.add_comm, Int.add_mul_ediv_left _ _ (by omega), Int.ediv_eq_zero_of_lt (by omega) (by omega), Int.zero_add]]
  rfl
theorem lsum_val (a b : Int × Int) (f k : Int) : (lsum a b f).1 * k + (lsum a b f).2 = (a.1 * k + a.2) + f * (b.1 * k + b.2) := by
  unfold lsum
  dsimp only
  grind
theorem last_val (m : Int × Int) (k : Int) : (lastL m).1 * k + (lastL m).2 = (m.1 * k + m.2) - 1 := by
  unfold lastL
  dsimp only
  omega
theorem ends_val {l : Lt} {Q r : Nat} (h : Per l Q) (hr : r < Q) (k : Int) : endV l ((Q : Int) * k + r) = (endsL l (rowA l.u Q r) (rowA l.g Q r) (rowA l.m Q r)).map fun e => e.1 * k + e.2 := by
  unfold endV endsL
  simp only [List.map_cons, List.map_nil]
  rw [row_val h.u0 h.u hr, row_val h.g0 h.g hr, row_val h.m0 h.m hr, lsum_val, lsum_val, last_val]
theorem case_iff (m e : Int × Int) (Q r k : Int) : (∃ cs ∈ casE m Q r e, allN cs k) ↔ 1 ≤ m.1 * k + m.2 ∧ (e.1 * k + e.2 < 0 ∨ Q * k + r ≤ e.1 * k + e.2) := by
  have h1 := last_val m k
  have h2 := lsum_val e (Q, r) (-1) k
  have h3 : -e.1 * k + (-e.2 - 1) = -(e.1 * k + e.2) - 1 := by grind
  dsimp only at h2
  constructor
  · rintro ⟨cs, hc, g⟩
    rcases List.mem_cons.mp hc with rfl | hc
    · have a := g _ List.mem_cons_self
      have b := g (-e.1, -e.2 - 1) (by simp)
      dsimp only at b
      omega
    · rw [List.mem_singleton.mp hc] at g
      have a := g _ List.mem_cons_self
      have b := g (lsum e (Q, r) (-1)) (by simp)
      omega
  · rintro ⟨a, b | b⟩
    · refine ⟨_, List.mem_cons_self, fun q hq => ?_⟩
      rcases List.mem_cons.mp hq with rfl | hq
      · omega
      · rw [List.mem_singleton.mp hq]
        dsimp only
        omega
    · refine ⟨_, List.mem_cons_of_mem _ List.mem_cons_self, fun q hq => ?_⟩
      rcases List.mem_cons.mp hq with rfl | hq
      · omega
      · rw [List.mem_singleton.mp hq]
        omega
theorem bad_iff {l : Lt} {Q r : Nat} (h : Per l Q) (hr : r < Q) (k : Int) : Bad l ((Q : Int) * k + r) ↔ ∃ cs ∈ misL l (rowA l.u Q r) (rowA l.g Q r) (rowA l.m Q r) Q r, allN cs k := by
  unfold Bad misL
  rw [ends_val h hr, row_val h.m0 h.m hr]
  obtain ⟨m, em⟩ : ∃ m, m = rowA l.m Q r := ⟨_, rfl⟩
  rw [← em]
  have h0 : -m.1 * k + (-m.2 - 1) = -(m.1 * k + m.2) - 1 := by grind
  constructor
  · rintro (a | ⟨a, e, he, b⟩)
    · refine ⟨_, List.mem_cons_self, fun q hq => ?_⟩
      rw [List.mem_singleton.mp hq]
      dsimp only
      omega
    · obtain ⟨e0, he0, rfl⟩ := List.mem_map.mp he
      obtain ⟨cs, h1, h2⟩ := (case_iff m e0 Q r k).mpr ⟨a, b⟩
      exact ⟨cs, List.mem_cons_of_mem _ (List.mem_flatMap.mpr ⟨e0, he0, h1⟩), h2⟩
  · rintro ⟨cs, hc, g⟩
    rcases List.mem_cons.mp hc with rfl | hc
    · have a := g _ List.mem_cons_self
      dsimp only at a
      exact .inl (by omega)
    · obtain ⟨e, he, hc⟩ := List.mem_flatMap.mp hc
      obtain ⟨a, b⟩ := (case_iff m e Q r k).mp ⟨cs, hc, g⟩
      exact .inr ⟨a, _, List.mem_map.mpr ⟨e, he, rfl⟩, b⟩
theorem cei {Q L r k : Int} (hQ : 0 < Q) : (L - r + Q - 1) / Q ≤ k ↔ L ≤ Q * k + r := by
  have h := Int.ediv_lt_iff_lt_mul (a := L - r + Q - 1) (b := k + 1) (c := Q) hQ
  rw [Int.add_mul, Int.one_mul, Int.mul_comm k Q] at h
  omega
def Fst0 (l : Lt) (L : Int) : Option Int → Prop
  | none => ∀ n, L ≤ n → ¬ Bad l n
  | some n => L ≤ n ∧ Bad l n ∧ ∀ j, L ≤ j → j < n → ¬ Bad l j
def bdL (l : Lt) : Prop := bd l.u ∧ bd l.g ∧ bd l.m
theorem row_bd {x : List (Int × Int)} {Q r : Nat} (hx : 0 < x.length) (hQ : Q ≤ 5000) (h : bd x) : -(2 ^ 215) < (rowA x Q r).1 ∧ (rowA x Q r).1 < 2 ^ 215 := by
  unfold rowA
  rw [List.getD_eq_getElem?_getD]
  cases e : (liftP x (Q / x.length))[r]? with
  | none =>
    show -(2 ^ 215) < (0 : Int) ∧ (0 : Int) < 2 ^ 215
    omega
  | some q =>
    have hm := List.mem_of_getElem? e
    unfold liftP at hm
    obtain ⟨m, _, hm⟩ := List.mem_flatMap.mp hm
    obtain ⟨p, hp, rfl⟩ := List.mem_map.mp hm
    have b := h p hp
    have ht : Q / x.length ≤ 5000 := Nat.le_trans (Nat.div_le_self _ _) hQ
    show -(2 ^ 215) < p.1 * ((Q / x.length : Nat) : Int) ∧ p.1 * ((Q / x.length : Nat) : Int) < 2 ^ 215
    generalize Q / x.length = u at ht ⊢
    obtain ⟨t, et⟩ : ∃ t : Int, t = (u : Int) := ⟨_, rfl⟩
    rw [← et]
    have t0 : 0 ≤ t ∧ t ≤ 5000 := by omega
    have u1 := Int.mul_le_mul_of_nonneg_right (show p.1 ≤ 2 ^ 200 by omega) t0.1
    have u2 := Int.mul_le_mul_of_nonneg_right (show -(2 ^ 200) ≤ p.1 by omega) t0.1
    omega
theorem mis_bd {l : Lt} {Q r : Nat} (h : Per l Q) (hQ : Q ≤ 5000) (hb : bdL l) (hs : Sp l) : ∀ cs ∈ misL l (rowA l.u Q r) (rowA l.g Q r) (rowA l.m Q r) Q r, cs.length ≤ 2 ∧ ∀ q ∈ cs, -(2 ^ 300) < q.1 ∧ q.1 < 2 ^ 300 := by
  have a := row_bd (r := r) h.u0 hQ hb.1
  have b := row_bd (r := r) h.g0 hQ hb.2.1
  have d := row_bd (r := r) h.m0 hQ hb.2.2
  have hsm := hs
  unfold Sp at hsm
  generalize rowA l.u Q r = u at a ⊢
  generalize rowA l.g Q r = g at b ⊢
  generalize rowA l.m Q r = m at d ⊢
  have ends : ∀ e ∈ endsL l u g m, -(2 ^ 220) < e.1 ∧ e.1 < 2 ^ 220 := fun e he => by
    unfold endsL at he
    simp only [List.mem_cons, List.not_mem_nil, or_false] at he
    have k1 : ∀ {f x : Int}, (f = 1 ∨ f = 2 ∨ f = -1 ∨ f = -2) → -(2 ^ 215) < x → x < 2 ^ 215 → -(2 ^ 217) < f * x ∧ f * x < 2 ^ 217 := fun hf h1 h2 => by
      rcases hf with rfl | rfl | rfl | rfl <;> omega
    have k2 := k1 (f := l.s) (by omega) d.1 d.2
    have k3 := k1 (f := l.p) (by omega) d.1 d.2
    rcases he with rfl | rfl | rfl | rfl
    · omega
    · show -(2 ^ 220) < u.1 + l.s * m.1 ∧ u.1 + l.s * m.1 < 2 ^ 220
      omega
    · omega
    · show -(2 ^ 220) < g.1 + l.p * m.1 ∧ g.1 + l.p * m.1 < 2 ^ 220
      omega
  intro cs hc
  unfold misL at hc
  rcases List.mem_cons.mp hc with rfl | hc
  · refine ⟨by simp, fun q hq => ?_⟩
    rw [List.mem_singleton.mp hq]
    dsimp only
    omega
  · obtain ⟨e, he, hc⟩ := List.mem_flatMap.mp hc
    have ee := ends e he
    have ml : -(2 ^ 300) < (lastL m).1 ∧ (lastL m).1 < 2 ^ 300 := by
      show -(2 ^ 300) < m.1 ∧ m.1 < 2 ^ 300
      omega
    unfold casE at hc
    rcases List.mem_cons.mp hc with rfl | hc
    · refine ⟨by simp, fun q hq => ?_⟩
      rcases List.mem_cons.mp hq with rfl | hq
      · exact ml
      · rw [List.mem_singleton.mp hq]
        dsimp only
        omega
    · rw [List.mem_singleton.mp hc]
      refine ⟨by simp, fun q hq => ?_⟩
      rcases List.mem_cons.mp hq with rfl | hq
      · exact ml
      · rw [List.mem_singleton.mp hq]
        show -(2 ^ 300) < e.1 + -1 * (Q : Int) ∧ e.1 + -1 * (Q : Int) < 2 ^ 300
        omega
theorem lin_len {l : Lt} {Q : Nat} (h : Per l Q) : (linD l Q).length = Q := by
  unfold linD zip3D
  rw [List.length_map, List.length_zip, List.length_zip, List.length_map, List.length_map, List.length_map, liftD_len h.u, liftD_len h.g, liftD_len h.m]
  omega
theorem lin_at {l : Lt} {Q i : Nat} (h : Per l Q) (hi : i < Q) : (linD l Q)[i]? = some (.tup [D.pr (rowA l.u Q i), D.pr (rowA l.g Q i), D.pr (rowA l.m Q i)]) := by
  have g : ∀ {x : List (Int × Int)}, x.length ∣ Q → ((liftP x (Q / x.length)).map D.pr)[i]? = some (D.pr (rowA x Q i)) := fun {x} hx => by
    have hl : i < (liftP x (Q / x.length)).length := by rw [liftD_len hx]; exact hi
    unfold rowA
    rw [List.getElem?_map, List.getD_eq_getElem?_getD, List.getElem?_eq_getElem hl]
    rfl
  unfold linD zip3D
  have e2 : (((liftP l.g (Q / l.g.length)).map D.pr).zip ((liftP l.m (Q / l.m.length)).map D.pr))[i]? = some (D.pr (rowA l.g Q i), D.pr (rowA l.m Q i)) := List.getElem?_zip_eq_some.mpr ⟨g h.g, g h.m⟩
  have e3 : (((liftP l.u (Q / l.u.length)).map D.pr).zip (((liftP l.g (Q / l.g.length)).map D.pr).zip ((liftP l.m (Q / l.m.length)).map D.pr)))[i]? = some (D.pr (rowA l.u Q i), D.pr (rowA l.g Q i), D.pr (rowA l.m Q i)) := List.getElem?_zip_eq_some.mpr ⟨g h.u, e2⟩
  rw [List.getElem?_map, e3]
  rfl
set_option hygiene false in
local macro_rules | `(tactic| fail "call") => `(tactic| first
  | refine DL.ew_fn (x := "lines_of") ((ok_lines_of T c0).mono (by decide)) hr (by first | exact tk | exact DL.takes_wf | assumption) ?_
  | refine DL.ew_fn (x := "period_of") ((ok_period_of T c0).mono (by decide)) hr (by first | exact tk | exact DL.takes_wf | assumption) ?_
  | refine DL.ew_fn (x := "misfits") ((ok_misfits T c0).mono (by decide)) hr (by first | exact tk | exact DL.takes_wf | assumption) ?_
  | refine DL.ew_fn (x := "first_kept") ((ok_first_kept T c0).mono (by decide)) hr (by first | exact tk | exact DL.takes_wf | assumption) ?_)
set_option hygiene false in
local macro_rules | `(tactic| fail "e") => `(tactic| ((with_reducible show DL.EW _ _ _ _ _ _ (.Call (.Name "min" _) [_] [_] _)); refine DL.ew_minD hr.units rfl T.f_min ?_))
local macro_rules | `(tactic| fail "x") => `(tactic| ((with_reducible show DL.MnR _ _ _ _); with_reducible apply DL.MnR.mk ?hh ?ll ?kk; (case hh => fail "sl"); (case ll => rfl)))
def F_fm (K : PySem.W.Frag) : List D → (Rs → Prop) → Prop := fun ds P => ∃ (l : Lt) (L : Int) (B : Nat), ds = [lotD K l, .int L] ∧ Sp l ∧ Per l B ∧ 0 < B ∧ B ≤ 500 ∧ bdL l ∧ ∀ o, Fst0 l L o → P (.ok (optI o))
theorem sc_first_misfit : FnScope ["lot", "least", "period", "found", "rest", "lines", "first", "case", "k"] ["lot", "least"] (defScope s_first_misfit) := ⟨rfl, rfl, rfl, by decide +kernel, rfl, by decide +kernel, by decide +kernel⟩
theorem ok_first_misfit {P : Program} {w : World} {K : PySem.W.Frag} {mg : Str → Option Value} {base : Heap} (T : Tx K mg) (c0 : SaysM ex dfs K) : Df P w K mg base 3 "first_misfit" ["lot", "least"] (spP K [false,false] (F_fm K)) := by
  refine df_pure (N := ["lot", "least", "period", "found", "rest", "lines", "first", "case", "k"]) (fd_first_misfit c0) T.g_first_misfit sc_first_misfit (fun _ _ _ _ _ _ us hl => match us, hl with | [_, _], _ => rfl) rfl (by decide) ?_
  intro cdv A outer s H E hr po c W hO tk hN nd ds Q δ hF hS
  have hsc : ∀ N q f, (FX P w K mg base N q (defScope s_first_misfit) f cdv A outer s H E).env.scope = defScope s_first_misfit := fun _ _ _ => rfl
  obtain ⟨l, L, B0, rfl, hs, hP, hB0, hB1, hb, q⟩ := hF
  obtain ⟨δ1, rfl, hS1⟩ := hS.v
  obtain ⟨δ2, rfl, hS2⟩ := hS1.v
  obtain rfl := hS2.n
  have ow : OwnN "found" := .mk
  show LW _ c W ⟨[some (lotD K l), some (.int L), none, none, none, none, none, none, none], []⟩ (fnNd Q) (_ :: _)
  fail "go"
  refine ⟨[l], B0, rfl, fun x hx => by rw [List.mem_singleton.mp hx]; exact hP, hB0, by omega, ?_⟩
  have hd : perOf [l] ∣ B0 := perF_dvd (fun x hx => by rw [List.mem_singleton.mp hx]; exact hP) (Nat.one_dvd _)
  have hPl := hP.of
  obtain ⟨Q0, eQ⟩ : ∃ Q0, Q0 = perOf [l] := ⟨_, rfl⟩
  rw [← eQ] at hd hPl ⊢
  have hQ0 : 0 < Q0 := Nat.pos_of_dvd_of_pos hd hB0
  have hQ1 : Q0 ≤ 500 := Nat.le_trans (Nat.le_of_dvd hB0 hd) hB1
  clear eQ hd
  fail "go"
  refine ⟨l, Q0, rfl, hPl, hQ0, by omega, ?_⟩
  fail "go"
  rename_i p np
  refine ⟨fun i s' => ∃ (fs : List Int) (o4 o5 o6 o7 o8 : Option D), s' = ⟨[some (lotD K l), some (.int L), some (.int (Q0 : Int)), some (.ref p), o4, o5, o6, o7, o8], [(p, fs.map D.int)]⟩ ∧ fs.length ≤ 20 * i ∧ (∀ f ∈ fs, L ≤ f ∧ Bad l f) ∧ ∀ n, L ≤ n → Bad l n → n % Q0 < i → ∃ f ∈ fs, f ≤ n,
    ⟨[], none, none, none, none, none, rfl, Nat.zero_le _, (fun _ h => by cases h), fun n _ _ h => by have := Int.emod_nonneg n (show (Q0 : Int) ≠ 0 by omega); omega⟩, fun _ _ _ => .src .lst, ?_, ?_⟩
  · rintro i d s' hd ⟨fs, o4, o5, o6, o7, o8, rfl, hfl, hf1, hf2⟩
    rw [List.getElem?_map, List.getElem?_zipIdx] at hd
    have hi : i < Q0 := by
      rcases Nat.lt_or_ge i Q0 with z | z
      · exact z
      · rw [List.getElem?_eq_none (by rw [lin_len hPl]; exact z)] at hd
        cases hd
    rw [lin_at hPl hi, Nat.zero_add] at hd
    cases hd
    show GT 2 _ (.tup [.int (i : Int), .tup [D.pr (rowA l.u Q0 i), D.pr (rowA l.g Q0 i), D.pr (rowA l.m Q0 i)]]) _ _
    have hbi := fun k => bad_iff hPl hi k
    have hmb := mis_bd (r := i) hPl (by omega) hb hs
    have hml : (misL l (rowA l.u Q0 i) (rowA l.g Q0 i) (rowA l.m Q0 i) Q0 i).length = 9 := by
      unfold misL
      rw [List.length_cons, casE_len]
      rfl
    fail "go"
    refine ⟨l, rowA l.u Q0 i, rowA l.g Q0 i, rowA l.m Q0 i, Q0, i, rfl, hs, ?_⟩
    obtain ⟨ms, ems⟩ : ∃ ms, ms = misL l (rowA l.u Q0 i) (rowA l.g Q0 i) (rowA l.m Q0 i) Q0 i := ⟨_, rfl⟩
    rw [← ems] at hbi hmb hml ⊢
    fail "go"
    obtain ⟨F0, eF⟩ : ∃ F0, F0 = (L - (i : Int) + (Q0 : Int) - 1) / (Q0 : Int) := ⟨_, rfl⟩
    have hF : ∀ k, F0 ≤ k ↔ L ≤ (Q0 : Int) * k + i := fun k => by rw [eF]; exact cei (by omega)
    rw [← eF]
    clear eF
    refine ⟨fun j s' => ∃ (fs : List Int) (o7 o8 : Option D), s' = ⟨[some (lotD K l), some (.int L), some (.int (Q0 : Int)), some (.ref p), some (.int (i : Int)), some (.tup [D.pr (rowA l.u Q0 i), D.pr (rowA l.g Q0 i), D.pr (rowA l.m Q0 i)]), some (.int F0), o7, o8], [(p, fs.map D.int)]⟩ ∧ fs.length ≤ 20 * i + j ∧ (∀ f ∈ fs, L ≤ f ∧ Bad l f) ∧ (∀ n, L ≤ n → Bad l n → n % Q0 < i → ∃ f ∈ fs, f ≤ n) ∧ ∀ k, F0 ≤ k → (∃ cs ∈ ms.take j, allN cs k) → ∃ f ∈ fs, f ≤ (Q0 : Int) * k + i,
      ⟨fs, o7, o8, rfl, hfl, hf1, hf2, fun k _ ⟨_, h, _⟩ => by cases h⟩, fun _ _ _ => .src .lst, ?_, ?_⟩
    · clear hfl hf1 hf2 fs
      rintro j d s' hd2 ⟨fs, o7, o8, rfl, hfl, hf1, hf2, hf3⟩
      rw [List.getElem?_map] at hd2
      obtain ⟨cs, ecs, rfl⟩ := Option.map_eq_some_iff.mp hd2
      have hcs := hmb cs (List.mem_of_getElem? ecs)
      have hj : j < 9 := by rw [← hml]; exact (List.getElem?_eq_some_iff.mp ecs).1
      apply DL.GN.mk ?pt ?kk
      case pt => fail "pt"
      fail "go"
      refine ⟨cs, F0, rfl, by omega, hcs.2, ?_⟩
      have tk1 : ms.take (j + 1) = ms.take j ++ [cs] := by rw [List.take_add_one, ecs]; rfl
      cases hk : fk cs F0 with
      | none =>
        have hno := fk_none hk
        have hf4 : ∀ k, F0 ≤ k → (∃ cs ∈ ms.take (j + 1), allN cs k) → ∃ f ∈ fs, f ≤ (Q0 : Int) * k + i := fun k a ⟨c1, m, g⟩ => by
          rw [tk1] at m
          rcases List.mem_append.mp m with m | m
          · exact hf3 k a ⟨c1, m, g⟩
          · rw [List.mem_singleton.mp m] at g
            exact absurd g (hno k a)
        dsimp only [optI]
        fail "go"
        all_goals first
          | (exfalso; rename_i h; cases h; done)
          | exact ⟨fs, _, _, rfl, by omega, hf1, hf2, hf4⟩
      | some k =>
        obtain ⟨h1, h2, h3⟩ := fk_some hk
        have e1 : fs.map D.int ++ [D.int ((Q0 : Int) * k + i)] = (fs ++ [(Q0 : Int) * k + i]).map D.int := by rw [List.map_append]; rfl
        have g1 : ∀ f ∈ fs ++ [(Q0 : Int) * k + i], L ≤ f ∧ Bad l f := fun f hf => by
          rcases List.mem_append.mp hf with hf | hf
          · exact hf1 f hf
          · rw [List.mem_singleton.mp hf]
            exact ⟨(hF k).mp h1, (hbi k).mpr ⟨cs, List.mem_of_getElem? ecs, h2⟩⟩
        have g2 : ∀ n, L ≤ n → Bad l n → n % Q0 < i → ∃ f ∈ fs ++ [(Q0 : Int) * k + i], f ≤ n := fun n a b d => by
          obtain ⟨f, hf, hle⟩ := hf2 n a b d
          exact ⟨f, List.mem_append_left _ hf, hle⟩
        have g3 : ∀ k1, F0 ≤ k1 → (∃ cs ∈ ms.take (j + 1), allN cs k1) → ∃ f ∈ fs ++ [(Q0 : Int) * k + i], f ≤ (Q0 : Int) * k1 + i := fun k1 a ⟨c1, m, g⟩ => by
          rw [tk1] at m
          rcases List.mem_append.mp m with m | m
          · obtain ⟨f, hf, hle⟩ := hf3 k1 a ⟨c1, m, g⟩
            exact ⟨f, List.mem_append_left _ hf, hle⟩
          · rw [List.mem_singleton.mp m] at g
            have := Int.mul_le_mul_of_nonneg_left (h3 k1 a g) (show 0 ≤ (Q0 : Int) by omega)
            exact ⟨_, List.mem_append_right _ List.mem_cons_self, by omega⟩
        dsimp only [optI]
        fail "go"
        · try refine .mk .z (by rw [List.length_map]; omega) .z ?_
          rw [e1]
          exact ⟨_, _, _, rfl, by rw [List.length_append, List.length_singleton]; omega, g1, g2, g3⟩
        · exfalso
          rename_i h
          cases h
    · clear hfl hf1 hf2 fs
      rintro s' ⟨fs, o7, o8, rfl, hfl, hf1, hf2, hf3⟩
      rw [List.length_map, hml] at hfl
      rw [List.length_map, List.take_length] at hf3
      refine ⟨fs, _, _, _, _, _, rfl, by omega, hf1, fun n h1 h2 h3 => ?_⟩
      have h0 := Int.emod_nonneg n (show (Q0 : Int) ≠ 0 by omega)
      by_cases z : n % (Q0 : Int) < i
      · exact hf2 n h1 h2 z
      · have e : n = (Q0 : Int) * (n / Q0) + i := by
          have := Int.mul_ediv_add_emod n Q0
          omega
        have hb2 := h2
        rw [e] at hb2 h1
        rw [e]
        exact hf3 _ ((hF _).mpr h1) ((hbi _).mp hb2)
  · rintro s' ⟨fs, o4, o5, o6, o7, o8, rfl, hfl, hf1, hf2⟩
    rw [List.length_map, List.length_zipIdx, lin_len hPl] at hf2
    fail "go"
    · rename_i h
      subst h
      refine q none fun n hn hbad => ?_
      obtain ⟨f, hf, _⟩ := hf2 n hn hbad (Int.emod_lt_of_pos _ (by omega))
      cases hf
    · rename_i m
      intro h1 h2
      have hq := q (some m) ⟨(hf1 m h1).1, (hf1 m h1).2, fun j a b hbad => by
        obtain ⟨f, hf, hle⟩ := hf2 j a hbad (Int.emod_lt_of_pos _ (by omega))
        have := h2 f hf
        omega⟩
      dsimp only [optI] at hq
      fail "go"
      exact hq

end L20.PL

end
section

namespace L20.PL
open PySem PySem.Spec PyProof.Rows L2 DL
open PL
theorem ln_stay {a b k1 k M : Int} (h1 : a * k1 + b ≤ M) (h2 : 0 ≤ a * (k1 + M + 1) + b) (hk : k1 + M + 1 ≤ k) (hM : 0 ≤ M) : 0 ≤ a * k + b := by
  rcases Int.lt_or_le a 0 with c | c
  · exfalso
    have m := Int.mul_le_mul_of_nonneg_right (show a ≤ -1 by omega) (show 0 ≤ M + 1 by omega)
    have e : a * (k1 + M + 1) = a * k1 + a * (M + 1) := by rw [Int.add_assoc, Int.mul_add]
    omega
  · have m := Int.mul_nonneg c (show 0 ≤ k - (k1 + M + 1) by omega)
    rw [Int.mul_sub] at m
    omega
theorem bad_far {l : Lt} {P : Nat} {L : Int} (hP : Per l P) (hP0 : 0 < P) (hP1 : P ≤ 12) (hs : 1 ≤ l.s) (h0 : 1 ≤ L) (h1 : L ≤ 40) (h : ∀ n, L ≤ n → n < L + 900 → ¬ Bad l n) : ∀ n, L ≤ n → ¬ Bad l n := fun n hn => by
  rcases Int.lt_or_le n (L + 900) with hlt | hge
  · exact h n hn hlt
  have r0 := Int.emod_nonneg n (show (P : Int) ≠ 0 by omega)
  have r1 := Int.emod_lt_of_pos n (show 0 < (P : Int) by omega)
  have he := Int.mul_ediv_add_emod n P
  obtain ⟨r, er⟩ : ∃ r : Nat, (r : Int) = n % P := ⟨(n % P).toNat, by omega⟩
  obtain ⟨k, ek⟩ : ∃ k, k = n / P := ⟨_, rfl⟩
  rw [← ek, ← er] at he
  have hr : r < P := by omega
  have a1 := Int.mul_ediv_self_le (x := L - (r : Int) + P - 1) (k := (P : Int)) (by omega)
  have a2 := Int.lt_mul_ediv_self_add (x := L - (r : Int) + P - 1) (k := (P : Int)) (by omega)
  obtain ⟨k0, ek0⟩ : ∃ k0, k0 = (L - (r : Int) + P - 1) / P := ⟨_, rfl⟩
  rw [← ek0] at a1 a2
  have vm := fun k' => row_val (x := l.m) (Q := P) (r := r) hP.m0 hP.m hr k'
  have vu := fun k' => row_val (x := l.u) (Q := P) (r := r) hP.u0 hP.u hr k'
  have vg := fun k' => row_val (x := l.g) (Q := P) (r := r) hP.g0 hP.g hr k'
  generalize (rowA l.m P r).1 = am at vm
  generalize (rowA l.m P r).2 = bm at vm
  generalize (rowA l.u P r).1 = au at vu
  generalize (rowA l.u P r).2 = bu at vu
  generalize (rowA l.g P r).1 = ag at vg
  generalize (rowA l.g P r).2 = bg at vg
  have inr : ∀ k', k0 ≤ k' → k' ≤ k0 + 73 → L ≤ (P : Int) * k' + r ∧ (P : Int) * k' + r < L + 900 ∧ (P : Int) * k' + r ≤ L + P - 1 + 12 * (k' - k0) := fun k' x y => by
    have m1 := Int.mul_le_mul_of_nonneg_left x (show (0 : Int) ≤ P by omega)
    have m2 := Int.mul_le_mul_of_nonneg_right (show (P : Int) ≤ 12 by omega) (show 0 ≤ k' - k0 by omega)
    rw [Int.mul_sub, Int.mul_sub] at m2
    rw [Int.mul_sub]
    omega
  have hk : k0 + 73 < k := by
    apply Classical.byContradiction
    intro c
    have m := Int.mul_le_mul_of_nonneg_left (show k ≤ k0 + 73 by omega) (show (0 : Int) ≤ P by omega)
    have := (inr (k0 + 73) (by omega) (by omega)).2.1
    omega
  have ok : ∀ k', k0 ≤ k' → k' ≤ k0 + 73 → 0 ≤ am * k' + bm ∧ (1 ≤ am * k' + bm → ∀ e ∈ endV l ((P : Int) * k' + r), 0 ≤ e ∧ e < (P : Int) * k' + r) := fun k' x y => by
    have nb := h _ (inr k' x y).1 (inr k' x y).2.1
    rw [← vm k']
    refine ⟨?_, fun z e he => ?_⟩
    · apply Classical.byContradiction
      intro c
      exact nb (.inl (by omega))
    · apply Classical.byContradiction
      intro c
      exact nb (.inr ⟨z, e, he, by omega⟩)
  have ends : ∀ k', k0 ≤ k' → k' ≤ k0 + 73 → 1 ≤ am * k' + bm → (0 ≤ au * k' + bu ∧ au * k' + bu < P * k' + r) ∧ (0 ≤ au * k' + bu + l.s * (am * k' + bm - 1) ∧ au * k' + bu + l.s * (am * k' + bm - 1) < P * k' + r) ∧ (0 ≤ ag * k' + bg ∧ ag * k' + bg < P * k' + r) ∧ (0 ≤ ag * k' + bg + l.p * (am * k' + bm - 1) ∧ ag * k' + bg + l.p * (am * k' + bm - 1) < P * k' + r) := fun k' x y z => by
    have g := (ok k' x y).2 z
    unfold endV at g
    rw [vm k', vu k', vg k'] at g
    exact ⟨g _ (by simp), g _ (by simp), g _ (by simp), g _ (by simp)⟩
  -- the size stays
  have m0 : 0 ≤ am * k + bm := by
    refine ln_stay (k1 := k0) (M := 60) ?_ (ok (k0 + 60 + 1) (by omega) (by omega)).1 (by omega) (by decide)
    rcases Int.lt_or_le (am * k0 + bm) 1 with c | c
    · omega
    · have g := ends k0 (by omega) (by omega) c
      have := (inr k0 (by omega) (by omega)).2.2
      have m := Int.mul_le_mul_of_nonneg_right hs (show 0 ≤ am * k0 + bm - 1 by omega)
      omega
  intro hb
  rw [← he] at hb
  rcases hb with hb | ⟨hb, e, hee, hb2⟩
  · rw [vm k] at hb
    omega
  rw [vm k] at hb
  -- there are strings from the second one on
  have big : ∀ k', k0 + 1 ≤ k' → k' ≤ k0 + 73 → 1 ≤ am * k' + bm := fun k' x y => by
    have z0 := (ok k0 (by omega) (by omega)).1
    rcases Int.lt_or_le 0 am with c | c
    · have m := Int.mul_le_mul_of_nonneg_right (show 1 ≤ am by omega) (show 0 ≤ k' - k0 by omega)
      rw [Int.mul_sub am] at m
      omega
    · have m := Int.mul_le_mul_of_nonneg_right c (show 0 ≤ k - k' by omega)
      rw [Int.mul_sub] at m
      omega
  have fin : ∀ x y : Int, (∀ k', k0 ≤ k' → k' ≤ k0 + 73 → 1 ≤ am * k' + bm → 0 ≤ x * k' + y ∧ x * k' + y < P * k' + r) → 0 ≤ x * k + y ∧ x * k + y < P * k + r := fun x y hx => by
    have s1 := hx (k0 + 1) (by omega) (by omega) (big _ (by omega) (by omega))
    have s2 := hx (k0 + 1 + 65 + 1) (by omega) (by omega) (big _ (by omega) (by omega))
    have i1 := (inr (k0 + 1) (by omega) (by omega)).2.2
    refine ⟨ln_stay (k1 := k0 + 1) (M := 65) (by omega) s2.1 (by omega) (by decide), ?_⟩
    have e1 : ∀ j, ((P : Int) - x) * j + (r - 1 - y) = P * j + r - 1 - (x * j + y) := fun j => by rw [Int.sub_mul]; omega
    have := ln_stay (a := (P : Int) - x) (b := r - 1 - y) (k1 := k0 + 1) (M := 65) (k := k) (by rw [e1]; omega) (by rw [e1]; omega) (by omega) (by decide)
    rw [e1] at this
    omega
  have eq1 : ∀ (x y s j : Int), x * j + y + s * (am * j + bm - 1) = (x + s * am) * j + (y + s * (bm - 1)) := fun x y s j => by grind
  have f1 := fin au bu fun k' x y z => (ends k' x y z).1
  have f2 := fin (au + l.s * am) (bu + l.s * (bm - 1)) fun k' x y z => by rw [← eq1]; exact (ends k' x y z).2.1
  have f3 := fin ag bg fun k' x y z => (ends k' x y z).2.2.1
  have f4 := fin (ag + l.p * am) (bg + l.p * (bm - 1)) fun k' x y z => by rw [← eq1]; exact (ends k' x y z).2.2.2
  rw [← eq1] at f2 f4
  unfold endV at hee
  rw [vm k, vu k, vg k] at hee
  simp only [List.mem_cons, List.not_mem_nil, or_false] at hee
  rcases hee with rfl | rfl | rfl | rfl <;> omega

end L20.PL

end
section

namespace L20
open PySem PySem.Spec PyProof.Rows L2 DL
def Wl (T : Int) (os : List D) : Prop := ∃ a b t : Int, os = [.int a, .int b, .int t] ∧ 0 ≤ b ∧ b < 10 ^ 40 ∧ 0 ≤ t ∧ t ≤ T
def F_well : List D → (Rs → Prop) → Prop := fun ds P => ∃ (ns : List Int) (k : Int), ds = [.scr ns, .int k] ∧ 0 ≤ k ∧ k < 100 ∧ ∀ os, Wl 0 os → P (.own os)
theorem sc__law_well : FnScope ["_law_script", "_law_at_here", "_law_cell", "_law_bulk"] ["_law_script", "_law_at_here"] (defScope s__law_well) := ⟨rfl, rfl, rfl, by decide +kernel, rfl, by decide +kernel, by decide +kernel⟩
theorem ok__law_well {P : Program} {w : World} {K : PySem.W.Frag} {mg : Str → Option Value} {base : Heap} (T : Tx K mg) (c0 : SaysM ex dfs K) : Df P w K mg base 1 "_law_well" ["_law_script", "_law_at_here"] (spP K [false,false] F_well) := by
  refine df_pure (N := ["_law_script", "_law_at_here", "_law_cell", "_law_bulk"]) (fd__law_well c0) T.g__law_well sc__law_well (fun _ _ _ _ _ _ us hl => match us, hl with | [_, _], _ => rfl) rfl (by decide) ?_
  intro cdv A outer s H E hr po c W hO tk hN nd ds Q δ hF hS
  have hsc : ∀ N q f, (FX P w K mg base N q (defScope s__law_well) f cdv A outer s H E).env.scope = defScope s__law_well := fun _ _ _ => rfl
  obtain ⟨ns, k, rfl, hk, hk2, q⟩ := hF
  obtain ⟨δ1, rfl, hS1⟩ := hS.v
  obtain ⟨δ2, rfl, hS2⟩ := hS1.v
  obtain rfl := hS2.n
  have ow : OwnN "return" := .mk
  show LW _ c W ⟨[some (.scr ns), some (.int k), none, none], []⟩ (fnNd Q) (_ :: _)
  have key : ∀ a z : Int, Wl 0 [.int a, .int (z % (10 ^ Int.toNat 31 + 33) * 89 + 53 * k + 29), .int 0] := fun a z => by
    have e31 : (10 : Int) ^ Int.toNat 31 = 10 ^ 31 := rfl
    rw [e31]
    have := Int.emod_nonneg z (show (10 ^ 31 + 33 : Int) ≠ 0 by decide)
    have := Int.emod_lt_of_pos z (show (0 : Int) < 10 ^ 31 + 33 by decide)
    exact ⟨_, _, _, rfl, by omega, by omega, by decide, by decide⟩
  have e31 : (10 : Int) ^ Int.toNat 31 = 10 ^ 31 := rfl
  fail "go"
  · rename_i h
    obtain ⟨z, _, _, hz⟩ := ints_at (l := ns) hk (by simpa using h)
    refine .mk .scr hz ?_
    fail "go"
    all_goals exact q _ (key _ _)
  all_goals exact q _ (key _ _)
local macro_rules | `(tactic| fail "side") => `(tactic| exact DL.powW_ok (by decide) (by decide) (by omega) (by omega))
set_option hygiene false in
local macro_rules | `(tactic| fail "e") => `(tactic| ((with_reducible show DL.EW _ _ _ _ _ _ (.BinOp (.Call _ _ _ _) .Pow _ _)); refine DL.ew_powW ?_))
def F_draw : List D → List D → (Rs → List D → Prop) → Prop := fun os ds P => ∃ T k : Int, Wl T os ∧ ds = [.int k] ∧ 0 < k ∧ k < 2 ^ 140 ∧ T < 2 ^ 190 ∧ ∀ os' d, Wl (T + 1) os' → 0 ≤ d → d < k → P (.ok (.int d)) os'
theorem sc__law_draw : FnScope ["_law_well_here", "_law_below", "_law_mixed", "_law_digit"] ["_law_well_here", "_law_below"] (defScope s__law_draw) := ⟨rfl, rfl, rfl, by decide +kernel, rfl, by decide +kernel, by decide +kernel⟩
theorem ok__law_draw {P : Program} {w : World} {K : PySem.W.Frag} {mg : Str → Option Value} {base : Heap} (T : Tx K mg) (c0 : SaysM ex dfs K) : Df P w K mg base 1 "_law_draw" ["_law_well_here", "_law_below"] (spM K F_draw) := by
  refine df_mut (N := ["_law_well_here", "_law_below", "_law_mixed", "_law_digit"]) (fd__law_draw c0) T.g__law_draw sc__law_draw (fun _ _ _ _ _ _ us hl => match us, hl with | [_, _], _ => rfl) (by decide) ?_ ?_
  rotate_left
  intro cdv A outer s H E hr po c W p hO tk hN nd os ds Q hF
  have hsc : ∀ N q f, (FX P w K mg base N q (defScope s__law_draw) f cdv A outer s H E).env.scope = defScope s__law_draw := fun _ _ _ => rfl
  obtain ⟨T0, k, ⟨a, b, t, rfl, hb0, hb1, ht0, ht1⟩, rfl, hk, hk2, hT, q⟩ := hF
  show LW _ c W ⟨[some (.ref p), some (.int k), none, none], [(p, [.int a, .int b, .int t])]⟩ (fnNdM p Q) (_ :: _)
  have e32 : (10 : Int) ^ Int.toNat 32 = 10 ^ 32 := rfl
  have e34 : (10 : Int) ^ Int.toNat 34 = 10 ^ 34 := rfl
  have hm := Int.emod_nonneg ((b + 70001 * (t + 1)) ^ Int.toNat 2) (show (10 ^ Int.toNat 32 + 49 : Int) ≠ 0 by decide)
  have hm2 := Int.emod_lt_of_pos ((b + 70001 * (t + 1)) ^ Int.toNat 2) (show (0 : Int) < 10 ^ Int.toNat 32 + 49 by decide)
  fail "go"
  case refine_1 => rintro os ds Q ⟨T0, k, _, rfl, _⟩; rfl
  all_goals exact q _ _ ⟨_, _, _, rfl, hb0, hb1, by omega, by omega⟩ (Int.emod_nonneg _ (by omega)) (Int.emod_lt_of_pos _ hk)

end L20

end
section

namespace L20
open PySem PySem.Spec PyProof.Rows L2 DL
set_option hygiene false in
local macro_rules | `(tactic| fail "call") => `(tactic| first
  | refine DL.ew_fnM (x := "_law_draw") ((ok__law_draw T c0).mono (by decide)) hr (by first | exact tk | exact DL.takes_wf | assumption) ?_)
def F_shape : List D → List D → (Rs → List D → Prop) → Prop := fun os ds P => ∃ T f : Int, Wl T os ∧ ds = [.int f] ∧ 0 ≤ f ∧ f < 2 ^ 139 ∧ T < 2 ^ 180 ∧ ∀ os' x y z, Wl (T + 3) os' → 0 ≤ x → x < 4 → 0 ≤ y → y ≤ f → 0 ≤ z → z < 60 → P (.ok (.tup [.int x, .int y, .int z])) os'
theorem Wl.mono {T T' : Int} {os : List D} (h : Wl T os) (hT : T ≤ T') : Wl T' os := by
  obtain ⟨a, b, t, e, h1, h2, h3, h4⟩ := h
  exact ⟨a, b, t, e, h1, h2, h3, by omega⟩
theorem sc__law_shape : FnScope ["_law_well_here", "_law_far"] ["_law_well_here", "_law_far"] (defScope s__law_shape) := ⟨rfl, rfl, rfl, by decide +kernel, rfl, by decide +kernel, by decide +kernel⟩
theorem ok__law_shape {P : Program} {w : World} {K : PySem.W.Frag} {mg : Str → Option Value} {base : Heap} (T : Tx K mg) (c0 : SaysM ex dfs K) : Df P w K mg base 2 "_law_shape" ["_law_well_here", "_law_far"] (spM K F_shape) := by
  refine df_mut (N := ["_law_well_here", "_law_far"]) (fd__law_shape c0) T.g__law_shape sc__law_shape (fun _ _ _ _ _ _ us hl => match us, hl with | [_, _], _ => rfl) (by decide) ?_ ?_
  rotate_left
  intro cdv A outer s H E hr po c W p hO tk hN nd os ds Q hF
  have hsc : ∀ N q f, (FX P w K mg base N q (defScope s__law_shape) f cdv A outer s H E).env.scope = defScope s__law_shape := fun _ _ _ => rfl
  obtain ⟨T0, f0, hw, rfl, hf0, hf1, hT, q⟩ := hF
  show LW _ c W ⟨[some (.ref p), some (.int f0)], [(p, os)]⟩ (fnNdM p Q) (_ :: _)
  fail "go"
  case refine_1 => rintro os ds Q ⟨T0, f0, _, rfl, _⟩; rfl
  refine ⟨T0, 4, hw, rfl, by decide, by decide, by omega, fun os1 x hw1 hx0 hx1 => ?_⟩
  fail "go"
  refine ⟨T0 + 1, f0 + 1, hw1, rfl, by omega, by omega, by omega, fun os2 y hw2 hy0 hy1 => ?_⟩
  fail "go"
  refine ⟨T0 + 1 + 1, 60, hw2, rfl, by decide, by decide, by omega, fun os3 z hw3 hz0 hz1 => ?_⟩
  fail "go"
  exact q _ _ _ _ (hw3.mono (by omega)) hx0 hx1 hy0 (by omega) hz0 hz1
def F_line : List D → (Rs → Prop) → Prop := fun ds P => ∃ x y z Q r : Int, ds = [.tup [.int x, .int y, .int z], .int Q, .int r] ∧ 0 ≤ x ∧ x < 4 ∧ 0 ≤ y ∧ y ≤ 10 ^ 6 ∧ 0 ≤ z ∧ z < 60 ∧ 0 < Q ∧ Q ≤ 100 ∧ 0 ≤ r ∧ r < Q ∧ ∀ a b : Int, 0 ≤ a → a ≤ Q → -(y + 1) ≤ b → b ≤ r + y → P (.ok (.tup [.int a, .int b]))
theorem sc__law_line : FnScope ["_law_shape_here", "_law_cycle", "_law_rest", "_law_share"] ["_law_shape_here", "_law_cycle", "_law_rest"] (defScope s__law_line) := ⟨rfl, rfl, rfl, by decide +kernel, rfl, by decide +kernel, by decide +kernel⟩
theorem ok__law_line {P : Program} {w : World} {K : PySem.W.Frag} {mg : Str → Option Value} {base : Heap} (T : Tx K mg) (c0 : SaysM ex dfs K) : Df P w K mg base 1 "_law_line" ["_law_shape_here", "_law_cycle", "_law_rest"] (spP K [false,false,false] F_line) := by
  refine df_pure (N := ["_law_shape_here", "_law_cycle", "_law_rest", "_law_share"]) (fd__law_line c0) T.g__law_line sc__law_line (fun _ _ _ _ _ _ us hl => match us, hl with | [_, _, _], _ => rfl) rfl (by decide) ?_
  intro cdv A outer s H E hr po c W hO tk hN nd ds Q δ hF hS
  have hsc : ∀ N q f, (FX P w K mg base N q (defScope s__law_line) f cdv A outer s H E).env.scope = defScope s__law_line := fun _ _ _ => rfl
  obtain ⟨x, y, z, Q0, r, rfl, hx0, hx1, hy0, hy1, hz0, hz1, hQ0, hQ1, hr0, hr1, q⟩ := hF
  obtain ⟨δ1, rfl, hS1⟩ := hS.v
  obtain ⟨δ2, rfl, hS2⟩ := hS1.v
  obtain ⟨δ3, rfl, hS3⟩ := hS2.v
  obtain rfl := hS3.n
  show LW _ c W ⟨[some (.tup [.int x, .int y, .int z]), some (.int Q0), some (.int r), none], []⟩ (fnNd Q) (_ :: _)
  have h0 := Int.emod_nonneg z (show Q0 + 1 ≠ 0 by omega)
  have h1 := Int.emod_lt_of_pos z (show 0 < Q0 + 1 by omega)
  have h2 : 0 ≤ z % (Q0 + 1) * r ∧ z % (Q0 + 1) * r ≤ 100 * 100 := ⟨Int.mul_nonneg h0 hr0, Int.mul_le_mul (by omega) (by omega) hr0 (by decide)⟩
  have h3 := Int.ediv_nonneg h2.1 (show 0 ≤ Q0 by omega)
  have h4 : z % (Q0 + 1) * r / Q0 ≤ r := Int.ediv_le_of_le_mul (by omega) (by rw [Int.mul_comm r]; exact Int.mul_le_mul_of_nonneg_right (by omega) hr0)
  fail "go"
  · exact q _ _ (by omega) (by omega) (by omega) (by omega)
  · exact q _ _ (by omega) (by omega) (by omega) (by omega)
  · exact q _ _ (by omega) (by omega) (by omega) (by omega)
set_option hygiene false in
local macro_rules | `(tactic| fail "call") => `(tactic| first
  | refine DL.ew_fnM (x := "_law_draw") ((ok__law_draw T c0).mono (by decide)) hr (by first | exact tk | exact DL.takes_wf | assumption) ?_)
def F_many : List D → List D → (Rs → List D → Prop) → Prop := fun os ds P => ∃ T : Int, Wl T os ∧ ds = [] ∧ T < 2 ^ 180 ∧ ∀ (os' : List D) (m : Nat), Wl (T + 1) os' → 0 < m → m ≤ 12 → m ∣ 24 → P (.ok (.int (m : Int))) os'
end L20

end
section

namespace L20
open PySem PySem.Spec PyProof.Rows L2 DL
structure RG (Q L r : Int) (s p : Int) (a g z : Int × Int) : Prop where
  z1 : 0 ≤ z.1
  z0 : 0 ≤ z.1 * ((L - r + Q - 1) / Q) + z.2
  a1 : 0 ≤ a.1
  a0 : 0 ≤ a.1 * ((L - r + Q - 1) / Q) + a.2
  e1 : a.1 + s * z.1 ≤ Q
  e0 : a.1 * ((L - r + Q - 1) / Q) + a.2 + s * (z.1 * ((L - r + Q - 1) / Q) + z.2 - 1) ≤ Q * ((L - r + Q - 1) / Q) + r - 1
  up : 0 < p → 0 ≤ g.1 ∧ 0 ≤ g.1 * ((L - r + Q - 1) / Q) + g.2 ∧ g.1 + p * z.1 ≤ Q ∧ g.1 * ((L - r + Q - 1) / Q) + g.2 + p * (z.1 * ((L - r + Q - 1) / Q) + z.2 - 1) ≤ Q * ((L - r + Q - 1) / Q) + r - 1
  dn : p < 0 → 0 ≤ g.1 + p * z.1 ∧ 0 ≤ g.1 * ((L - r + Q - 1) / Q) + g.2 + p * (z.1 * ((L - r + Q - 1) / Q) + z.2 - 1) ∧ g.1 ≤ Q ∧ g.1 * ((L - r + Q - 1) / Q) + g.2 ≤ Q * ((L - r + Q - 1) / Q) + r - 1
theorem sz_ok {Q L r s p a b e d k v x : Int} (ek : k = (L - r + Q - 1) / Q) (u0 : 0 ≤ a * k + b) (u1 : a * k + b < Q * k + r) (d0 : 0 ≤ e * k + d) (d1 : e * k + d < Q * k + r) (a0 : 0 ≤ a) (e0 : 0 ≤ e) (e1 : e ≤ Q)
    (hs : s = 1 ∨ s = 2) (hp : p = 1 ∨ p = 2 ∨ p = -1 ∨ p = -2) (x0 : 0 ≤ x) (v0 : 0 ≤ v) (x1 : x ≤ (Q - a) / s) (v1 : v ≤ (Q * k + r - 1 - (a * k + b)) / s + 1)
    (hu : 0 < p → x ≤ (Q - e) / p ∧ v ≤ (Q * k + r - 1 - (e * k + d)) / p + 1) (hd : ∀ m, m = -p → 0 < m → x ≤ e / m ∧ v ≤ (e * k + d) / m + 1) : RG Q L r s p (a, b) (e, d) (x, v - x * k) := by
  have es : ∀ t c : Int, t ≤ c / s → s * t ≤ c := fun t c h => by
    obtain rfl | rfl := hs <;> omega
  have x2 := es _ _ x1
  have v2 := es (v - 1) (Q * k + r - 1 - (a * k + b)) (by omega)
  refine ⟨x0, ?_, a0, ?_, ?_, ?_, fun h => ?_, fun h => ?_⟩
  all_goals dsimp only
  all_goals try rw [← ek]
  · omega
  · omega
  · omega
  · rw [show x * k + (v - x * k) - 1 = v - 1 by omega]
    omega
  · obtain ⟨h1, h2⟩ := hu h
    have ep : ∀ t c : Int, t ≤ c / p → p * t ≤ c := fun t c h => by
      obtain rfl | rfl | rfl | rfl := hp <;> omega
    have x3 := ep _ _ h1
    have v3 := ep (v - 1) (Q * k + r - 1 - (e * k + d)) (by omega)
    rw [show x * k + (v - x * k) - 1 = v - 1 by omega]
    omega
  · obtain ⟨m, em⟩ : ∃ m, m = -p := ⟨_, rfl⟩
    obtain ⟨h1, h2⟩ := hd m em (by omega)
    have ep : ∀ t c : Int, t ≤ c / m → -c ≤ p * t := fun t c h => by
      obtain rfl | rfl | rfl | rfl := hp
      · omega
      · omega
      · obtain rfl : m = 1 := by omega
        omega
      · obtain rfl : m = 2 := by omega
        omega
    have x3 := ep _ _ h1
    have v3 := ep (v - 1) (e * k + d) (by omega)
    rw [show x * k + (v - x * k) - 1 = v - 1 by omega]
    omega
theorem k_bd {L r Q k : Int} (ek : k = (L - r + Q - 1) / Q) (h0 : 0 < Q) (h1 : Q ≤ 100) (h2 : 0 ≤ r) (h3 : r < Q) (h4 : 1 ≤ L) (h5 : L ≤ 10 ^ 6) : 0 ≤ k ∧ k ≤ 2 * 10 ^ 6 := by
  subst ek
  have a := Int.ediv_nonneg (show 0 ≤ L - r + Q - 1 by omega) (show 0 ≤ Q by omega)
  have b := Int.ediv_le_self Q (show 0 ≤ L - r + Q - 1 by omega)
  omega
theorem ak_bd {a k Q : Int} (a0 : 0 ≤ a) (a1 : a ≤ Q) (h1 : Q ≤ 100) (k0 : 0 ≤ k) (k1 : k ≤ 2 * 10 ^ 6) : 0 ≤ a * k ∧ a * k ≤ 100 * (2 * 10 ^ 6) := ⟨Int.mul_nonneg a0 k0, Int.mul_le_mul (by omega) k1 k0 (by decide)⟩
set_option hygiene false in
local macro_rules | `(tactic| fail "call") => `(tactic| first
  | refine DL.ew_fnM (x := "_law_draw") ((ok__law_draw T c0).mono (by decide)) hr (by first | exact tk | exact DL.takes_wf | assumption) ?_)
set_option hygiene false in
local macro_rules | `(tactic| fail "s") => `(tactic| ((with_reducible show DL.SW _ _ _ _ _ (.Assign [.Tuple [.Tuple [.Name _ _, .Name _ _] _ _, .Tuple [.Name _ _, .Name _ _] _ _] _ _] _ _)); refine DL.asgPP hN nd (by fail "ix") (by fail "ix") (by fail "ix") (by fail "ix") ?_))
set_option hygiene false in
local macro_rules | `(tactic| fail "s") => `(tactic| ((with_reducible show DL.SW _ _ _ _ _ (.Assign [.Tuple [.Name _ _, .Name _ _, .Name _ _] _ _] (.Tuple [_, _, _] _ _) _)); refine DL.parN3 (by rfl) hN nd (by fail "ix") (by fail "ix") (by fail "ix") ?_))
local macro_rules | `(tactic| fail "x") => `(tactic| ((with_reducible apply Exists.intro); (with_reducible apply Exists.intro); (with_reducible apply Exists.intro); (with_reducible apply And.intro); fail "pt"; (with_reducible apply And.intro); fail "pt"; (with_reducible apply And.intro); fail "pt"; dsimp only))
def F_sline : List D → List D → (Rs → List D → Prop) → Prop := fun os ds P => ∃ T a b e d s p Q r L : Int, Wl T os ∧ ds = [.tup [.tup [.int a, .int b], .tup [.int e, .int d]], .tup [.int s, .int p], .int Q, .int r, .int L] ∧ T < 2 ^ 180 ∧ 0 ≤ a ∧ a ≤ Q ∧ -(10 ^ 7) ≤ b ∧ b ≤ 10 ^ 7 ∧ 0 ≤ e ∧ e ≤ Q ∧ -(10 ^ 7) ≤ d ∧ d ≤ 10 ^ 7 ∧ (s = 1 ∨ s = 2) ∧ (p = 1 ∨ p = 2 ∨ p = -1 ∨ p = -2) ∧ 0 < Q ∧ Q ≤ 100 ∧ 0 ≤ r ∧ r < Q ∧ 1 ≤ L ∧ L ≤ 10 ^ 6 ∧
  ∀ (os' : List D) (x y : Int), Wl (T + 4) os' → -(10 ^ 12) ≤ x → x ≤ 10 ^ 12 → -(10 ^ 12) ≤ y → y ≤ 10 ^ 12 → (RG Q L r s p (a, b) (e, d) (x, y) ∨ (x = 0 ∧ y = 0)) → P (.ok (.tup [.int x, .int y])) os'
theorem sc__law_size_line : FnScope ["_law_well_here", "_law_ends", "_law_distances", "_law_cycle", "_law_rest", "_law_least", "_law_k", "_law_slope", "_law_room", "_law_step", "_law_pace", "_law_n", "_law_up", "_law_down", "_law_a", "_law_b", "_law_c", "_law_d"] ["_law_well_here", "_law_ends", "_law_distances", "_law_cycle", "_law_rest", "_law_least"] (defScope s__law_size_line) := ⟨rfl, rfl, rfl, by decide +kernel, rfl, by decide +kernel, by decide +kernel⟩
theorem ok__law_size_line {P : Program} {w : World} {K : PySem.W.Frag} {mg : Str → Option Value} {base : Heap} (T : Tx K mg) (c0 : SaysM ex dfs K) : Df P w K mg base 2 "_law_size_line" ["_law_well_here", "_law_ends", "_law_distances", "_law_cycle", "_law_rest", "_law_least"] (spM K F_sline) := by
  refine df_mut (N := ["_law_well_here", "_law_ends", "_law_distances", "_law_cycle", "_law_rest", "_law_least", "_law_k", "_law_slope", "_law_room", "_law_step", "_law_pace", "_law_n", "_law_up", "_law_down", "_law_a", "_law_b", "_law_c", "_law_d"]) (fd__law_size_line c0) T.g__law_size_line sc__law_size_line (fun _ _ _ _ _ _ us hl => match us, hl with | [_, _, _, _, _, _], _ => rfl) (by decide) ?_ ?_
  rotate_left
  intro cdv A outer s H E hr po c W p hO tk hN nd os ds Q hF
  have hsc : ∀ N q f, (FX P w K mg base N q (defScope s__law_size_line) f cdv A outer s H E).env.scope = defScope s__law_size_line := fun _ _ _ => rfl
  obtain ⟨T0, a, b, e, d, s9, p9, Q0, r, L, hw, rfl, hT, a0, a1, b0, b1, e0, e1, d0, d1, hs, hp, hQ0, hQ1, hr0, hr1, hL0, hL1, q⟩ := hF
  show LW _ c W ⟨[some (.ref p), some (.tup [.tup [.int a, .int b], .tup [.int e, .int d]]), some (.tup [.int s9, .int p9]), some (.int Q0), some (.int r), some (.int L), none, none, none, none, none, none, none, none, none, none, none, none], [(p, os)]⟩ (fnNdM p Q) (_ :: _)
  obtain ⟨k, ek⟩ : ∃ k, k = (L - r + Q0 - 1) / Q0 := ⟨_, rfl⟩
  have hk := k_bd ek hQ0 hQ1 hr0 hr1 hL0 hL1
  have ha := ak_bd a0 a1 hQ1 hk.1 hk.2
  have he := ak_bd e0 e1 hQ1 hk.1 hk.2
  have hq := ak_bd (show 0 ≤ Q0 by omega) (Int.le_refl Q0) hQ1 hk.1 hk.2
  rw [ek] at ha he hq
  fail "go"
  case refine_1 => rintro os ds Q ⟨T0, a, b, e, d, s9, p9, Q0, r, L, _, rfl, _⟩; rfl
  all_goals try exact q _ _ _ (hw.mono (by omega)) (by decide) (by decide) (by decide) (by decide) (.inr ⟨rfl, rfl⟩)
  all_goals have ek4 : k = Int.ediv (L - r + Q0 - 1) Q0 := ek
  all_goals rw [← ek] at *
  · have g1 := Int.ediv_nonneg (show 0 ≤ Q0 - a by omega) (show 0 ≤ s9 by omega)
    have g2 := Int.ediv_nonneg (show 0 ≤ Q0 - e by omega) (show 0 ≤ p9 by omega)
    have g3 := Int.ediv_nonneg (show 0 ≤ Q0 * k + r - 1 - (a * k + b) by omega) (show 0 ≤ s9 by omega)
    have g4 := Int.ediv_nonneg (show 0 ≤ Q0 * k + r - 1 - (e * k + d) by omega) (show 0 ≤ p9 by omega)
    have g5 := Int.ediv_le_self s9 (show 0 ≤ Q0 - a by omega)
    have g6 := Int.ediv_le_self s9 (show 0 ≤ Q0 * k + r - 1 - (a * k + b) by omega)
    obtain ⟨sl, esl, f1, f2, f3⟩ : ∃ sl, sl = (if (Q0 - e) / p9 < (Q0 - a) / s9 then (Q0 - e) / p9 else (Q0 - a) / s9) ∧ 0 ≤ sl ∧ sl ≤ (Q0 - a) / s9 ∧ sl ≤ (Q0 - e) / p9 := ⟨_, rfl, by split <;> omega, by split <;> omega, by split <;> omega⟩
    obtain ⟨rm, erm, f4, f5, f6⟩ : ∃ rm, rm = (if (Q0 * k + r - 1 - (e * k + d)) / p9 + 1 < (Q0 * k + r - 1 - (a * k + b)) / s9 + 1 then (Q0 * k + r - 1 - (e * k + d)) / p9 + 1 else (Q0 * k + r - 1 - (a * k + b)) / s9 + 1) ∧ 0 ≤ rm ∧ rm ≤ (Q0 * k + r - 1 - (a * k + b)) / s9 + 1 ∧ rm ≤ (Q0 * k + r - 1 - (e * k + d)) / p9 + 1 := ⟨_, rfl, by split <;> omega, by split <;> omega, by split <;> omega⟩
    rw [← esl, ← erm]
    clear esl erm
    have leaf : ∀ (os' : List D) (x v : Int), Wl (T0 + 4) os' → 0 ≤ x → x ≤ sl → 0 ≤ v → v ≤ rm → Q (Rs.ok (D.tup [D.int x, D.int (v - x * k)])) os' := fun os' x v hw' x0 x1 v0 v1 => by
      have xb := ak_bd x0 (show x ≤ Q0 by omega) hQ1 hk.1 hk.2
      exact q _ _ _ hw' (by omega) (by omega) (by omega) (by omega) (.inl (sz_ok (show k = (L - r + Q0 - 1) / Q0 from ek4) (by omega) (by omega) (by omega) (by omega) a0 e0 e1 hs hp x0 v0 (by omega) (by omega) (fun _ => ⟨by omega, by omega⟩) (fun m hm hm0 => absurd hm0 (by omega))))
    refine ⟨T0, 3, hw, rfl, by decide, by decide, by omega, fun os1 t hw1 ht0 ht1 => ?_⟩
    fail "go"
    · refine ⟨T0 + 1, sl + 1, hw1, rfl, by omega, by omega, by omega, fun os2 x hw2 hx0 hx1 => ?_⟩
      fail "go"
      refine ⟨T0 + 1 + 1, 2, hw2, rfl, by decide, by decide, by omega, fun os3 u hw3 hu0 hu1 => ?_⟩
      fail "go"
      · refine ⟨T0 + 1 + 1 + 1, rm + 1, hw3, rfl, by omega, by omega, by omega, fun os4 v hw4 hv0 hv1 => ?_⟩
        fail "go"
        exact leaf _ _ _ (hw4.mono (by omega)) hx0 (by omega) hv0 (by omega)
      · exact leaf _ _ _ (hw3.mono (by omega)) hx0 (by omega) f4 (Int.le_refl _)
    · refine ⟨T0 + 1, 2, hw1, rfl, by decide, by decide, by omega, fun os3 u hw3 hu0 hu1 => ?_⟩
      fail "go"
      · refine ⟨T0 + 1 + 1, rm + 1, hw3, rfl, by omega, by omega, by omega, fun os4 v hw4 hv0 hv1 => ?_⟩
        fail "go"
        exact leaf _ _ _ (hw4.mono (by omega)) f1 (Int.le_refl _) hv0 (by omega)
      · exact leaf _ _ _ (hw3.mono (by omega)) f1 (Int.le_refl _) f4 (Int.le_refl _)
  · have g1 := Int.ediv_nonneg (show 0 ≤ Q0 - a by omega) (show 0 ≤ s9 by omega)
    have g2 := Int.ediv_nonneg e0 (show 0 ≤ -p9 by omega)
    have g3 := Int.ediv_nonneg (show 0 ≤ Q0 * k + r - 1 - (a * k + b) by omega) (show 0 ≤ s9 by omega)
    have g4 := Int.ediv_nonneg (show 0 ≤ e * k + d by omega) (show 0 ≤ -p9 by omega)
    have g5 := Int.ediv_le_self s9 (show 0 ≤ Q0 - a by omega)
    have g6 := Int.ediv_le_self s9 (show 0 ≤ Q0 * k + r - 1 - (a * k + b) by omega)
    obtain ⟨sl, esl, f1, f2, f3⟩ : ∃ sl, sl = (if e / -p9 < (Q0 - a) / s9 then e / -p9 else (Q0 - a) / s9) ∧ 0 ≤ sl ∧ sl ≤ (Q0 - a) / s9 ∧ sl ≤ e / -p9 := ⟨_, rfl, by split <;> omega, by split <;> omega, by split <;> omega⟩
    obtain ⟨rm, erm, f4, f5, f6⟩ : ∃ rm, rm = (if (e * k + d) / -p9 + 1 < (Q0 * k + r - 1 - (a * k + b)) / s9 + 1 then (e * k + d) / -p9 + 1 else (Q0 * k + r - 1 - (a * k + b)) / s9 + 1) ∧ 0 ≤ rm ∧ rm ≤ (Q0 * k + r - 1 - (a * k + b)) / s9 + 1 ∧ rm ≤ (e * k + d) / -p9 + 1 := ⟨_, rfl, by split <;> omega, by split <;> omega, by split <;> omega⟩
    rw [← esl, ← erm]
    clear esl erm
    have leaf : ∀ (os' : List D) (x v : Int), Wl (T0 + 4) os' → 0 ≤ x → x ≤ sl → 0 ≤ v → v ≤ rm → Q (Rs.ok (D.tup [D.int x, D.int (v - x * k)])) os' := fun os' x v hw' x0 x1 v0 v1 => by
      have xb := ak_bd x0 (show x ≤ Q0 by omega) hQ1 hk.1 hk.2
      exact q _ _ _ hw' (by omega) (by omega) (by omega) (by omega) (.inl (sz_ok (show k = (L - r + Q0 - 1) / Q0 from ek4) (by omega) (by omega) (by omega) (by omega) a0 e0 e1 hs hp x0 v0 (by omega) (by omega) (fun h => absurd h (by omega)) (fun m hm hm0 => by rw [hm]; exact ⟨by omega, by omega⟩)))
    refine ⟨T0, 3, hw, rfl, by decide, by decide, by omega, fun os1 t hw1 ht0 ht1 => ?_⟩
    fail "go"
    · refine ⟨T0 + 1, sl + 1, hw1, rfl, by omega, by omega, by omega, fun os2 x hw2 hx0 hx1 => ?_⟩
      fail "go"
      refine ⟨T0 + 1 + 1, 2, hw2, rfl, by decide, by decide, by omega, fun os3 u hw3 hu0 hu1 => ?_⟩
      fail "go"
      · refine ⟨T0 + 1 + 1 + 1, rm + 1, hw3, rfl, by omega, by omega, by omega, fun os4 v hw4 hv0 hv1 => ?_⟩
        fail "go"
        exact leaf _ _ _ (hw4.mono (by omega)) hx0 (by omega) hv0 (by omega)
      · exact leaf _ _ _ (hw3.mono (by omega)) hx0 (by omega) f4 (Int.le_refl _)
    · refine ⟨T0 + 1, 2, hw1, rfl, by decide, by decide, by omega, fun os3 u hw3 hu0 hu1 => ?_⟩
      fail "go"
      · refine ⟨T0 + 1 + 1, rm + 1, hw3, rfl, by omega, by omega, by omega, fun os4 v hw4 hv0 hv1 => ?_⟩
        fail "go"
        exact leaf _ _ _ (hw4.mono (by omega)) f1 (Int.le_refl _) hv0 (by omega)
      · exact leaf _ _ _ (hw3.mono (by omega)) f1 (Int.le_refl _) f4 (Int.le_refl _)

end L20

end
section

namespace L20
open PySem PySem.Spec PyProof.Rows L2 DL
def smW (X : List (Int × Int)) : Prop := ∀ q ∈ X, -(10 ^ 12) ≤ q.1 ∧ q.1 ≤ 10 ^ 12 ∧ -(10 ^ 12) ≤ q.2 ∧ q.2 ≤ 10 ^ 12
theorem smW.snoc {X : List (Int × Int)} {a b : Int} (h : smW X) (h1 : -(10 ^ 12) ≤ a) (h2 : a ≤ 10 ^ 12) (h3 : -(10 ^ 12) ≤ b) (h4 : b ≤ 10 ^ 12) : smW (X ++ [(a, b)]) := fun q hq => by
  rcases List.mem_append.mp hq with hq | hq
  · exact h q hq
  · rw [List.mem_singleton.mp hq]
    exact ⟨h1, h2, h3, h4⟩
def EB (Q : Nat) (L : Int) (r : Nat) (q : Int × Int) : Prop := 0 ≤ q.1 ∧ q.1 ≤ Q ∧ -L ≤ q.2 ∧ q.2 < r + L
structure WL (Q : Nat) (L : Int) (S : List (Int × Int)) (s : Int) (G : List (Int × Int)) (p : Int) (Z : List (Int × Int)) : Prop where
  hs : s = 1 ∨ s = 2
  hp : p = 1 ∨ p = 2 ∨ p = -1 ∨ p = -2
  lS : S.length = Q
  lG : G.length = Q
  lZ : Z.length = Q
  bS : smW S
  bG : smW G
  bZ : smW Z
  row : ∀ r : Nat, r < Q → RG Q L r s p (S.getD r (0, 0)) (G.getD r (0, 0)) (Z.getD r (0, 0)) ∨ Z.getD r (0, 0) = (0, 0)
  ends : ∀ r : Nat, r < Q → EB Q L r (S.getD r (0, 0)) ∧ EB Q L r (G.getD r (0, 0))
structure Menu (St Pc : List Int) : Prop where
  s0 : 0 < St.length
  s1 : St.length ≤ 100
  s2 : ∀ s ∈ St, s = 1 ∨ s = 2
  p0 : 0 < Pc.length
  p1 : Pc.length ≤ 100
  p2 : ∀ p ∈ Pc, p = 1 ∨ p = 2 ∨ p = -1 ∨ p = -2
abbrev menD (St Pc : List Int) : D := .tup [.tup (St.map D.int), .tup (Pc.map D.int)]
def Shp (f : Int) (d : D) : Prop := ∃ x y z : Int, d = .tup [.int x, .int y, .int z] ∧ 0 ≤ x ∧ x < 4 ∧ 0 ≤ y ∧ y ≤ f ∧ 0 ≤ z ∧ z < 60
theorem getD_snoc {X : List (Int × Int)} {q : Int × Int} {i r : Nat} (hX : X.length = i) (h : r < i + 1) : (X ++ [q]).getD r (0, 0) = if r < i then X.getD r (0, 0) else q := by
  split
  · rw [List.getD_eq_getElem?_getD, List.getElem?_append_left (by omega), ← List.getD_eq_getElem?_getD]
  · obtain rfl : r = i := by omega
    rw [List.getD_eq_getElem?_getD, List.getElem?_append_right (by omega), hX, Nat.sub_self]
    rfl
set_option hygiene false in
local macro_rules | `(tactic| fail "call") => `(tactic| first
  | refine DL.ew_fnM (x := "_law_draw") ((ok__law_draw T c0).mono (by decide)) hr (by first | exact tk | exact DL.takes_wf | assumption) ?_
  | refine DL.ew_fnM (x := "_law_shape") ((ok__law_shape T c0).mono (by decide)) hr (by first | exact tk | exact DL.takes_wf | assumption) ?_
  | refine DL.ew_fn (x := "_law_line") ((ok__law_line T c0).mono (by decide)) hr (by first | exact tk | exact DL.takes_wf | assumption) ?_
  | refine DL.ew_fnM (x := "_law_size_line") ((ok__law_size_line T c0).mono (by decide)) hr (by first | exact tk | exact DL.takes_wf | assumption) ?_)
set_option hygiene false in
local macro_rules | `(tactic| fail "s") => `(tactic| ((with_reducible show DL.SW _ _ _ _ _ (.Assign [.Tuple [.Name _ _, .Name _ _, .Name _ _] _ _] (.Tuple [_, _, _] _ _) _)); refine DL.parN3 (by rfl) hN nd (by fail "ix") (by fail "ix") (by fail "ix") ?_))
local macro_rules | `(tactic| fail "x") => `(tactic| ((with_reducible apply Exists.intro); (with_reducible apply Exists.intro); (with_reducible apply Exists.intro); (with_reducible apply And.intro); fail "pt"; (with_reducible apply And.intro); fail "pt"; (with_reducible apply And.intro); fail "pt"; dsimp only))
local macro_rules | `(tactic| fail "e") => `(tactic| ((with_reducible show DL.EW _ _ _ _ _ _ (.List [] _)); refine DL.ew_lstO ?_))
abbrev glD (S : List (Int × Int)) (s : Int) (G : List (Int × Int)) (p : Int) (Z : List (Int × Int)) : D := .tup [.lst (S.map D.pr), .int s, .lst (G.map D.pr), .int p, .lst (Z.map D.pr)]
def F_lot : List D → List D → (Rs → List D → Prop) → Prop := fun os ds P => ∃ (T : Int) (Q : Nat) (L f : Int) (St Pc : List Int), Wl T os ∧ ds = [.int (Q : Int), .int L, .int f, menD St Pc] ∧ Menu St Pc ∧ T < 2 ^ 170 ∧ 0 < Q ∧ Q ≤ 100 ∧ 1 ≤ L ∧ L ≤ 10 ^ 6 ∧ 0 ≤ f ∧ f < L ∧ ∀ (os' : List D) (S G Z : List (Int × Int)) (s p : Int), Wl (T + 2000) os' → WL Q L S s G p Z → s ∈ St → p ∈ Pc → P (.ok (glD S s G p Z)) os'
theorem sc__law_lot : FnScope ["_law_well_here", "_law_cycle", "_law_least", "_law_far", "_law_menu", "_law_rest", "_law_step", "_law_pace", "_law_alike", "_law_shapes", "_law_starts", "_law_goals", "_law_sizes", "_law_ends"] ["_law_well_here", "_law_cycle", "_law_least", "_law_far", "_law_menu"] (defScope s__law_lot) := ⟨rfl, rfl, rfl, by decide +kernel, rfl, by decide +kernel, by decide +kernel⟩
theorem ok__law_lot {P : Program} {w : World} {K : PySem.W.Frag} {mg : Str → Option Value} {base : Heap} (T : Tx K mg) (c0 : SaysM ex dfs K) : Df P w K mg base 3 "_law_lot" ["_law_well_here", "_law_cycle", "_law_least", "_law_far", "_law_menu"] (spM K F_lot) := by
  refine df_mut (N := ["_law_well_here", "_law_cycle", "_law_least", "_law_far", "_law_menu", "_law_rest", "_law_step", "_law_pace", "_law_alike", "_law_shapes", "_law_starts", "_law_goals", "_law_sizes", "_law_ends"]) (fd__law_lot c0) T.g__law_lot sc__law_lot (fun _ _ _ _ _ _ us hl => match us, hl with | [_, _, _, _, _], _ => rfl) (by decide) ?_ ?_
  rotate_left
  intro cdv A outer s H E hr po c W p hO tk hN nd os ds Q hF
  have hsc : ∀ N q f, (FX P w K mg base N q (defScope s__law_lot) f cdv A outer s H E).env.scope = defScope s__law_lot := fun _ _ _ => rfl
  obtain ⟨T0, Q0, L, f, St, Pc, hw, rfl, hM, hT, hQ0, hQ1, hL0, hL1, hf0, hf1, q⟩ := hF
  show LW _ c W ⟨[some (.ref p), some (.int (Q0 : Int)), some (.int L), some (.int f), some (menD St Pc), none, none, none, none, none, none, none, none, none], [(p, os)]⟩ (fnNdM p Q) (_ :: _)
  have lSt : (St.map D.int).length = St.length := List.length_map ..
  have lPc : (Pc.map D.int).length = Pc.length := List.length_map ..
  fail "go"
  case refine_1 => rintro os ds Q ⟨T0, Q0, L, f, St, Pc, _, rfl, _⟩; rfl
  refine ⟨T0, _, hw, rfl, by have := hM.s0; omega, by have := hM.s1; omega, by omega, fun os1 v hw1 hv0 hv1 => ?_⟩
  obtain ⟨s9, _, hz1, hat1⟩ := ints_at (l := St) hv0 (by omega)
  have hms9 := List.mem_of_getElem? hz1
  have hs := hM.s2 s9 hms9
  fail "go"
  refine ⟨T0 + 1, _, hw1, rfl, by have := hM.p0; omega, by have := hM.p1; omega, by omega, fun os2 v2 hw2 hv20 hv21 => ?_⟩
  obtain ⟨p9, _, hz2, hat2⟩ := ints_at (l := Pc) hv20 (by omega)
  have hmp9 := List.mem_of_getElem? hz2
  have hp := hM.p2 p9 hmp9
  fail "go"
  refine ⟨T0 + 1 + 1, 3, hw2, rfl, by decide, by decide, by omega, fun os3 t hw3 ht0 ht1 => ?_⟩
  fail "go"
  refine ⟨T0 + 1 + 1 + 1, f, hw3, rfl, hf0, by omega, by omega, fun os4 x y z hw4 hx0 hx1 hy0 hy1 hz0 hz1 => ?_⟩
  fail "go"
  refine ⟨T0 + 1 + 1 + 1 + 3, f, hw4, rfl, hf0, by omega, by omega, fun os5 x2 y2 z2 hw5 hx20 hx21 hy20 hy21 hz20 hz21 => ?_⟩
  fail "go"
  rename_i pa na pb nb pd npd
  refine ⟨fun i s' => ∃ (S G Z : List (Int × Int)) (os' : List D) (sh1 sh2 : D) (o5 o13 : Option D), s' = ⟨[some (.ref p), some (.int (Q0 : Int)), some (.int L), some (.int f), some (menD St Pc), o5, some (.int s9), some (.int p9), some (.bl (decide (0 < t))), some (.tup [sh1, sh2]), some (.ref pa), some (.ref pb), some (.ref pd), o13], [(pd, Z.map D.pr), (pb, G.map D.pr), (pa, S.map D.pr), (p, os')]⟩ ∧ Wl (T0 + 9 + 10 * (i : Int)) os' ∧ Shp f sh1 ∧ Shp f sh2 ∧ S.length = i ∧ G.length = i ∧ Z.length = i ∧ smW S ∧ smW G ∧ smW Z ∧
    (∀ r : Nat, r < i → RG Q0 L r s9 p9 (S.getD r (0, 0)) (G.getD r (0, 0)) (Z.getD r (0, 0)) ∨ Z.getD r (0, 0) = (0, 0)) ∧ ∀ r : Nat, r < i → EB Q0 L r (S.getD r (0, 0)) ∧ EB Q0 L r (G.getD r (0, 0)),
    ⟨[], [], [], os5, _, _, none, none, rfl, hw5.mono (by omega), ⟨x, y, z, rfl, hx0, hx1, hy0, hy1, hz0, hz1⟩, ⟨x2, y2, z2, rfl, hx20, hx21, hy20, hy21, hz20, hz21⟩, rfl, rfl, rfl, (fun _ h => by cases h), (fun _ h => by cases h), (fun _ h => by cases h), (fun r h => by omega), fun r h => by omega⟩, fun _ _ _ => trivial, ?_, ?_⟩
  · clear hx0 hx1 hy0 hy1 hz0 hz1 hx20 hx21 hy20 hy21 hz20 hz21
    rintro i d s' hd ⟨S, G, Z, os', sh1, sh2, o5, o13, rfl, hw', hsh1, hsh2, lS, lG, lZ, bS, bG, bZ, hrow, hend⟩
    obtain ⟨rfl, hi⟩ := rgD_of hd
    rw [Int.zero_add]
    have hi : i < Q0 := by omega
    apply DL.GN.mk ?pt ?kk
    case pt => fail "pt"
    refine lw_cut (fun s' => ∃ (os' : List D) (sh1 sh2 : D), s' = ⟨[some (.ref p), some (.int (Q0 : Int)), some (.int L), some (.int f), some (menD St Pc), some (.int (i : Int)), some (.int s9), some (.int p9), some (.bl (decide (0 < t))), some (.tup [sh1, sh2]), some (.ref pa), some (.ref pb), some (.ref pd), o13], [(pd, Z.map D.pr), (pb, G.map D.pr), (pa, S.map D.pr), (p, os')]⟩ ∧ Wl (T0 + 9 + 10 * (i : Int) + 6) os' ∧ Shp f sh1 ∧ Shp f sh2) ?_ ?_
    · refine sw_if ?_
      fail "go"
      · refine ⟨T0 + 9 + 10 * (i : Int), f, hw', rfl, hf0, by omega, by omega, fun os4 x y z hw4 hx0 hx1 hy0 hy1 hz0 hz1 => ?_⟩
        fail "go"
        refine ⟨T0 + 9 + 10 * (i : Int) + 3, f, hw4, rfl, hf0, by omega, by omega, fun os5 x2 y2 z2 hw5 hx20 hx21 hy20 hy21 hz20 hz21 => ?_⟩
        fail "go"
        exact ⟨os5, _, _, rfl, hw5.mono (by omega), ⟨x, y, z, rfl, hx0, hx1, hy0, hy1, hz0, hz1⟩, ⟨x2, y2, z2, rfl, hx20, hx21, hy20, hy21, hz20, hz21⟩⟩
      · exact ⟨os', _, _, rfl, hw'.mono (by omega), hsh1, hsh2⟩
    clear hw' hsh1 hsh2
    rintro s' ⟨os', sh1, sh2, rfl, hw', ⟨x, y, z, rfl, hx0, hx1, hy0, hy1, hz0, hz1⟩, ⟨x2, y2, z2, rfl, hx20, hx21, hy20, hy21, hz20, hz21⟩⟩
    fail "go"
    refine ⟨x, y, z, (Q0 : Int), (i : Int), rfl, hx0, hx1, hy0, by omega, hz0, hz1, by omega, by omega, by omega, by omega, fun a b a0 a1 b0 b1 => ?_⟩
    fail "go"
    refine ⟨x2, y2, z2, (Q0 : Int), (i : Int), rfl, hx20, hx21, hy20, by omega, hz20, hz21, by omega, by omega, by omega, by omega, fun e d e0 e1 d0 d1 => ?_⟩
    fail "go"
    refine ⟨T0 + 9 + 10 * (i : Int) + 6, a, b, e, d, s9, p9, (Q0 : Int), (i : Int), L, hw', rfl, by omega, a0, a1, by omega, by omega, e0, e1, by omega, by omega, hs, hp, by omega, by omega, by omega, by omega, hL0, hL1, fun os7 u v hw7 hu0 hu1 hv0 hv1 hR => ?_⟩
    fail "go"
    have cat : ∀ (X : List (Int × Int)) (x y : Int), X.map D.pr ++ [D.tup [.int x, .int y]] = (X ++ [(x, y)]).map D.pr := fun X x y => by rw [List.map_append]; rfl
    rw [cat, cat, cat]
    refine ⟨_, _, _, os7, _, _, _, _, rfl, hw7.mono (by omega), ⟨x, y, z, rfl, hx0, hx1, hy0, hy1, hz0, hz1⟩, ⟨x2, y2, z2, rfl, hx20, hx21, hy20, hy21, hz20, hz21⟩, by rw [List.length_append, lS]; rfl, by rw [List.length_append, lG]; rfl, by rw [List.length_append, lZ]; rfl, bS.snoc (by omega) (by omega) (by omega) (by omega), bG.snoc (by omega) (by omega) (by omega) (by omega), bZ.snoc hu0 hu1 hv0 hv1, fun r hr => ?_, fun r hr => ?_⟩
    · rw [getD_snoc lS hr, getD_snoc lG hr, getD_snoc lZ hr]
      by_cases hri : r < i
      · rw [if_pos hri, if_pos hri, if_pos hri]
        exact hrow r hri
      · rw [if_neg hri, if_neg hri, if_neg hri]
        obtain rfl : r = i := by omega
        exact hR.imp id fun h => by rw [h.1, h.2]
    · rw [getD_snoc lS hr, getD_snoc lG hr]
      by_cases hri : r < i
      · rw [if_pos hri, if_pos hri]
        exact hend r hri
      · rw [if_neg hri, if_neg hri]
        obtain rfl : r = i := by omega
        unfold EB
        dsimp only
        omega
  · rintro s' ⟨S, G, Z, os', sh1, sh2, o5, o13, rfl, hw', hsh1, hsh2, lS, lG, lZ, bS, bG, bZ, hrow, hend⟩
    rw [rgD_len, Int.toNat_natCast] at lS lG lZ hrow hend hw'
    fail "go"
    exact q os' S G Z s9 p9 (hw'.mono (by omega)) ⟨hs, hp, lS, lG, lZ, bS, bG, bZ, hrow, hend⟩ hms9 hmp9

end L20

end
section

namespace L20.PL
open PySem PySem.Spec PyProof.Rows L2 DL
set_option hygiene false in
local macro_rules | `(tactic| fail "call") => `(tactic| first
  | refine DL.ew_fn (x := "is_integer") ((ok_is_integer T c0).mono (by decide)) hr (by first | exact tk | exact DL.takes_wf | assumption) ?_)
def F_ispl (K : PySem.W.Frag) : List D → (Rs → Prop) → Prop := fun ds P => ∃ (d : D) (rows : List (Int × Int)), ds = [d] ∧ asR K d rows ∧ P (.ok (.bl true))
theorem sc_is_place : FnScope ["value"] ["value"] (defScope s_is_place) := ⟨rfl, rfl, rfl, by decide +kernel, rfl, by decide +kernel, by decide +kernel⟩
theorem ok_is_place {P : Program} {w : World} {K : PySem.W.Frag} {mg : Str → Option Value} {base : Heap} (T : Tx K mg) (c0 : SaysM ex dfs K) : Df P w K mg base 2 "is_place" ["value"] (spP K [false] (F_ispl K)) := by
  refine df_pure (N := ["value"]) (fd_is_place c0) T.g_is_place sc_is_place (fun _ _ _ _ _ _ us hl => match us, hl with | [_], _ => rfl) rfl (by decide) ?_
  intro cdv A outer s H E hr po c W hO tk hN nd ds Q δ hF hS
  have hsc : ∀ N q f, (FX P w K mg base N q (defScope s_is_place) f cdv A outer s H E).env.scope = defScope s_is_place := fun _ _ _ => rfl
  obtain ⟨d, rows, rfl, hd, q⟩ := hF
  obtain ⟨δ1, rfl, hS1⟩ := hS.v
  obtain rfl := hS1.n
  show LW _ c W ⟨[some d], []⟩ (fnNd Q) (_ :: _)
  rcases hd with rfl | ⟨v, rfl, rfl⟩
  · fail "go"
    exact q
  · fail "go"
    refine ⟨v, rfl, ?_⟩
    fail "go"
    exact q
theorem setF_lt {f : Str} {d : D} : ∀ {fs : List (Str × D)} {n : Nat}, fs.length < n → (setF f d fs).length < n + 1
  | [], n, h => by
    show 1 < n + 1
    have : 0 < n := h
    omega
  | (g, x) :: r, n, h => by
    unfold setF
    have h' : r.length + 1 < n := h
    split
    · show r.length + 1 < n + 1
      omega
    · have := setF_lt (f := f) (d := d) (fs := r) (n := n - 1) (by omega)
      show (setF f d r).length + 1 < n + 1
      omega
local macro_rules | `(tactic| fail "nnn") => `(tactic| first | decide | exact setF_lt (n := 999) (by decide) | exact setF_lt (n := 999) (setF_lt (n := 998) (by decide)) | exact setF_lt (n := 999) (setF_lt (n := 998) (setF_lt (n := 997) (by decide))) | exact setF_lt (n := 999) (setF_lt (n := 998) (setF_lt (n := 997) (setF_lt (n := 996) (by decide)))) | exact setF_lt (n := 999) (setF_lt (n := 998) (setF_lt (n := 997) (setF_lt (n := 996) (setF_lt (n := 995) (by decide))))))
set_option hygiene false in
local macro_rules | `(tactic| fail "b") => `(tactic| (((with_reducible show DL.BW _ _ _ _ _ _ (.Compare _ [.NotIn] [.Name "PACES" _] _)); refine DL.bw_notinG (l := [1, 2, -1, -2]) T.g_PACES T.t_PACES ?_)))
set_option hygiene false in
local macro_rules | `(tactic| fail "b") => `(tactic| (((with_reducible show DL.BW _ _ _ _ _ _ (.Compare _ [.NotIn] [.Name "STEPS" _] _)); refine DL.bw_notinG (l := [1, 2]) T.g_STEPS T.t_STEPS ?_)))
set_option hygiene false in
local macro_rules | `(tactic| fail "e") => `(tactic| (((with_reducible show DL.EW _ _ _ _ _ _ (.Compare _ [.NotIn] [.Name "PACES" _] _)); refine DL.ew_notinG (l := [1, 2, -1, -2]) T.g_PACES T.t_PACES ?_)))
set_option hygiene false in
local macro_rules | `(tactic| fail "e") => `(tactic| (((with_reducible show DL.EW _ _ _ _ _ _ (.Compare _ [.NotIn] [.Name "STEPS" _] _)); refine DL.ew_notinG (l := [1, 2]) T.g_STEPS T.t_STEPS ?_)))
set_option hygiene false in
local macro_rules | `(tactic| fail "call") => `(tactic| first
  | refine DL.ew_fn (x := "is_integer") ((ok_is_integer T c0).mono (by decide)) hr (by first | exact tk | exact DL.takes_wf | assumption) ?_
  | refine DL.ew_fn (x := "is_place") ((ok_is_place T c0).mono (by decide)) hr (by first | exact tk | exact DL.takes_wf | assumption) ?_
  | refine DL.ew_fn (x := "as_place") ((ok_as_place T c0).mono (by decide)) hr (by first | exact tk | exact DL.takes_wf | assumption) ?_)
def F_lotini (K : PySem.W.Frag) : Ow → List D → (Rs → Ow → Prop) → Prop := fun o ds P => ∃ (a : Addr) (l : Lt) (d1 d2 d3 : D), o = ⟨[], [(a, He.ga K "Lot", [])]⟩ ∧ ds = [.ref a, d1, .int l.s, d2, .int l.p, d3] ∧ asR K d1 l.u ∧ asR K d2 l.g ∧ asR K d3 l.m ∧ Sp l ∧
  P (.ok .non) ⟨[], [(a, He.ga K "Lot", [("upper", plD K l.u), ("stride", .int l.s), ("lower", plD K l.g), ("lean", .int l.p), ("many", plD K l.m)])]⟩
theorem sc_Lot_init : FnScope ["self", "start", "step", "goal", "pace", "size"] ["self", "start", "step", "goal", "pace", "size"] (defScope s_Lot_init) := ⟨rfl, rfl, rfl, by decide +kernel, rfl, by decide +kernel, by decide +kernel⟩
theorem ok_Lot_init {P : Program} {w : World} {K : PySem.W.Frag} {mg : Str → Option Value} {base : Heap} (T : Tx K mg) (c0 : SaysM ex dfs K) : FnA P w K mg base 5 ((fun K => He.ma K (He.ga K "Lot") "__init__") K) (spG K (F_lotini K)) := by
  refine fa_gen (N := ["self", "start", "step", "goal", "pace", "size"]) (fd_Lot_init c0) sc_Lot_init (fun _ _ _ _ _ _ us hl => match us, hl with | [_, _, _, _, _, _], _ => rfl) (by decide) ?_ ?_
  rotate_left
  intro cdv A outer s H E hr po c W ow hO tk hN nd ds Q hF
  have hsc : ∀ N q f, (FX P w K mg base N q (defScope s_Lot_init) f cdv A outer s H E).env.scope = defScope s_Lot_init := fun _ _ _ => rfl
  obtain ⟨a0, l, d1, d2, d3, rfl, rfl, h1, h2, h3, hs, q⟩ := hF
  show LW _ c W (@S.mk [some (.ref a0), some d1, some (.int l.s), some d2, some (.int l.p), some d3] [] ⟨[(a0, He.ga K "Lot", [])]⟩) (fnNdG _ Q) (_ :: _)
  fail "go"
  case refine_1 =>
    rintro o ds Q ⟨a0, l, d1, d2, d3, rfl, rfl, _⟩
    rfl
  refine ⟨_, _, rfl, h1, ?_⟩
  fail "go"
  refine ⟨_, _, rfl, h2, ?_⟩
  fail "go"
  refine ⟨_, _, rfl, h3, ?_⟩
  fail "go"
  refine ⟨l.s, rfl, ?_⟩
  fail "go"
  have m1 : l.s ∈ [(1 : Int), 2] := by
    rcases hs.1 with h | h <;> simp [h]
  have m2 : l.p ∈ [(1 : Int), 2, -1, -2] := by
    rcases hs.2 with h | h | h | h <;> simp [h]
  refine .mk ?_
  rw [decide_eq_true m1, if_pos rfl, Bool.not_true]
  fail "go"
  refine ⟨l.p, rfl, ?_⟩
  fail "go"
  refine .mk ?_
  rw [decide_eq_true m2, if_pos rfl, Bool.not_true]
  fail "go"
  refine ⟨d1, l.u, rfl, h1, ?_⟩
  fail "go"
  refine ⟨d2, l.g, rfl, h2, ?_⟩
  fail "go"
  refine ⟨d3, l.m, rfl, h3, ?_⟩
  fail "go"
  exact .mk ⟨[], [(a0, He.ga K "Lot", [("upper", plD K l.u), ("stride", .int l.s), ("lower", plD K l.g), ("lean", .int l.p), ("many", plD K l.m)])]⟩ (by fail "sub") (by fail "sub") .id q
def F_islots (K : PySem.W.Frag) : List D → (Rs → Prop) → Prop := fun ds P => ∃ ls : List Lt, ds = [.lst (ls.map (lotD K))] ∧ 1 ≤ ls.length ∧ ls.length ≤ 6 ∧ P (.ok (.bl true))
set_option hygiene false in
local macro_rules | `(tactic| fail "glob") => `(tactic| refine DL.ew_gintE (x := "MOST_LOTS") T.c_MOST_LOTS ?_)
theorem sc_is_lots : FnScope ["value", "lot"] ["value"] (defScope s_is_lots) := ⟨rfl, rfl, rfl, by decide +kernel, rfl, by decide +kernel, by decide +kernel⟩
theorem ok_is_lots {P : Program} {w : World} {K : PySem.W.Frag} {mg : Str → Option Value} {base : Heap} (T : Tx K mg) (c0 : SaysM ex dfs K) : Df P w K mg base 1 "is_lots" ["value"] (spP K [false] (F_islots K)) := by
  refine df_pure (N := ["value", "lot"]) (fd_is_lots c0) T.g_is_lots sc_is_lots (fun _ _ _ _ _ _ us hl => match us, hl with | [_], _ => rfl) rfl (by decide) ?_
  intro cdv A outer s H E hr po c W hO tk hN nd ds Q δ hF hS
  have hsc : ∀ N q f, (FX P w K mg base N q (defScope s_is_lots) f cdv A outer s H E).env.scope = defScope s_is_lots := fun _ _ _ => rfl
  obtain ⟨ls, rfl, h1, h2, q⟩ := hF
  obtain ⟨δ1, rfl, hS1⟩ := hS.v
  obtain rfl := hS1.n
  show LW _ c W ⟨[some (.lst (ls.map (lotD K))), none], []⟩ (fnNd Q) (_ :: _)
  fail "go"
  refine ⟨1, _, rfl, rfl, fun _ => ?_, fun h => absurd h (by simp only [List.length_map, decide_eq_false_iff_not]; omega)⟩
  fail "go"
  · rename_i h
    exact absurd h (by simp only [List.length_map]; omega)
  refine ⟨fun i s' => ∃ o1 : Option D, s' = ⟨[some (.lst (ls.map (lotD K))), o1], []⟩, ⟨none, rfl⟩, fun _ _ _ => .src .lst, ?_, ?_⟩
  · rintro i d s' hd ⟨o1, rfl⟩
    rw [List.getElem?_map] at hd
    obtain ⟨l, el, rfl⟩ := Option.map_eq_some_iff.mp hd
    apply DL.GN.mk ?pt ?kk
    case pt => fail "pt"
    fail "go"
    exact ⟨_, rfl⟩
  · rintro s' ⟨o1, rfl⟩
    fail "go"
    exact q
abbrev patD (K : PySem.W.Frag) (ls : List Lt) (L : Int) : D := .ins (He.ga K "Pattern") [("row", .lst (ls.map (lotD K))), ("first", .int L)]
set_option hygiene false in
local macro_rules | `(tactic| fail "call") => `(tactic| first
  | refine DL.ew_fn (x := "is_integer") ((ok_is_integer T c0).mono (by decide)) hr (by first | exact tk | exact DL.takes_wf | assumption) ?_
  | refine DL.ew_fn (x := "is_lots") ((ok_is_lots T c0).mono (by decide)) hr (by first | exact tk | exact DL.takes_wf | assumption) ?_
  | refine DL.ew_fn (x := "first_misfit") ((ok_first_misfit T c0).mono (by decide)) hr (by first | exact tk | exact DL.takes_wf | assumption) ?_)
def F_patini (K : PySem.W.Frag) : Ow → List D → (Rs → Ow → Prop) → Prop := fun o ds P => ∃ (a : Addr) (ls : List Lt) (L : Int), o = ⟨[], [(a, He.ga K "Pattern", [])]⟩ ∧ ds = [.ref a, .lst (ls.map (lotD K)), .int L] ∧ 1 ≤ ls.length ∧ ls.length ≤ 6 ∧ 1 ≤ L ∧ (∀ l ∈ ls, Sp l ∧ bdL l ∧ (∃ B, Per l B ∧ 0 < B ∧ B ≤ 500) ∧ ∀ n, L ≤ n → ¬ Bad l n) ∧
  P (.ok .non) ⟨[], [(a, He.ga K "Pattern", [("row", .lst (ls.map (lotD K))), ("first", .int L)])]⟩
theorem sc_Pattern_init : FnScope ["self", "lots", "least", "index", "lot", "n"] ["self", "lots", "least"] (defScope s_Pattern_init) := ⟨rfl, rfl, rfl, by decide +kernel, rfl, by decide +kernel, by decide +kernel⟩
theorem ok_Pattern_init {P : Program} {w : World} {K : PySem.W.Frag} {mg : Str → Option Value} {base : Heap} (T : Tx K mg) (c0 : SaysM ex dfs K) : FnA P w K mg base 4 ((fun K => He.ma K (He.ga K "Pattern") "__init__") K) (spG K (F_patini K)) := by
  refine fa_gen (N := ["self", "lots", "least", "index", "lot", "n"]) (fd_Pattern_init c0) sc_Pattern_init (fun _ _ _ _ _ _ us hl => match us, hl with | [_, _, _], _ => rfl) (by decide) ?_ ?_
  rotate_left
  intro cdv A outer s H E hr po c W ow hO tk hN nd ds Q hF
  have hsc : ∀ N q f, (FX P w K mg base N q (defScope s_Pattern_init) f cdv A outer s H E).env.scope = defScope s_Pattern_init := fun _ _ _ => rfl
  obtain ⟨a0, ls, L, rfl, rfl, h1, h2, hL, hls, q⟩ := hF
  show LW _ c W (@S.mk [some (.ref a0), some (.lst (ls.map (lotD K))), some (.int L), none, none, none] [] ⟨[(a0, He.ga K "Pattern", [])]⟩) (fnNdG _ Q) (_ :: _)
  fail "go"
  case refine_1 =>
    rintro o ds Q ⟨a0, ls, L, rfl, rfl, _⟩
    rfl
  refine ⟨ls, rfl, h1, h2, ?_⟩
  fail "go"
  refine ⟨L, rfl, ?_⟩
  fail "go"
  · rename_i h
    exact absurd h (by omega)
  refine ⟨fun i s' => ∃ o3 o4 o5 : Option D, s' = (@S.mk [some (.ref a0), some (.lst (ls.map (lotD K))), some (.int L), o3, o4, o5] [] ⟨[(a0, He.ga K "Pattern", [])]⟩), ⟨none, none, none, rfl⟩, fun _ _ _ => .src .lst, ?_, ?_⟩
  · rintro i d s' hd ⟨o3, o4, o5, rfl⟩
    rw [List.getElem?_map, List.getElem?_zipIdx, List.getElem?_map] at hd
    cases el : ls[i]? with
    | none =>
      rw [el] at hd
      cases hd
    | some l =>
      rw [el, Nat.zero_add] at hd
      cases hd
      obtain ⟨hs, hb, ⟨B, hP, hB0, hB1⟩, hfit⟩ := hls l (List.mem_of_getElem? el)
      show GT 2 _ (.tup [.int (i : Int), lotD K l]) _ _
      fail "go"
      refine ⟨l, L, B, rfl, hs, hP, hB0, hB1, hb, fun o ho => ?_⟩
      cases o with
      | some n => exact absurd ho.2.1 (hfit n ho.1)
      | none =>
        dsimp only [optI]
        fail "go"
        all_goals first
          | (exfalso; rename_i h; cases h; done)
          | exact ⟨_, _, _, rfl⟩
  · rintro s' ⟨o3, o4, o5, rfl⟩
    fail "go"
    exact .mk ⟨[], [(a0, He.ga K "Pattern", [("row", .lst (ls.map (lotD K))), ("first", .int L)])]⟩ (by fail "sub") (by fail "sub") .id q
end L20.PL

end
section

namespace L20.PL
open PySem PySem.Spec PyProof.Rows L2 DL
abbrev strD (l : Lt) (n : Int) : D := .tup [.int (valIn l.u n), .int l.s, .int (valIn l.g n), .int l.p, .int (valIn l.m n)]
structure Ask (l : Lt) (n : Int) : Prop where
  b : bdL l
  u : 0 < l.u.length ∧ l.u.length ≤ 10000
  g : 0 < l.g.length ∧ l.g.length ≤ 10000
  m : 0 < l.m.length ∧ l.m.length ≤ 10000
  n0 : -(2 ^ 200) < n
  n1 : n < 2 ^ 200
set_option hygiene false in
local macro_rules | `(tactic| fail "call") => `(tactic| first
  | refine DL.ew_fn (x := "value_in") ((ok_value_in T c0).mono (by decide)) hr (by first | exact tk | exact DL.takes_wf | assumption) ?_)
def F_strand (K : PySem.W.Frag) : List D → (Rs → Prop) → Prop := fun ds P => ∃ (l : Lt) (n : Int), ds = [lotD K l, .int n] ∧ Ask l n ∧ P (.ok (strD l n))
def F_strands (K : PySem.W.Frag) : List D → (Rs → Prop) → Prop := fun ds P => ∃ (ls : List Lt) (L n : Int), ds = [patD K ls L, .int n] ∧ ls.length ≤ 6 ∧ (∀ l ∈ ls, Ask l n) ∧ (L ≤ n → P (.ok (.lst (ls.map fun l => strD l n)))) ∧ (n < L → P (.exc (.ref (He.ga K "InvalidNumber")) none))
def stL (l : Lt) (n : Int) : List (Int × Int) := (List.range (valIn l.m n).toNat).map fun t : Nat => (valIn l.u n + l.s * t, valIn l.g n + l.p * t)
def stA (ls : List Lt) (n : Int) : List (Int × Int) := ls.flatMap fun l => stL l n
set_option hygiene false in
local macro_rules | `(tactic| fail "for") => `(tactic| refine DL.forF po hN nd (by fail "ix") (by fail "ix") (by fail "ix") (by fail "ix") (by fail "ix") ?_)
set_option hygiene false in
local macro_rules | `(tactic| fail "e") => `(tactic| ((with_reducible show DL.EW _ _ _ _ _ _ (.Call (.Attribute _ "extend" _) [_] [] _)); refine DL.ew_extend ?_))
local macro_rules | `(tactic| fail "x") => `(tactic| ((with_reducible apply DL.ExtR.mk ?aa ?hh ?pp ?kk); (case aa => fail "at"); (case hh => fail "num"); (case pp => fail "pt")))
def F_strs (K : PySem.W.Frag) : List D → (Rs → Prop) → Prop := fun ds P => ∃ (ls : List Lt) (L n : Int), ds = [patD K ls L, .int n] ∧ ls.length ≤ 6 ∧ (∀ l ∈ ls, Ask l n ∧ Sp l ∧ (L ≤ n → 0 ≤ valIn l.m n ∧ valIn l.m n ≤ 100000)) ∧ (L ≤ n → P (.ok (.lst ((stA ls n).map D.pr)))) ∧ (n < L → P (.exc (.ref (He.ga K "InvalidNumber")) none))
end L20.PL

end
section

namespace L20
open PySem PySem.Spec PyProof.Rows L2 DL
open PL
abbrev ltOf (S : List (Int × Int)) (s : Int) (G : List (Int × Int)) (p : Int) (Z : List (Int × Int)) : Lt := ⟨leastP S, s, leastP G, p, leastP Z⟩
theorem least_dvd {X : List (Int × Int)} (h : 0 < X.length) : (leastP X).length ∣ X.length := by
  obtain ⟨t, _, e, _, _⟩ := least_spec h
  exact ⟨t, e⟩
theorem WL.per {Q : Nat} {L : Int} {S G Z : List (Int × Int)} {s p : Int} (h : WL Q L S s G p Z) (hQ : 0 < Q) : Per (ltOf S s G p Z) Q := by
  have a := h.lS
  have b := h.lG
  have c := h.lZ
  refine ⟨(least_len (by omega)).1, (least_len (by omega)).1, (least_len (by omega)).1, ?_, ?_, ?_⟩
  · have := least_dvd (X := S) (by omega)
    rwa [a] at this
  · have := least_dvd (X := G) (by omega)
    rwa [b] at this
  · have := least_dvd (X := Z) (by omega)
    rwa [c] at this
theorem sm_bd {X : List (Int × Int)} (h : smW X) : bd (leastP X) := least_bd fun q hq => by
  have := h q hq
  omega
theorem WL.bdl {Q : Nat} {L : Int} {S G Z : List (Int × Int)} {s p : Int} (h : WL Q L S s G p Z) : bdL (ltOf S s G p Z) := ⟨sm_bd h.bS, sm_bd h.bG, sm_bd h.bZ⟩
theorem ln_lo {x y k d : Int} (h1 : 0 ≤ x) (h2 : 0 ≤ x * k + y) (hd : 0 ≤ d) : 0 ≤ x * (k + d) + y := by
  have := Int.mul_nonneg h1 hd
  rw [Int.mul_add]
  omega
theorem ln_hi {x y k d Q r : Int} (h1 : x ≤ Q) (h2 : x * k + y ≤ Q * k + r - 1) (hd : 0 ≤ d) : x * (k + d) + y ≤ Q * (k + d) + r - 1 := by
  have := Int.mul_le_mul_of_nonneg_right h1 hd
  rw [Int.mul_add, Int.mul_add]
  omega
theorem ln_sum (x y s u v k : Int) : (x + s * u) * k + (y + s * (v - 1)) = (x * k + y) + s * (u * k + v - 1) := by grind
theorem RG.at {Q L r s p k : Int} {a g z : Int × Int} (h : RG Q L r s p a g z) (hQ : 0 < Q) (hs : 0 < s) (hp : p ≠ 0) (hk : L ≤ Q * k + r) : 0 ≤ z.1 * k + z.2 ∧ (1 ≤ z.1 * k + z.2 → (∀ e ∈ [a.1 * k + a.2, a.1 * k + a.2 + s * (z.1 * k + z.2 - 1), g.1 * k + g.2, g.1 * k + g.2 + p * (z.1 * k + z.2 - 1)], 0 ≤ e ∧ e < Q * k + r)) := by
  obtain ⟨d, hd, ek⟩ : ∃ d, 0 ≤ d ∧ k = (L - r + Q - 1) / Q + d := ⟨k - (L - r + Q - 1) / Q, by have := (cei (L := L) (r := r) (k := k) hQ).mpr hk; omega, by omega⟩
  have a0 := ln_lo h.a1 h.a0 hd
  have z0 := ln_lo h.z1 h.z0 hd
  have e0 := h.e0
  rw [← ln_sum] at e0
  have a3 := ln_hi h.e1 e0 hd
  rw [ln_sum] at a3
  rw [← ek] at a0 z0 a3
  refine ⟨z0, fun h1 e he => ?_⟩
  have s0 := Int.mul_nonneg (show 0 ≤ s by omega) (show 0 ≤ z.1 * k + z.2 - 1 by omega)
  have gg : 0 ≤ g.1 * k + g.2 ∧ g.1 * k + g.2 < Q * k + r ∧ 0 ≤ g.1 * k + g.2 + p * (z.1 * k + z.2 - 1) ∧ g.1 * k + g.2 + p * (z.1 * k + z.2 - 1) < Q * k + r := by
    rcases Int.lt_or_lt_of_ne hp with c | c
    · obtain ⟨u1, u2, u3, u4⟩ := h.dn c
      rw [← ln_sum] at u2
      have b1 := ln_lo u1 u2 hd
      have b2 := ln_hi u3 u4 hd
      rw [ln_sum] at b1
      rw [← ek] at b1 b2
      have p0 := Int.mul_nonneg (show 0 ≤ -p by omega) (show 0 ≤ z.1 * k + z.2 - 1 by omega)
      rw [Int.neg_mul] at p0
      omega
    · obtain ⟨u1, u2, u3, u4⟩ := h.up c
      rw [← ln_sum] at u4
      have b1 := ln_lo u1 u2 hd
      have b2 := ln_hi u3 u4 hd
      rw [ln_sum] at b2
      rw [← ek] at b1 b2
      have p0 := Int.mul_nonneg (show 0 ≤ p by omega) (show 0 ≤ z.1 * k + z.2 - 1 by omega)
      omega
  simp only [List.mem_cons, List.not_mem_nil, or_false] at he
  rcases he with rfl | rfl | rfl | rfl <;> omega
theorem val_at {X : List (Int × Int)} {Q r : Nat} (h : X.length = Q) (hr : r < Q) (k : Int) : valIn (leastP X) ((Q : Int) * k + r) = (X.getD r (0, 0)).1 * k + (X.getD r (0, 0)).2 := by
  rw [least_val (by omega)]
  unfold valIn
  rw [h, show ((Q : Int) * k + r) % Q = r by rw [Int.add_comm, Int.add_mul_emod_self_left]; exact Int.emod_eq_of_lt (by omega) (by omega),
    show ((Q : Int) * k + r) / Q = k by rw [Int.add_comm, Int.add_mul_ediv_left _ _ (by omega), Int.ediv_eq_zero_of_lt (by omega) (by omega), Int.zero_add]]
  rfl
theorem WL.at {Q : Nat} {L n : Int} {S G Z : List (Int × Int)} {s p : Int} (h : WL Q L S s G p Z) (hQ : 0 < Q) (hn : L ≤ n) : 0 ≤ valIn (leastP Z) n ∧ (1 ≤ valIn (leastP Z) n → ∀ e ∈ endV (ltOf S s G p Z) n, 0 ≤ e ∧ e < n) := by
  have h0 := Int.emod_nonneg n (show (Q : Int) ≠ 0 by omega)
  have h1 := Int.emod_lt_of_pos n (show 0 < (Q : Int) by omega)
  have he := Int.mul_ediv_add_emod n Q
  obtain ⟨r, er⟩ : ∃ r : Nat, (r : Int) = n % Q := ⟨(n % Q).toNat, by omega⟩
  obtain ⟨k, ek⟩ : ∃ k, k = n / Q := ⟨_, rfl⟩
  rw [← ek, ← er] at he
  have hr : r < Q := by omega
  have hs := h.hs
  have hp := h.hp
  rw [← he]
  unfold endV
  dsimp only
  rw [val_at h.lS hr, val_at h.lG hr, val_at h.lZ hr]
  rcases h.row r hr with R | z
  · exact R.at (k := k) (by omega) (by omega) (by omega) (by omega)
  · rw [z]
    dsimp only
    rw [Int.zero_mul, Int.zero_add]
    exact ⟨Int.le_refl 0, fun h => absurd h (by decide)⟩
theorem WL.size {Q : Nat} {L n : Int} {S G Z : List (Int × Int)} {s p : Int} (h : WL Q L S s G p Z) (hQ : 0 < Q) (hn : L ≤ n) (h1 : 0 ≤ n) : valIn (leastP Z) n ≤ n := by
  obtain ⟨a, b⟩ := h.at hQ hn
  rcases Int.lt_or_le (valIn (leastP Z) n) 1 with c | c
  · omega
  · have g := b c
    have g1 := g _ (List.mem_cons_self)
    have g2 := g (valIn (leastP S) n + s * (valIn (leastP Z) n - 1)) (by unfold endV; simp)
    have hs := h.hs
    have e1 : 0 ≤ valIn (leastP S) n := g1.1
    rcases hs with rfl | rfl <;> omega

end L20

end
section

namespace L20
open PySem PySem.Spec PyProof.Rows L2 DL
open PL
abbrev rawD (l : Lt) : D := .tup [.lst (l.u.map D.pr), .int l.s, .lst (l.g.map D.pr), .int l.p, .lst (l.m.map D.pr)]
abbrev plc (l : Lt) : Lt := ltOf l.u l.s l.g l.p l.m
def Drn (Q : Nat) (L : Int) (l : Lt) : Prop := WL Q L l.u l.s l.g l.p l.m
theorem Drn.sp {Q : Nat} {L : Int} {l : Lt} (h : Drn Q L l) : Sp (plc l) := ⟨h.hs, h.hp⟩
def In (w : Int) (L : List (Int × Int)) : Prop := ∀ q ∈ L, 0 ≤ q.1 ∧ q.1 < w ∧ 0 ≤ q.2 ∧ q.2 < w
theorem In.snoc {w : Int} {L : List (Int × Int)} {i j : Int} (h : In w L) (a : 0 ≤ i) (b : i < w) (c : 0 ≤ j) (d : j < w) : In w (L ++ [(i, j)]) := fun q hq => by
  rcases List.mem_append.mp hq with hq | hq
  · exact h q hq
  · rw [List.mem_singleton.mp hq]
    exact ⟨a, b, c, d⟩
theorem In.take {w : Int} {L : List (Int × Int)} {n : Nat} (h : In w L) : In w (L.take n) := fun q hq => h q (List.mem_of_mem_take hq)
theorem prs_at2 {X : List (Int × Int)} {n : Int} (h : 0 < X.length) : atI (X.map D.pr) (n % ((X.map D.pr).length : Int)) = some (.tup [.int (X.getD (n % X.length).toNat (0, 0)).1, .int (X.getD (n % X.length).toNat (0, 0)).2]) := by
  have h0 := Int.emod_nonneg n (show (X.length : Int) ≠ 0 by omega)
  have h1 := Int.emod_lt_of_pos n (show 0 < (X.length : Int) by omega)
  rw [List.length_map]
  refine at_in h0 ?_
  have hl : (n % (X.length : Int)).toNat < X.length := by omega
  rw [List.getElem?_map, List.getD_eq_getElem?_getD, List.getElem?_eq_getElem hl]
  rfl
def F_lv : List D → (Rs → Prop) → Prop := fun ds P => ∃ (X : List (Int × Int)) (n : Int), ds = [.lst (X.map D.pr), .int n] ∧ 0 < X.length ∧ X.length ≤ 1000 ∧ smW X ∧ -(2 ^ 200) < n ∧ n < 2 ^ 200 ∧ P (.ok (.int (valIn X n)))
theorem sc__law_at : FnScope ["_law_rows", "_law_n", "_law_a", "_law_b"] ["_law_rows", "_law_n"] (defScope s__law_at) := ⟨rfl, rfl, rfl, by decide +kernel, rfl, by decide +kernel, by decide +kernel⟩
theorem ok__law_at {P : Program} {w : World} {K : PySem.W.Frag} {mg : Str → Option Value} {base : Heap} (T : Tx K mg) (c0 : SaysM ex dfs K) : Df P w K mg base 1 "_law_at" ["_law_rows", "_law_n"] (spP K [false,false] F_lv) := by
  refine df_pure (N := ["_law_rows", "_law_n", "_law_a", "_law_b"]) (fd__law_at c0) T.g__law_at sc__law_at (fun _ _ _ _ _ _ us hl => match us, hl with | [_, _], _ => rfl) rfl (by decide) ?_
  intro cdv A outer s H E hr po c W hO tk hN nd ds Q δ hF hS
  have hsc : ∀ N q f, (FX P w K mg base N q (defScope s__law_at) f cdv A outer s H E).env.scope = defScope s__law_at := fun _ _ _ => rfl
  obtain ⟨X0, n, rfl, h0, h1, hb, hn0, hn1, q⟩ := hF
  obtain ⟨δ1, rfl, hS1⟩ := hS.v
  obtain ⟨δ2, rfl, hS2⟩ := hS1.v
  obtain rfl := hS2.n
  show LW _ c W ⟨[some (.lst (X0.map D.pr)), some (.int n), none, none], []⟩ (fnNd Q) (_ :: _)
  have hat := prs_at2 (n := n) h0
  have e0 := Int.emod_nonneg n (show (X0.length : Int) ≠ 0 by omega)
  have e1 := Int.emod_lt_of_pos n (show 0 < (X0.length : Int) by omega)
  have hg := hb (X0.getD (n % X0.length).toNat (0, 0)) (by rw [List.getD_eq_getElem?_getD, List.getElem?_eq_getElem (show (n % (X0.length : Int)).toNat < X0.length by omega)]; exact List.getElem_mem _)
  have hdv := ediv_bd (n := n) (p := X0.length) (B := 2 ^ 200) (by omega) hn0 hn1
  have ev : valIn X0 n = (X0.getD (n % X0.length).toNat (0, 0)).1 * (n / X0.length) + (X0.getD (n % X0.length).toNat (0, 0)).2 := rfl
  rw [ev] at q
  rw [List.length_map] at hat
  generalize X0.getD (n % X0.length).toNat (0, 0) = g at *
  fail "go"
  rw [List.length_map]
  refine .mk (.src .lst) hat ?_
  fail "go"
  rw [List.length_map]
  fail "go"
  exact q

end L20

end
section

namespace L20
open PySem PySem.Spec PyProof.Rows L2 DL
open PL
theorem least_const {rows : List (Int × Int)} {v : Int} (h0 : 0 < rows.length) (h : ∀ q ∈ rows, q = (0, v)) : leastP rows = [(0, v)] := by
  have er : rows = List.replicate rows.length (0, v) := List.eq_replicate_iff.mpr ⟨rfl, h⟩
  obtain ⟨m, em⟩ : ∃ m, rows.length = m + 1 := ⟨rows.length - 1, by omega⟩
  have ed : ∃ r, divsN rows.length = 0 :: r := by
    unfold divsN
    rw [em, List.range_succ_eq_map, List.filter_cons, if_pos (by simp)]
    exact ⟨_, rfl⟩
  obtain ⟨r, ed⟩ := ed
  have e1 : rows.take 1 = [(0, v)] := by
    rw [er, em]
    rfl
  have es : shortOf rows (0 + 1) (rows.length / (0 + 1)) = some [(0, v)] := by
    have ep : shortP rows 1 rows.length = [(0, v)] := by
      unfold shortP
      rw [e1]
      simp
    have el : liftP [(0, v)] rows.length = rows := by
      have e9 : ∀ n : Nat, ((List.range n).flatMap fun (m : Nat) => [((0 : Int), v)].map fun q => (q.1 * (rows.length : Int), q.1 * (m : Int) + q.2)) = List.replicate n (0, v) := fun n => by
        induction n with
        | zero => rfl
        | succ n ih =>
          rw [List.range_succ, List.flatMap_append, ih, List.replicate_succ']
          simp
      unfold liftP
      rw [e9]
      exact er.symm
    rw [Nat.zero_add, Nat.div_one]
    unfold shortOf
    rw [ep, el, e1, if_pos ⟨fun q hq => by rw [List.mem_singleton.mp hq]; exact Int.zero_emod _, rfl⟩]
  unfold leastP
  rw [ed, List.findSome?_cons, es]
  rfl
theorem deq_pr {x y a b : Int} : deq (D.pr (x, y)) (.tup [.int a, .int b]) = decide ((x, y) = (a, b)) := by
  unfold deq
  simp only [D.pr, py, pyL, PyData.eqv, PyData.eqvAll]
  by_cases h1 : x = a <;> by_cases h2 : y = b <;> simp [h1, h2]
theorem fil_len {rows : List (Int × Int)} {z : Int × Int} (h : ((((List.range rows.length).filter fun i : Nat => !decide (rows.getD i (0, 0) = z)).map fun i : Nat => D.pr (rows.getD i (0, 0))).length : Int) = 0) : ∀ q ∈ rows, q = z := fun q hq => by
  obtain ⟨i, hi, e⟩ := List.mem_iff_getElem.mp hq
  rw [List.length_map] at h
  have h0 := List.eq_nil_of_length_eq_zero (show ((List.range rows.length).filter fun i : Nat => !decide (rows.getD i (0, 0) = z)).length = 0 by omega)
  have h1 := List.filter_eq_nil_iff.mp h0 i (List.mem_range.mpr hi)
  have e2 : rows.getD i (0, 0) = q := by rw [List.getD_eq_getElem?_getD, List.getElem?_eq_getElem hi, e]; rfl
  rw [e2] at h1
  by_cases hz : q = z
  · exact hz
  · exact absurd (by simp [hz]) h1
set_option hygiene false in
local macro_rules | `(tactic| fail "call") => `(tactic| first
  | refine DL.ew_fnM (x := "_law_draw") ((ok__law_draw T c0).mono (by decide)) hr (by first | exact tk | exact DL.takes_wf | assumption) ?_
  | refine DL.ew_fn (x := "place_of") ((ok_place_of T c0).mono (by decide)) hr (by first | exact tk | exact DL.takes_wf | assumption) ?_)
def F_place (K : PySem.W.Frag) : List D → List D → (Rs → List D → Prop) → Prop := fun os ds P => ∃ (T : Int) (rows : List (Int × Int)), Wl T os ∧ T < 2 ^ 180 ∧ ds = [.lst (rows.map D.pr)] ∧ 0 < rows.length ∧ rows.length ≤ 24 ∧ ∀ (os' : List D) (d : D), Wl (T + 1) os' → asR K d (leastP rows) → P (.ok d) os'
theorem sc__law_place : FnScope ["_law_well_here", "_law_rows", "_law_row"] ["_law_well_here", "_law_rows"] (defScope s__law_place) := ⟨rfl, rfl, rfl, by decide +kernel, rfl, by decide +kernel, by decide +kernel⟩
theorem ok__law_place {P : Program} {w : World} {K : PySem.W.Frag} {mg : Str → Option Value} {base : Heap} (T : Tx K mg) (c0 : SaysM ex dfs K) : Df P w K mg base 6 "_law_place" ["_law_well_here", "_law_rows"] (spM K (F_place K)) := by
  refine df_mut (N := ["_law_well_here", "_law_rows", "_law_row"]) (fd__law_place c0) T.g__law_place sc__law_place (fun _ _ _ _ _ _ us hl => match us, hl with | [_, _], _ => rfl) (by decide) ?_ ?_
  rotate_left
  intro cdv A outer s H E hr po c W p hO tk hN nd os ds Q hF
  have hsc : ∀ N q f, (FX P w K mg base N q (defScope s__law_place) f cdv A outer s H E).env.scope = defScope s__law_place := fun _ _ _ => rfl
  obtain ⟨T0, rows, hw, hT, rfl, h0, h1, q⟩ := hF
  obtain ⟨⟨a0, b0⟩, ea⟩ : ∃ x, rows[0]? = some x := ⟨rows[0], List.getElem?_eq_getElem h0⟩
  have hat : atI (rows.map D.pr) 0 = some (.tup [.int a0, .int b0]) := at_in (by decide) (by rw [List.getElem?_map, show (0 : Int).toNat = 0 from rfl, ea]; rfl)
  show LW _ c W ⟨[some (.ref p), some (.lst (rows.map D.pr)), none], [(p, os)]⟩ (fnNdM p Q) (_ :: _)
  fail "go"
  case refine_1 => rintro os ds Q ⟨T0, rows, _, _, rfl, _⟩; rfl
  refine lc_fil (fun i : Nat => D.pr (rows.getD i (0, 0))) (fun i : Nat => !decide (rows.getD i (0, 0) = (a0, b0))) (by rw [List.length_map]; omega) (fun _ _ _ => .src .lst) (fun h m => gn_mono h m) (fun i d t acc hd hi np => ?_) ?_
  · rw [List.getElem?_map] at hd
    obtain ⟨⟨x, y⟩, el, rfl⟩ := Option.map_eq_some_iff.mp hd
    have eg : rows.getD i (0, 0) = (x, y) := by rw [List.getD_eq_getElem?_getD, el]; rfl
    rw [eg]
    fail "go"
    refine ⟨by rw [deq_pr], rfl, fun _ => ?_⟩
    fail "go"
    exact ⟨rfl, rfl⟩
  rw [List.length_map]
  fail "go"
  · refine ⟨T0, 2, hw, rfl, by decide, by decide, by omega, fun os1 v hw1 hv0 hv1 => ?_⟩
    fail "go"
    · have e := fil_len (rows := rows) (z := (a0, b0)) (by assumption)
      have ea0 : a0 = 0 := by omega
      exact q _ _ hw1 (.inr ⟨b0, rfl, least_const h0 fun y hy => by rw [e y hy, ea0]⟩)
    · refine ⟨rows, rfl, h0, h1, ?_⟩
      fail "go"
      exact q _ _ hw1 (.inl rfl)
  all_goals
    refine ⟨rows, rfl, h0, h1, ?_⟩
    fail "go"
    exact q _ _ (hw.mono (by omega)) (.inl rfl)
set_option hygiene false in
local macro_rules | `(tactic| fail "call") => `(tactic| first
  | refine DL.ew_frzI (DL.ew_make (x := "Lot") T.mk_Lot ((ok_Lot_init T c0).mono (by decide)) hr (by first | exact tk | exact DL.takes_wf | assumption) T.g_Lot ?_)
  | refine DL.ew_fnM (x := "_law_place") ((ok__law_place T c0).mono (by decide)) hr (by first | exact tk | exact DL.takes_wf | assumption) ?_)
def F_lmade (K : PySem.W.Frag) : List D → List D → (Rs → List D → Prop) → Prop := fun os ds P => ∃ (T : Int) (l : Lt) (_ : Nat), Wl T os ∧ T < 2 ^ 170 ∧ ds = [rawD l] ∧ 0 < l.u.length ∧ l.u.length ≤ 24 ∧ 0 < l.g.length ∧ l.g.length ≤ 24 ∧ 0 < l.m.length ∧ l.m.length ≤ 24 ∧ Sp (plc l) ∧ ∀ (os' : List D), Wl (T + 3) os' → P (.ok (lotD K (plc l))) os'
theorem sc__law_made : FnScope ["_law_well_here", "_law_lot_here"] ["_law_well_here", "_law_lot_here"] (defScope s__law_made) := ⟨rfl, rfl, rfl, by decide +kernel, rfl, by decide +kernel, by decide +kernel⟩
theorem ok__law_made {P : Program} {w : World} {K : PySem.W.Frag} {mg : Str → Option Value} {base : Heap} (T : Tx K mg) (c0 : SaysM ex dfs K) : Df P w K mg base 7 "_law_made" ["_law_well_here", "_law_lot_here"] (spM K (F_lmade K)) := by
  refine df_mut (N := ["_law_well_here", "_law_lot_here"]) (fd__law_made c0) T.g__law_made sc__law_made (fun _ _ _ _ _ _ us hl => match us, hl with | [_, _], _ => rfl) (by decide) ?_ ?_
  rotate_left
  intro cdv A outer s H E hr po c W p hO tk hN nd os ds Q hF
  have hsc : ∀ N q f, (FX P w K mg base N q (defScope s__law_made) f cdv A outer s H E).env.scope = defScope s__law_made := fun _ _ _ => rfl
  obtain ⟨T0, l, _, hw, hT, rfl, hu0, hu1, hg0, hg1, hm0, hm1, hd, q⟩ := hF
  show LW _ c W ⟨[some (.ref p), some (rawD l)], [(p, os)]⟩ (fnNdM p Q) (_ :: _)
  fail "go"
  case refine_1 => rintro os ds Q ⟨T0, l, _, _, _, rfl, _⟩; rfl
  refine ⟨T0, l.u, hw, by omega, rfl, by omega, by omega, fun os1 d1 hw1 hd1 => ?_⟩
  fail "go"
  refine ⟨T0 + 1, l.g, hw1, by omega, rfl, by omega, by omega, fun os2 d2 hw2 hd2 => ?_⟩
  fail "go"
  refine ⟨T0 + 1 + 1, l.m, hw2, by omega, rfl, by omega, by omega, fun os3 d3 hw3 hd3 => ?_⟩
  fail "go"
  refine ⟨⟨[], [(_, He.ga K "Lot", [])]⟩, _, _, spl_no _, .take (spl_no _), _, plc l, d1, d2, d3, rfl, rfl, hd1, hd2, hd3, hd, fun _ => ?_⟩
  fail "go"
  refine ⟨rfl, _, _, _, _, rfl, by assumption, rfl, ?_⟩
  fail "go"
  exact .ok .id .z (q _ (hw3.mono (by omega)))

end L20

end
section

namespace L20
open PySem PySem.Spec PyProof.Rows L2 DL
open PL
structure Rl (l : Lt) : Prop where
  s : l.s = 1 ∨ l.s = 2
  p : l.p = 1 ∨ l.p = 2 ∨ l.p = -1 ∨ l.p = -2
  u0 : 0 < l.u.length
  u1 : l.u.length ≤ 4
  g0 : 0 < l.g.length
  g1 : l.g.length ≤ 4
  m0 : 0 < l.m.length
  m1 : l.m.length ≤ 4
  bu : smW l.u
  bg : smW l.g
  bm : smW l.m
local macro_rules | `(tactic| fail "r") => `(tactic| (((with_reducible show DL.GT _ _ _ _ _); dsimp only [DL.wipeD, List.set_cons_zero, List.set_cons_succ])))
local macro_rules | `(tactic| fail "r") => `(tactic| (((with_reducible show DL.GN _ _ _ _); dsimp only [DL.wipeD, List.set_cons_zero, List.set_cons_succ])))
set_option hygiene false in
local macro_rules | `(tactic| fail "lcF") => `(tactic| refine DL.ew_frz (DL.lcN hN nd (by fail "ix") (DL.hscb (hsc _ _ _)) (by decide +kernel) ?_))
local macro_rules | `(tactic| fail "x") => `(tactic| (((with_reducible refine DL.callg_exc ?_); try dsimp only [List.cons_append, List.nil_append])))
local macro_rules | `(tactic| fail "x") => `(tactic| (((with_reducible refine DL.callg_ok ?_); try dsimp only [List.cons_append, List.nil_append])))
local macro_rules | `(tactic| fail "l") => `(tactic| dsimp only [List.set_cons_zero, List.set_cons_succ, List.cons_append, List.nil_append])
set_option hygiene false in
local macro_rules | `(tactic| fail "call") => `(tactic| first
  | refine DL.ew_fnM (x := "_law_draw") ((ok__law_draw T c0).mono (by decide)) hr (by first | exact tk | exact DL.takes_wf | assumption) ?_)
local macro_rules | `(tactic| fail "e") => `(tactic| ((with_reducible show DL.EW _ _ _ _ _ _ (.List [] _)); refine DL.ew_lstO ?_))
set_option hygiene false in
local macro_rules | `(tactic| fail "e") => `(tactic| ((have hfz : DL.OwnN "frz" := by (with_reducible assumption)); clear hfz; (with_reducible show DL.EW _ _ _ _ _ _ (.Name "_law_rows" _)); refine DL.ew_frz ?_; refine DL.en hN (by fail "ix") (by fail "at") ?_; refine ⟨_, _, _, rfl, by (first | assumption | fail "nin"), rfl, ?_⟩))
set_option hygiene false in
local macro_rules | `(tactic| fail "s") => `(tactic| ((with_reducible show DL.SW _ _ _ _ _ (.Assign [.Tuple [.Name _ _, .Name _ _, .Name _ _] _ _] (.Tuple [_, _, _] _ _) _)); refine DL.parN3 (by rfl) hN nd (by fail "ix") (by fail "ix") (by fail "ix") ?_))
local macro_rules | `(tactic| fail "x") => `(tactic| ((with_reducible apply Exists.intro); (with_reducible apply Exists.intro); (with_reducible apply Exists.intro); (with_reducible apply And.intro); fail "pt"; (with_reducible apply And.intro); fail "pt"; (with_reducible apply And.intro); fail "pt"; dsimp only))
set_option hygiene false in
local macro_rules | `(tactic| fail "step0") => `(tactic| ((with_reducible show DL.LW _ _ _ _ _ (.Assign [.Name "_law_slopes" _] _ _ :: _)); refine lw_cut (fun s' => ∃ sl : Int, s' = (@S.mk [some (.ref p), some (.ref r), some (.int (i : Int)), some (.int (1 + v)), some (.int sl), o5, o6, o7, o8] [(r, Xs.map fun X => D.lst (X.map D.pr)), (p, os1)] ⟨[]⟩) ∧ 1 ≤ sl ∧ sl ≤ 20) ?_ ?_))
def F_wild : List D → List D → (Rs → List D → Prop) → Prop := fun os ds P => ∃ T : Int, Wl T os ∧ ds = [] ∧ T < 2 ^ 160 ∧ ∀ (os' : List D) (l : Lt), Wl (T + 100) os' → Rl l → P (.ok (rawD l)) os'
theorem sc__law_wild : FnScope ["_law_well_here", "_law_places", "_law_k", "_law_cycle", "_law_slopes", "_law_rest", "_law_alike", "_law_row", "_law_rows"] ["_law_well_here"] (defScope s__law_wild) := ⟨rfl, rfl, rfl, by decide +kernel, rfl, by decide +kernel, by decide +kernel⟩
theorem ok__law_wild {P : Program} {w : World} {K : PySem.W.Frag} {mg : Str → Option Value} {base : Heap} (T : Tx K mg) (c0 : SaysM ex dfs K) : Df P w K mg base 3 "_law_wild" ["_law_well_here"] (spM K F_wild) := by
  refine df_mut (N := ["_law_well_here", "_law_places", "_law_k", "_law_cycle", "_law_slopes", "_law_rest", "_law_alike", "_law_row", "_law_rows"]) (fd__law_wild c0) T.g__law_wild sc__law_wild (fun _ _ _ _ _ _ us hl => match us, hl with | [_], _ => rfl) (by decide) ?_ ?_
  rotate_left
  intro cdv A outer s H E hr po c W p hO tk hN nd os ds Q hF
  have hsc : ∀ N q f, (FX P w K mg base N q (defScope s__law_wild) f cdv A outer s H E).env.scope = defScope s__law_wild := fun _ _ _ => rfl
  obtain ⟨T0, hw, rfl, hT, q⟩ := hF
  have ow : OwnN "_law_places" := .mk
  show LW _ c W ⟨[some (.ref p), none, none, none, none, none, none, none, none], [(p, os)]⟩ (fnNdM p Q) (_ :: _)
  fail "go"
  case refine_1 => rintro os ds Q ⟨T0, _, rfl, _⟩; rfl
  rename_i r nr
  refine ⟨fun i s' => ∃ (Xs : List (List (Int × Int))) (os' : List D) (o2 o3 o4 o5 o6 o7 o8 : Option D), s' = ⟨[some (.ref p), some (.ref r), o2, o3, o4, o5, o6, o7, o8], [(r, Xs.map fun X => D.lst (X.map D.pr)), (p, os')]⟩ ∧ Wl (T0 + 30 * (i : Int)) os' ∧ Xs.length = i ∧ ∀ X ∈ Xs, 0 < X.length ∧ X.length ≤ 4 ∧ smW X, ⟨[], os, none, none, none, none, none, none, none, rfl, hw.mono (by omega), rfl, fun _ h => by cases h⟩, fun _ _ _ => trivial, ?_, ?_⟩
  · rintro i d s' hd ⟨Xs, os', o2, o3, o4, o5, o6, o7, o8, rfl, hw1, hXl, hXs⟩
    obtain ⟨rfl, hi⟩ := rgD_of hd
    rw [Int.zero_add]
    apply DL.GN.mk ?pt ?kk
    case pt => fail "pt"
    fail "go"
    refine ⟨_, 4, hw1, rfl, by decide, by decide, by omega, fun os1 v hw2 hv0 hv1 => ?_⟩
    obtain ⟨q9, eq, hq0, hq1⟩ : ∃ q9 : Nat, 1 + v = (q9 : Int) ∧ 0 < q9 ∧ q9 ≤ 4 := ⟨(1 + v).toNat, by omega, by omega, by omega⟩
    fail "go"
    · omega
    · omega
    rintro s' ⟨sl, rfl, hs0, hs1⟩
    rw [eq]
    fail "go"
    refine ⟨_, 2, hw2, rfl, by decide, by decide, by omega, fun os2 va hw3 ha0 ha1 => ?_⟩
    fail "go"
    refine ⟨_, sl, hw3, rfl, by omega, by omega, by omega, fun os3 vb hw4 hb0 hb1 => ?_⟩
    fail "go"
    refine ⟨_, 21, hw4, rfl, by decide, by decide, by omega, fun os4 vc hw5 hc0 hc1 => ?_⟩
    fail "go"
    rename_i rr nrr
    refine ⟨fun j s' => ∃ (X : List (Int × Int)) (os' : List D) (o5 : Option D) (a b : Int), s' = ⟨[some (.ref p), some (.ref r), some (.int (i : Int)), some (.int (q9 : Int)), some (.int sl), o5, some (.int va), some (.tup [.int a, .int b]), some (.ref rr)], [(rr, X.map D.pr), (r, Xs.map fun X => D.lst (X.map D.pr)), (p, os')]⟩ ∧ Wl (T0 + 30 * (i : Int) + 4 + 2 * (j : Int)) os' ∧ X.length = j ∧ smW X ∧ -20 ≤ a ∧ a ≤ 20 ∧ -20 ≤ b ∧ b ≤ 20, ⟨[], os4, o5, vb - 2, vc - 6, rfl, hw5.mono (by omega), rfl, (fun _ h => by cases h), by omega, by omega, by omega, by omega⟩, fun _ _ _ => trivial, ?_, ?_⟩
    · rintro j d s' hd ⟨X, os', o5, a, b, rfl, hw6, hXj, hsm, ha0, ha1, hb0, hb1⟩
      obtain ⟨rfl, hj⟩ := rgD_of hd
      rw [Int.zero_add]
      apply DL.GN.mk ?pt2 ?kk2
      case pt2 => fail "pt"
      fail "go"
      · refine ⟨_, sl, hw6, rfl, by omega, by omega, by omega, fun os5 vd hw7 hd0 hd1 => ?_⟩
        fail "go"
        refine ⟨_, 21, hw7, rfl, by decide, by decide, by omega, fun os6 ve hw8 he0 he1 => ?_⟩
        fail "go"
        exact ⟨X ++ [(vd - 2, ve - 6)], os6, _, vd - 2, ve - 6, by rw [List.map_append]; rfl, hw8.mono (by omega), by rw [List.length_append, hXj]; rfl, hsm.snoc (by omega) (by omega) (by omega) (by omega), by omega, by omega, by omega, by omega⟩
      · exact ⟨X ++ [(a, b)], os', _, a, b, by rw [List.map_append]; rfl, hw6.mono (by omega), by rw [List.length_append, hXj]; rfl, hsm.snoc (by omega) (by omega) (by omega) (by omega), by omega, by omega, by omega, by omega⟩
    rintro s' ⟨X, os', o5, a, b, rfl, hw6, hXj, hsm, _, _, _, _⟩
    rw [rgD_len, Int.toNat_natCast] at hXj hw6
    have frz : OwnN "frz" := .mk
    fail "go"
    refine ⟨Xs ++ [X], os', _, _, _, _, _, _, _, by rw [List.map_append]; rfl, hw6.mono (by omega), by rw [List.length_append, hXl]; rfl, fun Y hY => ?_⟩
    rcases List.mem_append.mp hY with hY | hY
    · exact hXs Y hY
    · rw [List.mem_singleton.mp hY]
      exact ⟨by omega, by omega, hsm⟩
  rintro s' ⟨Xs, os', o2, o3, o4, o5, o6, o7, o8, rfl, hw1, hXl, hXs⟩
  rw [rgD_len] at hXl hw1
  obtain ⟨X0, X1, X2, rfl⟩ : ∃ X0 X1 X2, Xs = [X0, X1, X2] := by
    match Xs, hXl with
    | [a, b, c9], _ => exact ⟨a, b, c9, rfl⟩
  obtain ⟨a1, a2, a3⟩ := hXs X0 (by simp)
  obtain ⟨b1, b2, b3⟩ := hXs X1 (by simp)
  obtain ⟨c1, c2, c3⟩ := hXs X2 (by simp)
  have hw2 : Wl (T0 + 90) os' := hw1.mono (by show T0 + 30 * (3 : Int) ≤ T0 + 90; omega)
  fail "go"
  refine ⟨_, 2, hw2, rfl, by decide, by decide, by omega, fun os1 v hw3 hv0 hv1 => ?_⟩
  fail "go"
  refine ⟨_, 4, hw3, rfl, by decide, by decide, by omega, fun os2 y hw4 hy0 hy1 => ?_⟩
  obtain ⟨pc, hat, hpc⟩ : ∃ pc : Int, atI [D.int 1, D.int 2, D.int (-1), D.int (-2)] y = some (.int pc) ∧ (pc = 1 ∨ pc = 2 ∨ pc = -1 ∨ pc = -2) := by
    obtain rfl | rfl | rfl | rfl : y = 0 ∨ y = 1 ∨ y = 2 ∨ y = 3 := by omega
    · exact ⟨1, rfl, by decide⟩
    · exact ⟨2, rfl, by decide⟩
    · exact ⟨-1, rfl, by decide⟩
    · exact ⟨-2, rfl, by decide⟩
  fail "go"
  exact q os2 ⟨X0, 1 + v, X1, pc, X2⟩ (hw4.mono (by omega)) ⟨by show 1 + v = 1 ∨ 1 + v = 2; omega, hpc, a1, a2, b1, b2, c1, c2, a3, b3, c3⟩

end L20

end
section

namespace L20
open PySem PySem.Spec PyProof.Rows L2 DL
open PL
theorem ixN_at {n k : Nat} (h : k < n) : ixN n (k : Int) = some k := by
  unfold ixN
  rw [if_pos (by omega), if_pos (by omega), Int.toNat_natCast]
theorem set_pr (X : List (Int × Int)) (r : Nat) (a b : Int) : (X.map D.pr).set r (.tup [.int a, .int b]) = (X.set r (a, b)).map D.pr := by
  rw [List.map_set]
theorem drn_sm {Q : Nat} {L : Int} {l : Lt} (hD : Drn Q L l) (hQ : 0 < Q) (hQ4 : Q ≤ 4) (hL : 1 ≤ L) (hL1 : L ≤ 40) {r : Nat} (hr : r < Q) : ∀ x ∈ [(l.u.getD r (0, 0)).1, (l.u.getD r (0, 0)).2, (l.g.getD r (0, 0)).1, (l.g.getD r (0, 0)).2, (l.m.getD r (0, 0)).1, (l.m.getD r (0, 0)).2], -1000 ≤ x ∧ x ≤ 1000 := by
  obtain ⟨⟨a0, a1, a2, a3⟩, b0, b1, b2, b3⟩ := hD.ends r hr
  have hs := hD.hs
  have hz : (-1000 ≤ (l.m.getD r (0, 0)).1 ∧ (l.m.getD r (0, 0)).1 ≤ 1000) ∧ -1000 ≤ (l.m.getD r (0, 0)).2 ∧ (l.m.getD r (0, 0)).2 ≤ 1000 := by
    rcases hD.row r hr with g | g
    · obtain ⟨z1, z0, c1, c0, e1, e0, _, _⟩ := g
      have d1 := Int.mul_ediv_self_le (x := L - (r : Int) + Q - 1) (k := (Q : Int)) (by omega)
      have k0 : 0 ≤ (L - (r : Int) + Q - 1) / (Q : Int) := Int.ediv_nonneg (by omega) (by omega)
      have k1 : (L - (r : Int) + Q - 1) / (Q : Int) ≤ 50 := by
        have := Int.ediv_le_self (a := L - (r : Int) + Q - 1) (Q : Int) (by omega)
        omega
      generalize (L - (r : Int) + Q - 1) / (Q : Int) = k at *
      generalize (l.m.getD r (0, 0)).1 = x at *
      generalize (l.m.getD r (0, 0)).2 = y at *
      have m0 := Int.mul_nonneg z1 k0
      have hx : x ≤ 4 := by rcases hs with c | c <;> rw [c] at e1 <;> omega
      have m1 := Int.mul_le_mul hx k1 k0 (by decide)
      rcases hs with c | c <;> rw [c] at e0 <;> omega
    · rw [g]
      exact ⟨⟨by decide, by decide⟩, by decide, by decide⟩
  intro x hx
  simp only [List.mem_cons, List.not_mem_nil, or_false] at hx
  rcases hx with rfl | rfl | rfl | rfl | rfl | rfl <;> omega
theorem smW.set {X : List (Int × Int)} {a b : Int} {i : Nat} (h : smW X) (h1 : -2000 ≤ a) (h2 : a ≤ 2000) (h3 : -2000 ≤ b) (h4 : b ≤ 2000) : smW (X.set i (a, b)) := fun q hq => by
  rcases List.mem_or_eq_of_mem_set hq with hq | hq
  · exact h q hq
  · rw [hq]
    dsimp only
    omega
local macro_rules | `(tactic| fail "r") => `(tactic| (((with_reducible show DL.GT _ _ _ _ _); dsimp only [DL.wipeD, List.set_cons_zero, List.set_cons_succ])))
local macro_rules | `(tactic| fail "r") => `(tactic| (((with_reducible show DL.GN _ _ _ _); dsimp only [DL.wipeD, List.set_cons_zero, List.set_cons_succ])))
set_option hygiene false in
local macro_rules | `(tactic| fail "lcF") => `(tactic| refine DL.ew_frz (DL.lcN hN nd (by fail "ix") (DL.hscb (hsc _ _ _)) (by decide +kernel) ?_))
local macro_rules | `(tactic| fail "x") => `(tactic| (((with_reducible refine DL.callg_exc ?_); try dsimp only [List.cons_append, List.nil_append])))
local macro_rules | `(tactic| fail "x") => `(tactic| (((with_reducible refine DL.callg_ok ?_); try dsimp only [List.cons_append, List.nil_append])))
local macro_rules | `(tactic| fail "l") => `(tactic| dsimp only [List.set_cons_zero, List.set_cons_succ, List.cons_append, List.nil_append])
set_option hygiene false in
local macro_rules | `(tactic| fail "call") => `(tactic| first
  | refine DL.ew_fnM (x := "_law_draw") ((ok__law_draw T c0).mono (by decide)) hr (by first | exact tk | exact DL.takes_wf | assumption) ?_)
set_option hygiene false in
local macro_rules | `(tactic| fail "call") => `(tactic| refine DL.ew_listO T.f_list ?_)
def F_mild : List D → List D → (Rs → List D → Prop) → Prop := fun os ds P => ∃ (T : Int) (Q : Nat) (L : Int) (l : Lt), Wl T os ∧ ds = [rawD l, .int (Q : Int)] ∧ T < 2 ^ 160 ∧ 0 < Q ∧ Q ≤ 4 ∧ 1 ≤ L ∧ L ≤ 40 ∧ Drn Q L l ∧ ∀ (os' : List D) (l' : Lt), Wl (T + 100) os' → Rl l' → P (.ok (rawD l')) os'
theorem sc__law_mild : FnScope ["_law_well_here", "_law_lot_here", "_law_cycle", "_law_places", "_law_change", "_law_k", "_law_rest", "_law_slope", "_law_amount"] ["_law_well_here", "_law_lot_here", "_law_cycle"] (defScope s__law_mild) := ⟨rfl, rfl, rfl, by decide +kernel, rfl, by decide +kernel, by decide +kernel⟩
theorem ok__law_mild {P : Program} {w : World} {K : PySem.W.Frag} {mg : Str → Option Value} {base : Heap} (T : Tx K mg) (c0 : SaysM ex dfs K) : Df P w K mg base 3 "_law_mild" ["_law_well_here", "_law_lot_here", "_law_cycle"] (spM K F_mild) := by
  refine df_mut (N := ["_law_well_here", "_law_lot_here", "_law_cycle", "_law_places", "_law_change", "_law_k", "_law_rest", "_law_slope", "_law_amount"]) (fd__law_mild c0) T.g__law_mild sc__law_mild (fun _ _ _ _ _ _ us hl => match us, hl with | [_, _, _], _ => rfl) (by decide) ?_ ?_
  rotate_left
  intro cdv A outer s H E hr po c W p hO tk hN nd os ds Q hF
  have hsc : ∀ N q f, (FX P w K mg base N q (defScope s__law_mild) f cdv A outer s H E).env.scope = defScope s__law_mild := fun _ _ _ => rfl
  obtain ⟨T0, Q0, L, l, hw, rfl, hT, hQ0, hQ4, hL0, hL4, hD, q⟩ := hF
  show LW _ c W ⟨[some (.ref p), some (rawD l), some (.int (Q0 : Int)), none, none, none, none, none, none], [(p, os)]⟩ (fnNdM p Q) (_ :: _)
  fail "go"
  case refine_1 => rintro os ds Q ⟨T0, Q0, L, l, _, rfl, _⟩; rfl
  rename_i pa npa pb npb pd npd
  refine ⟨_, 3, hw, rfl, by decide, by decide, by omega, fun os1 kv hw1 hk0 hk1 => ?_⟩
  fail "go"
  refine ⟨_, (Q0 : Int), hw1, rfl, by omega, by omega, by omega, fun os2 rv hw2 hr0 hr1 => ?_⟩
  obtain ⟨r9, rfl, hr9⟩ : ∃ r9 : Nat, rv = (r9 : Int) ∧ r9 < Q0 := ⟨rv.toNat, by omega, by omega⟩
  have lu := hD.lS
  have lg := hD.lG
  have lm := hD.lZ
  have at9 : ∀ X : List (Int × Int), X.length = Q0 → atI (X.map D.pr) (r9 : Int) = some (.tup [.int (X.getD r9 (0, 0)).1, .int (X.getD r9 (0, 0)).2]) := fun X hX => by
    refine at_in (by omega) ?_
    rw [Int.toNat_natCast, List.getElem?_map, List.getD_eq_getElem?_getD, List.getElem?_eq_getElem (by omega)]
    rfl
  have au := at9 l.u lu
  have ag := at9 l.g lg
  have am := at9 l.m lm
  have hsm := drn_sm hD hQ0 hQ4 hL0 hL4 hr9
  have s1 := hsm (l.u.getD r9 (0, 0)).1 (by simp)
  have s2 := hsm (l.u.getD r9 (0, 0)).2 (by simp)
  have s3 := hsm (l.g.getD r9 (0, 0)).1 (by simp)
  have s4 := hsm (l.g.getD r9 (0, 0)).2 (by simp)
  have s5 := hsm (l.m.getD r9 (0, 0)).1 (by simp)
  have s6 := hsm (l.m.getD r9 (0, 0)).2 (by simp)
  generalize (l.u.getD r9 (0, 0)).1 = x1 at *
  generalize (l.u.getD r9 (0, 0)).2 = x2 at *
  generalize (l.g.getD r9 (0, 0)).1 = x3 at *
  generalize (l.g.getD r9 (0, 0)).2 = x4 at *
  generalize (l.m.getD r9 (0, 0)).1 = x5 at *
  generalize (l.m.getD r9 (0, 0)).2 = x6 at *
  obtain rfl | rfl | rfl : kv = 0 ∨ kv = 1 ∨ kv = 2 := by omega
  all_goals
    fail "go"
    refine ⟨_, 5, hw2, rfl, by decide, by decide, by omega, fun os3 dv hw3 hd0 hd1 => ?_⟩
    fail "go"
    refine ⟨_, 3, hw3, rfl, by decide, by decide, by omega, fun os4 cv hw4 hc0 hc1 => ?_⟩
    fail "go"
    all_goals
      first
        | refine .mk (n := r9) .z (by rw [List.length_map]; exact ixN_at (by omega)) .z ?_
        | refine .mk (n := r9) (.s .z) (by rw [List.length_map]; exact ixN_at (by omega)) (.s .z) ?_
        | refine .mk (n := r9) (.s (.s .z)) (by rw [List.length_map]; exact ixN_at (by omega)) (.s (.s .z)) ?_
      fail "go"
      rw [set_pr]
      first
        | exact q os4 ⟨l.u.set r9 (_, _), l.s, l.g, l.p, l.m⟩ (hw4.mono (by omega)) ⟨hD.hs, hD.hp, by show 0 < (List.set _ _ _).length; rw [List.length_set]; omega, by show (List.set _ _ _).length ≤ 4; rw [List.length_set]; omega, by show 0 < l.g.length; omega, by show l.g.length ≤ 4; omega, by show 0 < l.m.length; omega, by show l.m.length ≤ 4; omega, hD.bS.set (by omega) (by omega) (by omega) (by omega), hD.bG, hD.bZ⟩
        | exact q os4 ⟨l.u, l.s, l.g.set r9 (_, _), l.p, l.m⟩ (hw4.mono (by omega)) ⟨hD.hs, hD.hp, by show 0 < l.u.length; omega, by show l.u.length ≤ 4; omega, by show 0 < (List.set _ _ _).length; rw [List.length_set]; omega, by show (List.set _ _ _).length ≤ 4; rw [List.length_set]; omega, by show 0 < l.m.length; omega, by show l.m.length ≤ 4; omega, hD.bS, hD.bG.set (by omega) (by omega) (by omega) (by omega), hD.bZ⟩
        | exact q os4 ⟨l.u, l.s, l.g, l.p, l.m.set r9 (_, _)⟩ (hw4.mono (by omega)) ⟨hD.hs, hD.hp, by show 0 < l.u.length; omega, by show l.u.length ≤ 4; omega, by show 0 < l.g.length; omega, by show l.g.length ≤ 4; omega, by show 0 < (List.set _ _ _).length; rw [List.length_set]; omega, by show (List.set _ _ _).length ≤ 4; rw [List.length_set]; omega, hD.bS, hD.bG, hD.bZ.set (by omega) (by omega) (by omega) (by omega)⟩

end L20

end
section

namespace L20
open PySem PySem.Spec PyProof.Rows L2 DL
open PL
local macro_rules | `(tactic| fail "r") => `(tactic| (((with_reducible show DL.GT _ _ _ _ _); dsimp only [DL.wipeD, List.set_cons_zero, List.set_cons_succ])))
local macro_rules | `(tactic| fail "r") => `(tactic| (((with_reducible show DL.GN _ _ _ _); dsimp only [DL.wipeD, List.set_cons_zero, List.set_cons_succ])))
set_option hygiene false in
local macro_rules | `(tactic| fail "lcF") => `(tactic| refine DL.ew_frz (DL.lcN hN nd (by fail "ix") (DL.hscb (hsc _ _ _)) (by decide +kernel) ?_))
local macro_rules | `(tactic| fail "x") => `(tactic| (((with_reducible refine DL.callg_exc ?_); try dsimp only [List.cons_append, List.nil_append])))
local macro_rules | `(tactic| fail "x") => `(tactic| (((with_reducible refine DL.callg_ok ?_); try dsimp only [List.cons_append, List.nil_append])))
local macro_rules | `(tactic| fail "l") => `(tactic| dsimp only [List.set_cons_zero, List.set_cons_succ, List.cons_append, List.nil_append])
set_option hygiene false in
local macro_rules | `(tactic| fail "call") => `(tactic| first
  | refine DL.ew_fn (x := "_law_at") ((ok__law_at T c0).mono (by decide)) hr (by first | exact tk | exact DL.takes_wf | assumption) ?_)
set_option hygiene false in
local macro_rules | `(tactic| fail "s") => `(tactic| ((with_reducible show DL.SW _ _ _ _ _ (.Assign [.Tuple [.Name _ _, .Name _ _, .Name _ _, .Name _ _, .Name _ _] _ _] _ _)); refine DL.asgF (by rfl) hN nd (by fail "ix") (by fail "ix") (by fail "ix") (by fail "ix") (by fail "ix") ?_))
set_option hygiene false in
local macro_rules | `(tactic| fail "s") => `(tactic| ((with_reducible show DL.SW _ _ _ _ _ (.Assign [.Tuple [.Name _ _, .Name _ _, .Name _ _] _ _] (.Tuple [_, _, _] _ _) _)); refine DL.parN3 (by rfl) hN nd (by fail "ix") (by fail "ix") (by fail "ix") ?_))
local macro_rules | `(tactic| fail "x") => `(tactic| ((with_reducible apply Exists.intro); (with_reducible apply Exists.intro); (with_reducible apply Exists.intro); (with_reducible apply And.intro); fail "pt"; (with_reducible apply And.intro); fail "pt"; (with_reducible apply And.intro); fail "pt"; dsimp only))
def F_fits : List D → (Rs → Prop) → Prop := fun ds P => ∃ (l : Lt) (n : Int), ds = [rawD l, .int n] ∧ Rl l ∧ 0 ≤ n ∧ n ≤ 10000 ∧ (¬ Bad (plc l) n → P (.ok (.bl true))) ∧ (Bad (plc l) n → P (.ok (.bl false)))
theorem sc__law_fits : FnScope ["_law_lot_here", "_law_n", "_law_tips", "_law_starts", "_law_step", "_law_goals", "_law_pace", "_law_sizes", "_law_i", "_law_j", "_law_many", "_law_nail"] ["_law_lot_here", "_law_n"] (defScope s__law_fits) := ⟨rfl, rfl, rfl, by decide +kernel, rfl, by decide +kernel, by decide +kernel⟩
theorem ok__law_fits {P : Program} {w : World} {K : PySem.W.Frag} {mg : Str → Option Value} {base : Heap} (T : Tx K mg) (c0 : SaysM ex dfs K) : Df P w K mg base 3 "_law_fits" ["_law_lot_here", "_law_n"] (spP K [false,false] F_fits) := by
  refine df_pure (N := ["_law_lot_here", "_law_n", "_law_tips", "_law_starts", "_law_step", "_law_goals", "_law_pace", "_law_sizes", "_law_i", "_law_j", "_law_many", "_law_nail"]) (fd__law_fits c0) T.g__law_fits sc__law_fits (fun _ _ _ _ _ _ us hl => match us, hl with | [_, _], _ => rfl) rfl (by decide) ?_
  intro cdv A outer s H E hr po c W hO tk hN nd ds Q δ hF hS
  have hsc : ∀ N q f, (FX P w K mg base N q (defScope s__law_fits) f cdv A outer s H E).env.scope = defScope s__law_fits := fun _ _ _ => rfl
  obtain ⟨l, n, rfl, hR, hn0, hn1, q1, q2⟩ := hF
  obtain ⟨δ1, rfl, hS1⟩ := hS.v
  obtain ⟨δ2, rfl, hS2⟩ := hS1.v
  obtain rfl := hS2.n
  show LW _ c W ⟨[some (rawD l), some (.int n), none, none, none, none, none, none, none, none, none, none], []⟩ (fnNd Q) (_ :: _)
  fail "go"
  refine ⟨l.u, n, rfl, hR.u0, by have := hR.u1; omega, hR.bu, by omega, by omega, ?_⟩
  fail "go"
  refine ⟨l.g, n, rfl, hR.g0, by have := hR.g1; omega, hR.bg, by omega, by omega, ?_⟩
  fail "go"
  refine ⟨l.m, n, rfl, hR.m0, by have := hR.m1; omega, hR.bm, by omega, by omega, ?_⟩
  have eu : valIn (plc l).u n = valIn l.u n := least_val hR.u0 n
  have eg : valIn (plc l).g n = valIn l.g n := least_val hR.g0 n
  have em : valIn (plc l).m n = valIn l.m n := least_val hR.m0 n
  have hb : Bad (plc l) n ↔ (valIn l.m n < 0 ∨ (1 ≤ valIn l.m n ∧ ∃ e ∈ [valIn l.u n, valIn l.u n + l.s * (valIn l.m n - 1), valIn l.g n, valIn l.g n + l.p * (valIn l.m n - 1)], e < 0 ∨ n ≤ e)) := by
    unfold Bad endV
    rw [eu, eg, em]
  clear eu eg em
  have hs := hR.s
  have hp := hR.p
  generalize valIn l.u n = u at *
  generalize valIn l.g n = g at *
  generalize valIn l.m n = m at *
  fail "go"
  · rename_i hm
    by_cases hm0 : m = 0
    · subst hm0
      have ed : deq (D.int 0) (D.int 0) = true := by rw [deq_int]; exact decide_eq_true rfl
      rw [ed]
      refine q1 fun h => ?_
      rcases hb.mp h with h | h <;> omega
    · have ed : deq (D.int m) (D.int 0) = false := by rw [deq_int]; exact decide_eq_false hm0
      rw [ed]
      exact q2 (hb.mpr (.inl (by omega)))
  rename_i hm
  obtain ⟨es, ees⟩ : ∃ es, es = [u, u + l.s * (m - 1), g, g + l.p * (m - 1)] := ⟨_, rfl⟩
  have eD : [D.int u, D.int (u + l.s * (m - 1)), D.int g, D.int (g + l.p * (m - 1))] = es.map D.int := by rw [ees]; rfl
  rw [← ees] at hb
  rw [eD]
  refine lc_fil (fun i : Nat => D.int (es.getD i 0)) (fun i : Nat => decide (es.getD i 0 < 0 ∨ n ≤ es.getD i 0)) (by rw [List.length_map, ees]; simp) (fun _ _ _ => .src .lst) (fun h m => gn_mono h m) (fun i d t acc hd hk np => ?_) ?_
  · rw [List.getElem?_map] at hd
    obtain ⟨x9, ex, rfl⟩ := Option.map_eq_some_iff.mp hd
    have eg : es.getD i 0 = x9 := by rw [List.getD_eq_getElem?_getD, ex]; rfl
    rw [eg]
    fail "go"
    · rename_i hx
      refine ⟨(decide_eq_true (.inl hx)).symm, ?_⟩
      intros
      fail "go"
      exact ⟨rfl, rfl⟩
    · rename_i hx
      refine ⟨decide_eq_decide.mpr ⟨.inr, fun h => h.resolve_left (by omega)⟩, rfl, ?_⟩
      intros
      fail "go"
      exact ⟨rfl, rfl⟩
  obtain ⟨zs, ezs⟩ : ∃ zs : List Int, zs = ((List.range (es.map D.int).length).filter fun i : Nat => decide (es.getD i 0 < 0 ∨ n ≤ es.getD i 0)).map fun i : Nat => es.getD i 0 := ⟨_, rfl⟩
  have efl : ((List.range (es.map D.int).length).filter fun i : Nat => decide (es.getD i 0 < 0 ∨ n ≤ es.getD i 0)).map (fun i : Nat => D.int (es.getD i 0)) = zs.map D.int := by
    rw [ezs, List.map_map]
    rfl
  have hB : Bad (plc l) n ↔ zs ≠ [] := by
    rw [hb, ezs]
    constructor
    · intro h
      rcases h with h | ⟨_, e, he, h⟩
      · omega
      · obtain ⟨i, hi, hie⟩ := List.mem_iff_getElem.mp he
        intro hnil
        have hnil := List.map_eq_nil_iff.mp hnil
        have := List.filter_eq_nil_iff.mp hnil i (List.mem_range.mpr (by rw [List.length_map]; exact hi))
        rw [List.getD_eq_getElem?_getD, List.getElem?_eq_getElem hi] at this
        exact this (decide_eq_true (by rw [Option.getD_some, hie]; exact h))
    · intro h
      obtain ⟨d, hd⟩ := List.exists_mem_of_ne_nil _ h
      obtain ⟨i, hi, rfl⟩ := List.mem_map.mp hd
      obtain ⟨hi1, hi2⟩ := List.mem_filter.mp hi
      have hi1 := List.mem_range.mp hi1
      rw [List.length_map] at hi1
      refine .inr ⟨by omega, es.getD i 0, ?_, of_decide_eq_true hi2⟩
      rw [List.getD_eq_getElem?_getD, List.getElem?_eq_getElem hi1]
      exact List.getElem_mem _
  rw [efl]
  clear efl
  fail "go"
  have ed : deq (.lst (zs.map D.int)) (.lst []) = decide (zs = []) := deq_ints (m := [])
  rw [ed]
  by_cases hz : zs = []
  · rw [decide_eq_true hz]
    exact q1 fun h => hB.mp h hz
  · rw [decide_eq_false hz]
    exact q2 (hB.mpr hz)

end L20

end
section

namespace L20
open PySem PySem.Spec PyProof.Rows L2 DL
open PL
theorem xinit_InvalidPattern {P : Program} {w : World} {K : PySem.W.Frag} {mg : Str → Option Value} {base : Heap} (T : Tx K mg) (c0 : SaysM ex dfs K) : FnA P w K mg base 1 (He.ma K (He.ga K "InvalidPattern") "__init__") (spX2 (He.ga K "InvalidPattern") "lot" "n") := by
  obtain ⟨fd, F⟩ := fd_InvalidPattern_init c0
  exact ⟨fd, ["self", "lot", "n"], fn_x2 F ⟨rfl, rfl, rfl, by decide +kernel, rfl, by decide +kernel, by decide +kernel⟩ T.ox_InvalidPattern T.nn_InvalidPattern_lot T.nn_InvalidPattern_n (.inl rfl) (.inl rfl) (.inl rfl) (by decide) (by decide) (by decide) (by decide), F.bindsN fun _ _ _ _ _ _ us hl => match us, hl with | [_, _, _], _ => rfl⟩
namespace LX
def F_islots (K : PySem.W.Frag) : List D → (Rs → Prop) → Prop := fun ds P => ∃ ls : List Lt, ds = [.lst (ls.map (lotD K))] ∧ ls.length ≤ 100 ∧ P (.ok (.bl (decide (1 ≤ ls.length ∧ ls.length ≤ 6))))
set_option hygiene false in
local macro_rules | `(tactic| fail "glob") => `(tactic| refine DL.ew_gintE (x := "MOST_LOTS") T.c_MOST_LOTS ?_)
theorem sc_is_lots : FnScope ["value", "lot"] ["value"] (defScope s_is_lots) := ⟨rfl, rfl, rfl, by decide +kernel, rfl, by decide +kernel, by decide +kernel⟩
theorem ok_is_lots {P : Program} {w : World} {K : PySem.W.Frag} {mg : Str → Option Value} {base : Heap} (T : Tx K mg) (c0 : SaysM ex dfs K) : Df P w K mg base 1 "is_lots" ["value"] (spP K [false] (F_islots K)) := by
  refine df_pure (N := ["value", "lot"]) (fd_is_lots c0) T.g_is_lots sc_is_lots (fun _ _ _ _ _ _ us hl => match us, hl with | [_], _ => rfl) rfl (by decide) ?_
  intro cdv A outer s H E hr po c W hO tk hN nd ds Q δ hF hS
  have hsc : ∀ N q f, (FX P w K mg base N q (defScope s_is_lots) f cdv A outer s H E).env.scope = defScope s_is_lots := fun _ _ _ => rfl
  obtain ⟨ls, rfl, h9, q⟩ := hF
  obtain ⟨δ1, rfl, hS1⟩ := hS.v
  obtain rfl := hS1.n
  show LW _ c W ⟨[some (.lst (ls.map (lotD K))), none], []⟩ (fnNd Q) (_ :: _)
  have hlm : ((ls.map (lotD K)).length : Int) = ls.length := by rw [List.length_map]
  fail "go"
  refine ⟨1, _, rfl, rfl, fun h1 => ?_, fun h1 => ?_⟩
  · have h1 := of_decide_eq_true h1
    rw [hlm] at h1
    fail "go"
    · rename_i h2
      rw [hlm] at h2
      rw [decide_eq_false (show ¬ (1 ≤ ls.length ∧ ls.length ≤ 6) by omega)] at q
      exact q
    · rename_i h2
      rw [hlm] at h2
      rw [decide_eq_true (show 1 ≤ ls.length ∧ ls.length ≤ 6 by omega)] at q
      refine ⟨fun i s' => ∃ o1 : Option D, s' = ⟨[some (.lst (ls.map (lotD K))), o1], []⟩, ⟨none, rfl⟩, fun _ _ _ => .src .lst, ?_, ?_⟩
      · rintro i d s' hd ⟨o1, rfl⟩
        rw [List.getElem?_map] at hd
        obtain ⟨l, el, rfl⟩ := Option.map_eq_some_iff.mp hd
        apply DL.GN.mk ?pt ?kk
        case pt => fail "pt"
        fail "go"
        exact ⟨_, rfl⟩
      · rintro s' ⟨o1, rfl⟩
        fail "go"
        exact q
  · have h1 := of_decide_eq_false h1
    rw [hlm] at h1
    fail "go"
    rw [decide_eq_false (show ¬ (1 ≤ ls.length ∧ ls.length ≤ 6) by omega)] at q
    exact q
def PatR (ls : List Lt) (L : Int) : Option (Nat × Int) → Prop
  | none => ∀ l ∈ ls, ∀ n, L ≤ n → ¬ Bad l n
  | some (i, n) => ∃ l, ls[i]? = some l ∧ Fst0 l L (some n) ∧ ∀ j l', j < i → ls[j]? = some l' → Fst0 l' L none
local macro_rules | `(tactic| fail "nnn") => `(tactic| first | decide | exact setF_lt (n := 999) (by decide) | exact setF_lt (n := 999) (setF_lt (n := 998) (by decide)) | exact setF_lt (n := 999) (setF_lt (n := 998) (setF_lt (n := 997) (by decide))) | exact setF_lt (n := 999) (setF_lt (n := 998) (setF_lt (n := 997) (setF_lt (n := 996) (by decide)))) | exact setF_lt (n := 999) (setF_lt (n := 998) (setF_lt (n := 997) (setF_lt (n := 996) (setF_lt (n := 995) (by decide))))))
set_option hygiene false in
local macro_rules | `(tactic| fail "call") => `(tactic| first
  | refine DL.ew_fn (x := "is_integer") ((ok_is_integer T c0).mono (by decide)) hr (by first | exact tk | exact DL.takes_wf | assumption) ?_
  | refine DL.ew_fn (x := "is_lots") ((ok_is_lots T c0).mono (by decide)) hr (by first | exact tk | exact DL.takes_wf | assumption) ?_
  | refine DL.ew_fn (x := "first_misfit") ((ok_first_misfit T c0).mono (by decide)) hr (by first | exact tk | exact DL.takes_wf | assumption) ?_)
local macro_rules | `(tactic| fail "call") => `(tactic| fail)
def F_patini (K : PySem.W.Frag) : Ow → List D → (Rs → Ow → Prop) → Prop := fun o ds P => ∃ (a : Addr) (ls : List Lt) (L : Int), o = ⟨[], [(a, He.ga K "Pattern", [])]⟩ ∧ ds = [.ref a, .lst (ls.map (lotD K)), .int L] ∧ ls.length ≤ 100 ∧ (∀ l ∈ ls, Sp l ∧ bdL l ∧ ∃ B, Per l B ∧ 0 < B ∧ B ≤ 500) ∧
  (¬ (1 ≤ ls.length ∧ ls.length ≤ 6 ∧ 1 ≤ L) → P (.exc (.ref (He.ga K "InvalidPattern")) (some [("n", .non), ("lot", .non)])) ⟨[], []⟩) ∧
  (1 ≤ ls.length ∧ ls.length ≤ 6 ∧ 1 ≤ L → (∀ i n, PatR ls L (some (i, n)) → P (.exc (.ref (He.ga K "InvalidPattern")) (some [("n", .int n), ("lot", .int (i : Int))])) ⟨[], []⟩) ∧
    (PatR ls L none → P (.ok .non) ⟨[], [(a, He.ga K "Pattern", [("row", .lst (ls.map (lotD K))), ("first", .int L)])]⟩))
theorem sc_Pattern_init : FnScope ["self", "lots", "least", "index", "lot", "n"] ["self", "lots", "least"] (defScope s_Pattern_init) := ⟨rfl, rfl, rfl, by decide +kernel, rfl, by decide +kernel, by decide +kernel⟩
theorem ok_Pattern_init {P : Program} {w : World} {K : PySem.W.Frag} {mg : Str → Option Value} {base : Heap} (T : Tx K mg) (c0 : SaysM ex dfs K) : FnA P w K mg base 4 ((fun K => He.ma K (He.ga K "Pattern") "__init__") K) (spG K (F_patini K)) := by
  refine fa_gen (N := ["self", "lots", "least", "index", "lot", "n"]) (fd_Pattern_init c0) sc_Pattern_init (fun _ _ _ _ _ _ us hl => match us, hl with | [_, _, _], _ => rfl) (by decide) ?_ ?_
  rotate_left
  intro cdv A outer s H E hr po c W ow hO tk hN nd ds Q hF
  have hsc : ∀ N q f, (FX P w K mg base N q (defScope s_Pattern_init) f cdv A outer s H E).env.scope = defScope s_Pattern_init := fun _ _ _ => rfl
  obtain ⟨a0, ls, L, rfl, rfl, h9, hls, q1, q2⟩ := hF
  show LW _ c W (@S.mk [some (.ref a0), some (.lst (ls.map (lotD K))), some (.int L), none, none, none] [] ⟨[(a0, He.ga K "Pattern", [])]⟩) (fnNdG _ Q) (_ :: _)
  fail "go"
  case refine_1 =>
    rintro o ds Q ⟨a0, ls, L, rfl, rfl, _⟩
    rfl
  refine ⟨ls, rfl, h9, ?_⟩
  obtain ⟨b, eb⟩ : ∃ b, b = decide (1 ≤ ls.length ∧ ls.length ≤ 6) := ⟨_, rfl⟩
  rw [← eb]
  cases b with
  | false =>
    have h1 := of_decide_eq_false eb.symm
    fail "go"
    all_goals exact ⟨Sc.non, Sc.non, ⟨[], []⟩, List.nil_sublist _, List.nil_sublist _, q1 fun z => h1 ⟨z.1, z.2.1⟩⟩
  | true =>
    have h1 := of_decide_eq_true eb.symm
    fail "go"
    refine ⟨L, rfl, ?_⟩
    fail "go"
    · rename_i h2
      exact ⟨Sc.non, Sc.non, ⟨[], []⟩, List.nil_sublist _, List.nil_sublist _, q1 fun z => by omega⟩
    · rename_i h2
      obtain ⟨q2, q3⟩ := q2 ⟨h1.1, h1.2, h2⟩
      refine ⟨fun i s' => ∃ o3 o4 o5 : Option D, s' = (@S.mk [some (.ref a0), some (.lst (ls.map (lotD K))), some (.int L), o3, o4, o5] [] ⟨[(a0, He.ga K "Pattern", [])]⟩) ∧ ∀ j l', j < i → ls[j]? = some l' → Fst0 l' L none, ⟨none, none, none, rfl, fun j l' h => absurd h (by omega)⟩, fun _ _ _ => .src .lst, ?_, ?_⟩
      · rintro i d s' hd ⟨o3, o4, o5, rfl, hI⟩
        rw [List.getElem?_map, List.getElem?_zipIdx, List.getElem?_map] at hd
        cases el : ls[i]? with
        | none =>
          rw [el] at hd
          cases hd
        | some l =>
          rw [el, Nat.zero_add] at hd
          cases hd
          obtain ⟨hs, hb, B, hP, hB0, hB1⟩ := hls l (List.mem_of_getElem? el)
          show GT 2 _ (.tup [.int (i : Int), lotD K l]) _ _
          fail "go"
          refine ⟨l, L, B, rfl, hs, hP, hB0, hB1, hb, fun o ho => ?_⟩
          cases o with
          | some n =>
            have hres := q2 i n ⟨l, el, ho, hI⟩
            dsimp only [optI]
            fail "go"
            all_goals first
              | (exfalso; rename_i h; cases h; done)
              | exact ⟨Sc.int, Sc.int, ⟨[], []⟩, List.nil_sublist _, List.nil_sublist _, hres⟩
          | none =>
            dsimp only [optI]
            fail "go"
            all_goals first
              | (exfalso; rename_i h; cases h; done)
              | (refine ⟨_, _, _, rfl, fun j l' hj ej => ?_⟩; rcases Nat.lt_or_ge j i with c | c; exact hI j l' c ej; (have e : j = i := by omega); subst e; rw [el] at ej; cases ej; exact ho)
      · rintro s' ⟨o3, o4, o5, rfl, hI⟩
        simp only [List.length_zipIdx, List.length_map] at hI
        have hres := q3 fun l hl n hn => by
          obtain ⟨j, hj, e⟩ := List.getElem_of_mem hl
          exact hI j l hj (by rw [List.getElem?_eq_getElem hj, e]) n hn
        fail "go"
        exact .mk ⟨[], [(a0, He.ga K "Pattern", [("row", .lst (ls.map (lotD K))), ("first", .int L)])]⟩ (by fail "sub") (by fail "sub") .id hres
end LX

end L20

end
section

namespace L20
open PySem PySem.Spec PyProof.Rows L2 DL
open PL
theorem q12' {n : Nat} (h0 : 0 < n) (h4 : n ≤ 4) : n ∣ 12 := by
  obtain rfl | rfl | rfl | rfl : n = 1 ∨ n = 2 ∨ n = 3 ∨ n = 4 := by omega
  all_goals decide
theorem Rl.per {l : Lt} (h : Rl l) : Per (plc l) 12 :=
  ⟨(least_len h.u0).1, (least_len h.g0).1, (least_len h.m0).1, Nat.dvd_trans (least_dvd h.u0) (q12' h.u0 h.u1), Nat.dvd_trans (least_dvd h.g0) (q12' h.g0 h.g1), Nat.dvd_trans (least_dvd h.m0) (q12' h.m0 h.m1)⟩
theorem Rl.sp {l : Lt} (h : Rl l) : Sp (plc l) := ⟨h.s, h.p⟩
theorem Rl.bdl {l : Lt} (h : Rl l) : bdL (plc l) := ⟨sm_bd h.bu, sm_bd h.bg, sm_bd h.bm⟩
theorem Rl.far {l : Lt} {L : Int} (h : Rl l) (h0 : 1 ≤ L) (h1 : L ≤ 40) (hb : ∀ n, L ≤ n → n < L + 900 → ¬ Bad (plc l) n) : ∀ n, L ≤ n → ¬ Bad (plc l) n :=
  PL.bad_far h.per (by decide) (by decide) (by have := h.s; show 1 ≤ l.s; omega) h0 h1 hb
def pairD : Option (Nat × Int) → D
  | none => .non
  | some (i, n) => .tup [.int (i : Int), .int n]
local macro_rules | `(tactic| fail "r") => `(tactic| (((with_reducible show DL.GT _ _ _ _ _); dsimp only [DL.wipeD, List.set_cons_zero, List.set_cons_succ])))
local macro_rules | `(tactic| fail "r") => `(tactic| (((with_reducible show DL.GN _ _ _ _); dsimp only [DL.wipeD, List.set_cons_zero, List.set_cons_succ])))
set_option hygiene false in
local macro_rules | `(tactic| fail "lcF") => `(tactic| refine DL.ew_frz (DL.lcN hN nd (by fail "ix") (DL.hscb (hsc _ _ _)) (by decide +kernel) ?_))
local macro_rules | `(tactic| fail "x") => `(tactic| (((with_reducible refine DL.callg_exc ?_); try dsimp only [List.cons_append, List.nil_append])))
local macro_rules | `(tactic| fail "x") => `(tactic| (((with_reducible refine DL.callg_ok ?_); try dsimp only [List.cons_append, List.nil_append])))
local macro_rules | `(tactic| fail "l") => `(tactic| dsimp only [List.set_cons_zero, List.set_cons_succ, List.cons_append, List.nil_append])
set_option hygiene false in
local macro_rules | `(tactic| fail "call") => `(tactic| first
  | refine DL.ew_fn (x := "_law_fits") ((ok__law_fits T c0).mono (by decide)) hr (by first | exact tk | exact DL.takes_wf | assumption) ?_)
def F_lfm : List D → (Rs → Prop) → Prop := fun ds P => ∃ (ls : List Lt) (L : Int), ds = [.lst (ls.map rawD), .int L] ∧ ls.length ≤ 6 ∧ 1 ≤ L ∧ L ≤ 40 ∧ (∀ l ∈ ls, Rl l) ∧ ∀ o, LX.PatR (ls.map plc) L o → P (.ok (pairD o))
theorem sc__law_first_misfit : FnScope ["_law_lots", "_law_least", "_law_k", "_law_n"] ["_law_lots", "_law_least"] (defScope s__law_first_misfit) := ⟨rfl, rfl, rfl, by decide +kernel, rfl, by decide +kernel, by decide +kernel⟩
theorem ok__law_first_misfit {P : Program} {w : World} {K : PySem.W.Frag} {mg : Str → Option Value} {base : Heap} (T : Tx K mg) (c0 : SaysM ex dfs K) : Df P w K mg base 4 "_law_first_misfit" ["_law_lots", "_law_least"] (spP K [false,false] F_lfm) := by
  refine df_pure (N := ["_law_lots", "_law_least", "_law_k", "_law_n"]) (fd__law_first_misfit c0) T.g__law_first_misfit sc__law_first_misfit (fun _ _ _ _ _ _ us hl => match us, hl with | [_, _], _ => rfl) rfl (by decide) ?_
  intro cdv A outer s H E hr po c W hO tk hN nd ds Q δ hF hS
  have hsc : ∀ N q f, (FX P w K mg base N q (defScope s__law_first_misfit) f cdv A outer s H E).env.scope = defScope s__law_first_misfit := fun _ _ _ => rfl
  obtain ⟨ls, L, rfl, hl6, hL0, hL1, hR, q⟩ := hF
  obtain ⟨δ1, rfl, hS1⟩ := hS.v
  obtain ⟨δ2, rfl, hS2⟩ := hS1.v
  obtain rfl := hS2.n
  show LW _ c W ⟨[some (.lst (ls.map rawD)), some (.int L), none, none], []⟩ (fnNd Q) (_ :: _)
  fail "go"
  refine ⟨fun i s' => (∃ o2 o3 : Option D, s' = ⟨[some (.lst (ls.map rawD)), some (.int L), o2, o3], []⟩) ∧ ∀ j l, j < i → ls[j]? = some l → ∀ n, L ≤ n → ¬ Bad (plc l) n, ⟨⟨none, none, rfl⟩, fun j l h => absurd h (by omega)⟩, fun _ _ _ => trivial, ?_, ?_⟩
  · rintro i d s' hd ⟨⟨o2, o3, rfl⟩, hp⟩
    obtain ⟨rfl, hi⟩ := rgD_of hd
    rw [List.length_map] at hi
    have hi : i < ls.length := by omega
    obtain ⟨li, eli⟩ : ∃ li, ls[i]? = some li := ⟨ls[i], List.getElem?_eq_getElem hi⟩
    have hRi := hR li (List.mem_of_getElem? eli)
    have hat : atI (ls.map rawD) (i : Int) = some (rawD li) := at_in (by omega) (by rw [List.getElem?_map, Int.toNat_natCast, eli]; rfl)
    rw [Int.zero_add]
    apply DL.GN.mk ?pt ?kk
    case pt => fail "pt"
    fail "go"
    refine ⟨_, _, rfl, rfl, ⟨by omega, by omega, by omega, by omega⟩, ?_⟩
    refine ⟨fun j s' => (∃ o3 : Option D, s' = ⟨[some (.lst (ls.map rawD)), some (.int L), some (.int (i : Int)), o3], []⟩) ∧ ∀ n, L ≤ n → n < L + j → ¬ Bad (plc li) n, ⟨⟨_, rfl⟩, fun n a b => by omega⟩, fun _ _ _ => trivial, ?_, ?_⟩
    · rintro j d s' hd ⟨⟨o3, rfl⟩, hn⟩
      obtain ⟨rfl, hj⟩ := rgD_of hd
      apply DL.GN.mk ?pt2 ?kk2
      case pt2 => fail "pt"
      fail "go"
      refine ⟨li, L + j, rfl, hRi, by omega, by omega, fun hb => ?_, fun hb => ?_⟩
      · fail "go"
        refine ⟨⟨_, rfl⟩, fun n a b => ?_⟩
        rcases Int.lt_or_le n (L + j) with c | c
        · exact hn n a c
        · rw [show n = L + j by omega]
          exact hb
      · fail "go"
        exact q (some (i, L + j)) ⟨plc li, by rw [List.getElem?_map, eli]; rfl, ⟨by omega, hb, fun n a b => hn n a b⟩, fun j' l' hj' el' => by
          rw [List.getElem?_map] at el'
          obtain ⟨l9, e9, rfl⟩ := Option.map_eq_some_iff.mp el'
          exact hp j' l9 hj' e9⟩
    · rintro s' ⟨⟨o3, rfl⟩, hn⟩
      rw [rgD_len] at hn
      refine ⟨⟨_, _, rfl⟩, fun j l hj el n hLn => ?_⟩
      rcases Nat.lt_or_ge j i with c | c
      · exact hp j l c el n hLn
      · obtain rfl : j = i := by omega
        rw [eli] at el
        cases el
        exact hRi.far hL0 hL1 (fun n a b => hn n a (by omega)) n hLn
  rintro s' ⟨⟨o2, o3, rfl⟩, hp⟩
  rw [rgD_len, List.length_map, Int.toNat_natCast] at hp
  fail "go"
  exact q none fun l hl n hn => by
    obtain ⟨l9, h9, rfl⟩ := List.mem_map.mp hl
    obtain ⟨j, hj, e⟩ := List.mem_iff_getElem.mp h9
    exact hp j l9 hj (by rw [List.getElem?_eq_getElem hj, e]) n hn

end L20

end
section

namespace L20
open PySem PySem.Spec PyProof.Rows L2 DL
open PL
namespace LX
local macro_rules | `(tactic| fail "r") => `(tactic| (((with_reducible show DL.GT _ _ _ _ _); dsimp only [DL.wipeD, List.set_cons_zero, List.set_cons_succ])))
local macro_rules | `(tactic| fail "r") => `(tactic| (((with_reducible show DL.GN _ _ _ _); dsimp only [DL.wipeD, List.set_cons_zero, List.set_cons_succ])))
set_option hygiene false in
local macro_rules | `(tactic| fail "lcF") => `(tactic| refine DL.ew_frz (DL.lcN hN nd (by fail "ix") (DL.hscb (hsc _ _ _)) (by decide +kernel) ?_))
local macro_rules | `(tactic| fail "x") => `(tactic| (((with_reducible refine DL.callg_exc ?_); try dsimp only [List.cons_append, List.nil_append])))
local macro_rules | `(tactic| fail "x") => `(tactic| (((with_reducible refine DL.callg_ok ?_); try dsimp only [List.cons_append, List.nil_append])))
local macro_rules | `(tactic| fail "l") => `(tactic| dsimp only [List.set_cons_zero, List.set_cons_succ, List.cons_append, List.nil_append])
set_option hygiene false in
local macro_rules | `(tactic| fail "call") => `(tactic| first
  | refine DL.ew_frzI (DL.ew_make (x := "Pattern") T.mk_Pattern ((ok_Pattern_init T c0).mono (by decide)) hr (by first | exact tk | exact DL.takes_wf | assumption) T.g_Pattern ?_))
def F_said (K : PySem.W.Frag) : List D → (Rs → Prop) → Prop := fun ds P => ∃ (ls : List Lt) (L : Int), ds = [.lst (ls.map (lotD K)), .int L] ∧ 1 ≤ ls.length ∧ ls.length ≤ 6 ∧ 1 ≤ L ∧ (∀ l ∈ ls, Sp l ∧ bdL l ∧ ∃ B, Per l B ∧ 0 < B ∧ B ≤ 500) ∧ ∀ o, PatR ls L o → P (.ok (pairD o))
theorem sc__law_said : FnScope ["_law_lots", "_law_least", "_law_told", "e"] ["_law_lots", "_law_least"] (defScope s__law_said) := ⟨rfl, rfl, rfl, by decide +kernel, rfl, by decide +kernel, by decide +kernel⟩
theorem ok__law_said {P : Program} {w : World} {K : PySem.W.Frag} {mg : Str → Option Value} {base : Heap} (T : Tx K mg) (c0 : SaysM ex dfs K) : Df P w K mg base 7 "_law_said" ["_law_lots", "_law_least"] (spP K [false,false] (F_said K)) := by
  refine df_pure (N := ["_law_lots", "_law_least", "_law_told", "e"]) (fd__law_said c0) T.g__law_said sc__law_said (fun _ _ _ _ _ _ us hl => match us, hl with | [_, _], _ => rfl) rfl (by decide) ?_
  intro cdv A outer s H E hr po c W hO tk hN nd ds Q δ hF hS
  have hsc : ∀ N q f, (FX P w K mg base N q (defScope s__law_said) f cdv A outer s H E).env.scope = defScope s__law_said := fun _ _ _ => rfl
  obtain ⟨ls, L, rfl, hl1, hl6, hL, hls, q⟩ := hF
  obtain ⟨δ1, rfl, hS1⟩ := hS.v
  obtain ⟨δ2, rfl, hS2⟩ := hS1.v
  obtain rfl := hS2.n
  show LW _ c W ⟨[some (.lst (ls.map (lotD K))), some (.int L), none, none], []⟩ (fnNd Q) (_ :: _)
  fail "go"
  refine ⟨⟨[], [(_, He.ga K "Pattern", [])]⟩, _, _, spl_no _, .take (spl_no _), _, ls, L, rfl, rfl, by omega, hls, fun z => absurd ⟨hl1, hl6, hL⟩ z, fun _ => ⟨fun i n hp _ => ?_, fun hp _ => ?_⟩⟩
  · fail "go"
    refine hf_as T.m_InvalidPattern_InvalidPattern rfl rfl fun pe ob ps2 c2 hO2 hr2 hx hf => ?_
    fail "go"
    exact q (some (i, n)) hp
  · fail "go"
    refine ⟨rfl, _, _, _, _, rfl, by assumption, rfl, ?_⟩
    fail "go"
    exact q none hp
end LX

end L20

end
section

namespace L20
open PySem PySem.Spec PyProof.Rows L2 DL
open PL
local macro_rules | `(tactic| fail "r") => `(tactic| (((with_reducible show DL.GT _ _ _ _ _); dsimp only [DL.wipeD, List.set_cons_zero, List.set_cons_succ])))
local macro_rules | `(tactic| fail "r") => `(tactic| (((with_reducible show DL.GN _ _ _ _); dsimp only [DL.wipeD, List.set_cons_zero, List.set_cons_succ])))
set_option hygiene false in
local macro_rules | `(tactic| fail "lcF") => `(tactic| refine DL.ew_frz (DL.lcN hN nd (by fail "ix") (DL.hscb (hsc _ _ _)) (by decide +kernel) ?_))
local macro_rules | `(tactic| fail "x") => `(tactic| (((with_reducible refine DL.callg_exc ?_); try dsimp only [List.cons_append, List.nil_append])))
local macro_rules | `(tactic| fail "x") => `(tactic| (((with_reducible refine DL.callg_ok ?_); try dsimp only [List.cons_append, List.nil_append])))
local macro_rules | `(tactic| fail "l") => `(tactic| dsimp only [List.set_cons_zero, List.set_cons_succ, List.cons_append, List.nil_append])
def F_ispair : List D → (Rs → Prop) → Prop := fun ds P => ∃ o : Option (Nat × Int), ds = [pairD o, pairD o] ∧ P (.ok (.bl true))
theorem sc__law_is_pair : FnScope ["_law_told", "_law_due", "_law_k"] ["_law_told", "_law_due"] (defScope s__law_is_pair) := ⟨rfl, rfl, rfl, by decide +kernel, rfl, by decide +kernel, by decide +kernel⟩
theorem ok__law_is_pair {P : Program} {w : World} {K : PySem.W.Frag} {mg : Str → Option Value} {base : Heap} (T : Tx K mg) (c0 : SaysM ex dfs K) : Df P w K mg base 2 "_law_is_pair" ["_law_told", "_law_due"] (spP K [false,false] F_ispair) := by
  refine df_pure (N := ["_law_told", "_law_due", "_law_k"]) (fd__law_is_pair c0) T.g__law_is_pair sc__law_is_pair (fun _ _ _ _ _ _ us hl => match us, hl with | [_, _], _ => rfl) rfl (by decide) ?_
  intro cdv A outer s H E hr po c W hO tk hN nd ds Q δ hF hS
  have hsc : ∀ N q f, (FX P w K mg base N q (defScope s__law_is_pair) f cdv A outer s H E).env.scope = defScope s__law_is_pair := fun _ _ _ => rfl
  obtain ⟨o, rfl, q⟩ := hF
  rcases o with _ | ⟨i9, n9⟩
  · obtain ⟨δ1, rfl, hS1⟩ := hS.v
    obtain ⟨δ2, rfl, hS2⟩ := hS1.v
    obtain rfl := hS2.n
    show LW _ c W ⟨[some .non, some .non, none], []⟩ (fnNd Q) (_ :: _)
    fail "go"
    all_goals first
      | exact q
      | (rename_i hx; exact absurd hx (by decide))
  · obtain ⟨δ1, rfl, hS1⟩ := hS.v
    obtain ⟨δ2, rfl, hS2⟩ := hS1.v
    obtain rfl := hS2.n
    show LW _ c W ⟨[some (.tup [.int (i9 : Int), .int n9]), some (.tup [.int (i9 : Int), .int n9]), none], []⟩ (fnNd Q) (_ :: _)
    fail "go"
    all_goals try (exfalso; have hx : DL.isNon (D.tup [D.int (i9 : Int), D.int n9]) = true := by assumption
                   exact absurd hx (by show ¬ (false = true); decide))
    refine ⟨fun i s' => ∃ o2 : Option D, s' = ⟨[some (.tup [.int (i9 : Int), .int n9]), some (.tup [.int (i9 : Int), .int n9]), o2], []⟩, ⟨none, rfl⟩, fun _ _ _ => trivial, ?_, ?_⟩
    · rintro i d s' hd ⟨o2, rfl⟩
      obtain ⟨rfl, hi⟩ := rgD_of hd
      obtain ⟨x, hat⟩ : ∃ x : Int, atI [D.int (i9 : Int), D.int n9] (0 + (i : Int)) = some (.int x) := by
        obtain rfl | rfl : i = 0 ∨ i = 1 := by omega
        · exact ⟨_, rfl⟩
        · exact ⟨_, rfl⟩
      apply DL.GN.mk ?pt ?kk
      case pt => fail "pt"
      fail "go"
      all_goals first
        | exact ⟨_, rfl⟩
        | (rename_i hx; exact absurd hx (by decide))
        | (rename_i hx; exact absurd rfl hx)
    · rintro s' ⟨o2, rfl⟩
      fail "go"
      exact q

end L20

end
section

namespace L20
open PySem PySem.Spec PyProof.Rows L2 DL
open PL
theorem menu_ok : Menu [1, 2] [1, 2, -1, -2] := ⟨by decide, by decide, fun s h => by simp at h; omega, by decide, by decide, fun p h => by simp at h; omega⟩
theorem drn_rl {Q : Nat} {L : Int} {l : Lt} (hD : Drn Q L l) (hQ : 0 < Q) (hQ4 : Q ≤ 4) : Rl l := by
  have a := hD.lS
  have b := hD.lG
  have e := hD.lZ
  exact ⟨hD.hs, hD.hp, by omega, by omega, by omega, by omega, by omega, by omega, hD.bS, hD.bG, hD.bZ⟩
theorem patR_cut {ls : List Lt} {L n : Int} {i : Nat} (h : LX.PatR ls L (some (i, n))) : LX.PatR (ls.take i) L none := by
  obtain ⟨l, el, _, hp⟩ := h
  intro l' hl' m hm
  obtain ⟨j, hj, e⟩ := List.mem_iff_getElem.mp hl'
  rw [List.length_take] at hj
  rw [List.getElem_take] at e
  exact hp j l' (by omega) (by rw [List.getElem?_eq_getElem (by omega), e]) m hm
theorem patR_uniq {ls : List Lt} {L : Int} {o o' : Option (Nat × Int)} (h : LX.PatR ls L o) (h' : LX.PatR ls L o') : o = o' := by
  have key : ∀ {i n i' n'}, LX.PatR ls L (some (i, n)) → LX.PatR ls L (some (i', n')) → i ≤ i' := fun {i n i' n'} a b => by
    obtain ⟨l, el, f, p⟩ := a
    obtain ⟨l', el', f', p'⟩ := b
    apply Classical.byContradiction
    intro c
    exact p i' l' (by omega) el' n' f'.1 f'.2.1
  rcases o with _ | ⟨i, n⟩ <;> rcases o' with _ | ⟨i', n'⟩
  · rfl
  · obtain ⟨l, el, f, p⟩ := h'
    exact absurd f.2.1 (h l (List.mem_of_getElem? el) n' f.1)
  · obtain ⟨l, el, f, p⟩ := h
    exact absurd f.2.1 (h' l (List.mem_of_getElem? el) n f.1)
  · obtain rfl : i = i' := Nat.le_antisymm (key h h') (key h' h)
    obtain ⟨l, el, f, p⟩ := h
    obtain ⟨l', el', f', p'⟩ := h'
    rw [el] at el'
    cases el'
    rcases Int.lt_trichotomy n n' with c | c | c
    · exact absurd f.2.1 (f'.2.2 n f.1 c)
    · rw [c]
    · exact absurd f'.2.1 (f.2.2 n' f'.1 c)
open LX
local macro_rules | `(tactic| fail "r") => `(tactic| (((with_reducible show DL.GT _ _ _ _ _); dsimp only [DL.wipeD, List.set_cons_zero, List.set_cons_succ])))
local macro_rules | `(tactic| fail "r") => `(tactic| (((with_reducible show DL.GN _ _ _ _); dsimp only [DL.wipeD, List.set_cons_zero, List.set_cons_succ])))
set_option hygiene false in
local macro_rules | `(tactic| fail "lcF") => `(tactic| refine DL.ew_frz (DL.lcN hN nd (by fail "ix") (DL.hscb (hsc _ _ _)) (by decide +kernel) ?_))
local macro_rules | `(tactic| fail "x") => `(tactic| (((with_reducible refine DL.callg_exc ?_); try dsimp only [List.cons_append, List.nil_append])))
local macro_rules | `(tactic| fail "x") => `(tactic| (((with_reducible refine DL.callg_ok ?_); try dsimp only [List.cons_append, List.nil_append])))
local macro_rules | `(tactic| fail "l") => `(tactic| dsimp only [List.set_cons_zero, List.set_cons_succ, List.cons_append, List.nil_append])
set_option hygiene false in
local macro_rules | `(tactic| fail "call") => `(tactic| first
  | refine DL.ew_fn (x := "_law_well") ((ok__law_well T c0).mono (by decide)) hr (by first | exact tk | exact DL.takes_wf | assumption) ?_
  | refine DL.ew_fnM (x := "_law_draw") ((ok__law_draw T c0).mono (by decide)) hr (by first | exact tk | exact DL.takes_wf | assumption) ?_
  | refine DL.ew_fnM (x := "_law_lot") ((ok__law_lot T c0).mono (by decide)) hr (by first | exact tk | exact DL.takes_wf | assumption) ?_
  | refine DL.ew_fnM (x := "_law_mild") ((ok__law_mild T c0).mono (by decide)) hr (by first | exact tk | exact DL.takes_wf | assumption) ?_
  | refine DL.ew_fnM (x := "_law_wild") ((ok__law_wild T c0).mono (by decide)) hr (by first | exact tk | exact DL.takes_wf | assumption) ?_
  | refine DL.ew_fnM (x := "_law_made") ((ok__law_made T c0).mono (by decide)) hr (by first | exact tk | exact DL.takes_wf | assumption) ?_
  | refine DL.ew_fn (x := "_law_first_misfit") ((ok__law_first_misfit T c0).mono (by decide)) hr (by first | exact tk | exact DL.takes_wf | assumption) ?_
  | refine DL.ew_fn (x := "_law_said") ((ok__law_said T c0).mono (by decide)) hr (by first | exact tk | exact DL.takes_wf | assumption) ?_
  | refine DL.ew_fn (x := "_law_is_pair") ((ok__law_is_pair T c0).mono (by decide)) hr (by first | exact tk | exact DL.takes_wf | assumption) ?_)
set_option hygiene false in
local macro_rules | `(tactic| fail "s") => `(tactic| ((with_reducible show DL.SW _ _ _ _ _ (.Assign [.Tuple [.Name _ _, .Name _ _, .Name _ _] _ _] (.Tuple [_, _, _] _ _) _)); refine DL.parN3 (by rfl) hN nd (by fail "ix") (by fail "ix") (by fail "ix") ?_))
local macro_rules | `(tactic| fail "x") => `(tactic| ((with_reducible apply Exists.intro); (with_reducible apply Exists.intro); (with_reducible apply Exists.intro); (with_reducible apply And.intro); fail "pt"; (with_reducible apply And.intro); fail "pt"; (with_reducible apply And.intro); fail "pt"; dsimp only))
local macro_rules | `(tactic| fail "e") => `(tactic| ((with_reducible show DL.EW _ _ _ _ _ _ (.List [] _)); refine DL.ew_lstO ?_))
set_option hygiene false in
local macro_rules | `(tactic| fail "e") => `(tactic| ((have hfz : DL.OwnN "frz" := by (with_reducible assumption)); clear hfz; (with_reducible show DL.EW _ _ _ _ _ _ (.Name "_law_lots" _)); refine DL.ew_frz ?_; refine DL.en hN (by fail "ix") (by fail "at") ?_; refine ⟨_, _, _, rfl, by (first | assumption | fail "nin"), rfl, ?_⟩))
def rst (k : Nat) : List Stmt := (defBody s_law).drop k
inductive StopR : Prop
  | mk
local macro_rules | `(tactic| fail "rst") => `(tactic| (fail_if_success (have hstR : StopR := by with_reducible assumption)); first | ((with_reducible show DL.LW _ _ _ _ _ (rst 0)); show DL.LW _ _ _ _ _ (_ :: rst 1)) | ((with_reducible show DL.LW _ _ _ _ _ (rst 1)); show DL.LW _ _ _ _ _ (_ :: rst 2)) | ((with_reducible show DL.LW _ _ _ _ _ (rst 2)); show DL.LW _ _ _ _ _ []))
local macro_rules | `(tactic| fail "step") => `(tactic| first | fail "rst" | fail "step0")
theorem sc_law : FnScope ["_law_script", "_law_at_here", "_law_well_here", "_law_k", "_law_ready", "_law_due", "_law_least", "_law_menu", "_law_lots", "_law_cycle", "_law_lot_here", "_law_way"] ["_law_script"] (defScope s_law) := ⟨rfl, rfl, rfl, by decide +kernel, rfl, by decide +kernel, by decide +kernel⟩
theorem ok_law {P : Program} {w : World} {K : PySem.W.Frag} {mg : Str → Option Value} {base : Heap} {f : Addr} {fd : FuncData} (T : Tx K mg) (c0 : SaysM ex dfs K) (F : FunD K "law" "law" (defArgs s_law) (defBody s_law) (defScope s_law) [] [] f fd) : FnOk P w K mg base (L2.CX P w) 10 f fd ["_law_script"] (spP K [false] lawF) := by
  refine df_law (N := ["_law_script", "_law_at_here", "_law_well_here", "_law_k", "_law_ready", "_law_due", "_law_least", "_law_menu", "_law_lots", "_law_cycle", "_law_lot_here", "_law_way"]) F sc_law rfl (by decide) ?_
  intro cdv A outer s H E hr po c W hO tk hN nd ds Q δ hF hS
  have hsc : ∀ N q f, (FX P w K mg base N q (defScope s_law) f cdv A outer s H E).env.scope = defScope s_law := fun _ _ _ => rfl
  obtain ⟨ns, rfl, hns, q⟩ := hF
  obtain ⟨δ1, rfl, hS1⟩ := hS.v
  obtain rfl := hS1.n
  show LW _ c W ⟨[some (.scr ns), none, none, none, none, none, none, none, none, none, none, none], []⟩ (fnNd Q) (rst 0)
  fail "go"
  refine ⟨fun i s' => ∃ (o1 o2 o3 o4 o5 o6 o7 o8 o9 o10 o11 : Option D) (ω1 : List (Addr × List D)), s' = (@S.mk [some (.scr ns), o1, o2, o3, o4, o5, o6, o7, o8, o9, o10, o11] ω1 ⟨[]⟩), ⟨none, none, none, none, none, none, none, none, none, none, none, _, rfl⟩, fun _ _ _ => trivial, ?_, ?_⟩
  rotate_left
  · rintro s' ⟨o1, o2, o3, o4, o5, o6, o7, o8, o9, o10, o11, ω1, rfl⟩
    fail "go"
    exact q
  rintro i d s' hd ⟨o1, o2, o3, o4, o5, o6, o7, o8, o9, o10, o11, ω1, rfl⟩
  obtain ⟨rfl, hi⟩ := rgD_of hd
  have ow : OwnN "_law_lots" := .mk
  fail "go"
  refine ⟨ns, _, rfl, by omega, by omega, fun os0 hw0 => ?_⟩
  fail "go"
  rename_i b0 nb0
  refine ⟨0, 30, hw0, rfl, by decide, by decide, by decide, fun os1 lv hw1 hl0 hl1 => ?_⟩
  obtain ⟨L9, eL⟩ : ∃ L9 : Int, 1 + lv = L9 := ⟨_, rfl⟩
  fail "go"
  rw [eL]
  rename_i pl npl
  refine ⟨_, 6, hw1, rfl, by decide, by decide, by decide, fun os2 kv hw2 hk0 hk1 => ?_⟩
  obtain ⟨m9, em, hm0, hm1⟩ : ∃ m9 : Nat, 1 + kv = (m9 : Int) ∧ 1 ≤ m9 ∧ m9 ≤ 6 := ⟨(1 + kv).toNat, by omega, by omega, by omega⟩
  fail "go"
  rw [em]
  refine ⟨fun j s' => ∃ (ls : List Lt) (os' : List D) (o3 o9 o10 o11 : Option D), s' = (@S.mk [some (.scr ns), some (.int (0 + (i : Int))), some (.ref b0), o3, o4, o5, some (.int L9), some (menD [1, 2] [1, 2, -1, -2]), some (.ref pl), o9, o10, o11] ((pl, ls.map rawD) :: (b0, os') :: ω1) ⟨[]⟩) ∧ ls.length = j ∧ (∀ l ∈ ls, Rl l) ∧ Wl (10 + 2200 * (j : Int)) os', ⟨[], os2, o3, o9, o10, o11, rfl, rfl, (fun _ h => by cases h), hw2.mono (by omega)⟩, fun _ _ _ => trivial, ?_, ?_⟩
  · rintro j d s' hd ⟨ls, os', o3, o9, o10, o11, rfl, hls, hR, hw3⟩
    obtain ⟨rfl, hj⟩ := rgD_of hd
    have hj : j < m9 := by omega
    apply DL.GN.mk ?pt ?kk
    case pt => fail "pt"
    fail "go"
    refine ⟨_, 4, hw3, rfl, by decide, by decide, by omega, fun os3 cv hw4 hc0 hc1 => ?_⟩
    obtain ⟨q9, eq, hq0, hq1⟩ : ∃ q9 : Nat, 1 + cv = (q9 : Int) ∧ 0 < q9 ∧ q9 ≤ 4 := ⟨(1 + cv).toNat, by omega, by omega, by omega⟩
    fail "go"
    rw [eq]
    have hmn : 0 ≤ (if L9 - 1 < 9 then L9 - 1 else 9) ∧ (if L9 - 1 < 9 then L9 - 1 else 9) < L9 := by split <;> omega
    refine ⟨_, q9, L9, _, [1, 2], [1, 2, -1, -2], hw4, rfl, menu_ok, by omega, by omega, by omega, by omega, by omega, hmn.1, hmn.2, fun os4 S G Z s9 p9 hw5 hW hsm hpm => ?_⟩
    have hD : Drn q9 L9 ⟨S, s9, G, p9, Z⟩ := hW
    obtain ⟨l9, el9⟩ : ∃ l9 : Lt, l9 = ⟨S, s9, G, p9, Z⟩ := ⟨_, rfl⟩
    have elD : glD S s9 G p9 Z = rawD l9 := by rw [el9]
    rw [← el9] at hD
    rw [elD]
    clear elD el9 hW hsm hpm
    fail "go"
    refine ⟨_, 3, hw5, rfl, by decide, by decide, by omega, fun os5 wv hw6 hv0 hv1 => ?_⟩
    fail "go"
    · refine ⟨_, q9, L9, l9, hw6, rfl, by omega, hq0, hq1, by omega, by omega, hD, fun os6 l8 hw7 hR8 => ?_⟩
      fail "go"
      refine ⟨ls ++ [l8], os6, _, _, _, _, by rw [List.map_append]; rfl, by rw [List.length_append, hls]; rfl, fun l hl => ?_, hw7.mono (by omega)⟩
      rcases List.mem_append.mp hl with hl | hl
      · exact hR l hl
      · rw [List.mem_singleton.mp hl]; exact hR8
    · refine ⟨_, hw6, rfl, by omega, fun os6 l8 hw7 hR8 => ?_⟩
      fail "go"
      refine ⟨ls ++ [l8], os6, _, _, _, _, by rw [List.map_append]; rfl, by rw [List.length_append, hls]; rfl, fun l hl => ?_, hw7.mono (by omega)⟩
      rcases List.mem_append.mp hl with hl | hl
      · exact hR l hl
      · rw [List.mem_singleton.mp hl]; exact hR8
    · refine ⟨ls ++ [l9], os5, _, _, _, _, by rw [List.map_append]; rfl, by rw [List.length_append, hls]; rfl, fun l hl => ?_, hw6.mono (by omega)⟩
      rcases List.mem_append.mp hl with hl | hl
      · exact hR l hl
      · rw [List.mem_singleton.mp hl]; exact drn_rl hD hq0 hq1
  rintro s' ⟨ls, os3, o3, o9, o10, o11, rfl, hls, hR, hw3⟩
  rw [rgD_len, Int.toNat_natCast] at hls hw3
  fail "go"
  refine ⟨fun j acc ω ι => ∃ os : List D, acc = ((ls.take j).map plc).map (lotD K) ∧ Wl (14000 + 3 * (j : Int)) os ∧ ω = (pl, ls.map rawD) :: (b0, os) :: ω1 ∧ ι = ⟨[]⟩, ⟨_, rfl, hw3.mono (by omega), rfl, rfl⟩, fun _ _ _ _ _ _ h9 => by obtain ⟨_, _, _, rfl, rfl⟩ := h9; exact .src (.own (.s .z)), fun j d acc ω ι p' hd hIn np => ?_, fun acc ω ι p' hIn np => ?_⟩
  · obtain ⟨os5, rfl, hw5, rfl, rfl⟩ := hIn
    rw [List.getElem?_map] at hd
    obtain ⟨l, el, rfl⟩ := Option.map_eq_some_iff.mp hd
    have hj := (List.getElem?_eq_some_iff.mp el).1
    have r := hR l (List.mem_of_getElem? el)
    have ru := r.u1
    have rg := r.g1
    have rm := r.m1
    unfold LcTurn
    fail "go"
    refine ⟨_, l, 0, hw5, by omega, rfl, r.u0, by omega, r.g0, by omega, r.m0, by omega, r.sp, fun os6 hw6 => ?_⟩
    fail "go"
    refine ⟨by rw [List.length_map, List.length_map, List.length_take]; omega, _, rfl, os6, ?_, hw6.mono (by omega), rfl, rfl⟩
    rw [List.take_add_one, el, Option.toList_some, List.map_append, List.map_append]
    rfl
  obtain ⟨os5, rfl, hw5, rfl, rfl⟩ := hIn
  rw [List.length_map, List.take_length]
  refine ⟨p', _, _, rfl, np, rfl, ?_⟩
  have frz : OwnN "frz" := .mk
  fail "go"
  refine ⟨ls, L9, rfl, by omega, by omega, by omega, hR, fun o ho => ?_⟩
  have hlm : (ls.map plc).length = ls.length := List.length_map ..
  have hfit : ∀ l ∈ ls.map plc, Sp l ∧ bdL l ∧ ∃ B, Per l B ∧ 0 < B ∧ B ≤ 500 := fun l hl => by
    obtain ⟨l9, h9, rfl⟩ := List.mem_map.mp hl
    have r := hR l9 h9
    exact ⟨r.sp, r.bdl, 12, r.per, by decide, by decide⟩
  fail "go"
  refine ⟨ls.map plc, L9, rfl, by omega, by omega, by omega, hfit, fun o2 ho2 => ?_⟩
  obtain rfl := patR_uniq ho2 ho
  fail "go"
  refine ⟨_, rfl, ?_⟩
  rcases o2 with _ | ⟨i9, n9⟩
  · rw [show pairD none = D.non from rfl]
    fail "go"
    all_goals try (exfalso; have hx : DL.isNon D.non = false := by assumption
                   exact absurd hx (by decide))
    refine ⟨ls.map plc, L9, rfl, by omega, by omega, by omega, hfit, fun o3 ho3 => ?_⟩
    obtain rfl := patR_uniq ho3 ho
    fail "go"
    refine ⟨none, rfl, ?_⟩
    fail "go"
    exact ⟨_, _, _, _, _, _, _, _, _, _, _, _, rfl⟩
  · rw [show pairD (some (i9, n9)) = D.tup [.int (i9 : Int), .int n9] from rfl]
    have hcut := patR_cut ho
    have hi9 : i9 < (ls.map plc).length := by
      obtain ⟨l, el, _⟩ := ho
      exact (List.getElem?_eq_some_iff.mp el).1
    fail "go"
    · have hc0 : 0 < i9 := by omega
      have ec : DL.cutD ((ls.map plc).map (lotD K)) none (some (i9 : Int)) = ((ls.map plc).take i9).map (lotD K) := by rw [List.map_take, cut_take (by omega), Int.toNat_natCast]
      rw [ec]
      refine ⟨(ls.map plc).take i9, L9, rfl, by rw [List.length_take]; omega, by rw [List.length_take]; omega, by omega, fun l hl => hfit l (List.mem_of_mem_take hl), fun o3 ho3 => ?_⟩
      obtain rfl := patR_uniq ho3 hcut
      rw [show pairD none = D.non from rfl]
      fail "go"
      all_goals try (exfalso; have hx : DL.isNon D.non = false := by assumption
                     exact absurd hx (by decide))
      refine ⟨ls.map plc, L9, rfl, by omega, by omega, by omega, hfit, fun o4 ho4 => ?_⟩
      obtain rfl := patR_uniq ho4 ho
      fail "go"
      refine ⟨some (i9, n9), rfl, ?_⟩
      fail "go"
      exact ⟨_, _, _, _, _, _, _, _, _, _, _, _, rfl⟩
    all_goals
      refine ⟨ls.map plc, L9, rfl, by omega, by omega, by omega, hfit, fun o4 ho4 => ?_⟩
      obtain rfl := patR_uniq ho4 ho
      fail "go"
      refine ⟨some (i9, n9), rfl, ?_⟩
      fail "go"
      exact ⟨_, _, _, _, _, _, _, _, _, _, _, _, rfl⟩

end L20

end
section
open PySem PySem.W PySem.Calls PyProof.Rows
theorem PySem.Challenge.cw_nailstrings_k20_lots_that_do_not_fit_holds : PySem.Challenge.rw_nailstrings_k20_lots_that_do_not_fit.Holds := by
  refine L20.top_ok ?hc
  case hc =>
    refine DL.law_walk (l := PySem.Challenge.rw_nailstrings_k20_lots_that_do_not_fit) (k := 10) rfl (by kernel_rfl) ⟨rfl, by decide, by decide⟩ ?F
    intro w mg f h Y G hmg0
    obtain ⟨K, KX, c0⟩ := Y
    have hmg : mg ("law" : PySem.Str) = some (.ref f) := by
      have e : (HandSHeadRun.topDef (OpenLaw.row PySem.Challenge.rw_nailstrings_k20_lots_that_do_not_fit).prog 55).name = ("law" : PySem.Str) := by kernel_rfl
      rw [← e]
      exact hmg0
    have T : L20.Tx K mg := L20.tx_mk KX G c0.fact
    obtain ⟨fd, F⟩ := L20.fd_law c0
    have e := hmg.symm.trans T.g_law
    cases e
    have b := L2.FunD.bindsA (ps := ["_law_script"]) F fun _ _ _ _ _ _ us hl => match us, hl with | [_], _ => rfl
    exact ⟨K, fd, KX, fun s v => b s [v] rfl, fun base _ _ => L20.ok_law T c0 F⟩


end
end
