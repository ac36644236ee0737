import PyProof.Rows.All
import Wide.All
import OpenK.AllK
import Wide.FinOn
import HandS.ForMost
import HandS.Exc
import HandS.TryOnly
import HandS.ExcOwn
import HandS.WordsExc
import HandS.Wide
import HandS.IsInst
import HandS.Deep
import HandS.Walk
import HandS.Style
import HandS.NoneIn
import HandS.SortInts
import HandS.SortRule
import HandS.SetFor
import HandS.EndBits
import HandS.Codes
import HandS.ExcIs
import HandS.CallLocal
import HandS.Conv
import HandS.TryMany
import HandS.ExcCtx
import HandS.Hot
import HandS.HotCalls
import HandS.Lambda
import HandS.Nested
import HandS.EndTab
import HandS.EndOwn
import KE.KLam
import KE.GoesEnum
import KE.GoesMore
import KE.KTupSum
import PyProof.WalkInts
import KE.KIndexOf
import HandS.New
import HandS.CallRecv
import KE.KDictDisplayH
import KE.KNestM
import PySem.Challenge.RW_kindmeets_k07_refused
set_option Elab.async false
set_option linter.all false
set_option maxRecDepth 100000
set_option maxHeartbeats 4000000
/-! # A layer of big steps over the hand layer: what a reading gives, told over an abstract store -/
namespace Dx
open PySem PySem.Spec PyProof.Rows L2

/-! ## kinds of values: what is true of a value over a heap, and stays so while the heap grows -/
structure Kd where
  p : V → Hp → Prop
  up : ∀ {v : V} {H H' : Hp}, Same H H' → p v H → p v H'

abbrev AllK (H : Hp) : List V → List Kd → Prop := Paired fun v (k : Kd) => k.p v H
theorem AllK.up {H H' : Hp} (e : Same H H') : ∀ {vs : List V} {ks : List Kd}, AllK H vs ks → AllK H' vs ks
  | _, _, .nil => .nil
  | _, _, .cons h t => .cons (Kd.up _ e h) (AllK.up e t)
theorem AllK.len {H : Hp} {vs : List V} {ks : List Kd} (h : AllK H vs ks) : vs.length = ks.length := Paired.length h
theorem AllK.app {H : Hp} : ∀ {vs ws : List V} {ks ls : List Kd}, AllK H vs ks → AllK H ws ls → AllK H (vs ++ ws) (ks ++ ls)
  | _, _, _, _, .nil, s => s
  | _, _, _, _, .cons r t, s => .cons r (AllK.app t s)
theorem AllK.get {H : Hp} : ∀ {vs : List V} {ks : List Kd} {i : Nat} {v : V}, AllK H vs ks → vs[i]? = some v → ∃ k, ks[i]? = some k ∧ k.p v H
  | _, _, _, _, .nil, e => by simp at e
  | _, _, 0, _, .cons (b := k) r _, e => by
    simp at e
    subst e
    exact ⟨k, rfl, r⟩
  | _, _, i + 1, v, .cons _ t, e => by
    obtain ⟨k, h1, h2⟩ := AllK.get (i := i) (v := v) t (by simpa using e)
    exact ⟨k, by simpa using h1, h2⟩
theorem AllK.get' {H : Hp} : ∀ {vs : List V} {ks : List Kd} {i : Nat} {k : Kd}, AllK H vs ks → ks[i]? = some k → ∃ v, vs[i]? = some v ∧ k.p v H
  | _, _, _, _, .nil, e => by simp at e
  | _, _, 0, _, .cons (a := v) r _, e => by
    simp at e
    subst e
    exact ⟨v, rfl, r⟩
  | _, _, i + 1, v, .cons _ t, e => by
    obtain ⟨k, h1, h2⟩ := AllK.get' (i := i) (k := v) t (by simpa using e)
    exact ⟨k, by simpa using h1, h2⟩
theorem AllK.set {H : Hp} {v : V} {k : Kd} (r : k.p v H) : ∀ {vs : List V} {ks : List Kd} (i : Nat), AllK H vs ks → AllK H (vs.set i v) (ks.set i k)
  | _, _, _, .nil => .nil
  | _, _, 0, .cons _ t => .cons r t
  | _, _, i + 1, .cons q t => .cons q (AllK.set r i t)

theorem same_upd {H : Hp} {p : Addr} {o : HO} (h : H p = none) : Same H (upd H p o) := fun b x e => by
  rw [upd_ne (ne_of_none e h)]
  exact e
theorem Same.sqT {K : PySem.W.Frag} {H H' : Hp} {a : Addr} {xs : List V} (e : Same H H') (h : SqT K H a xs) : SqT K H' a xs := by
  rcases h with (h | ⟨o, h⟩) | h
  · exact .inl (.inl (e _ _ h))
  · exact .inl (.inr ⟨o, e _ _ h⟩)
  · exact .inr h

/-- just this value -/
def kE (x : V) : Kd := ⟨fun v _ => v = x, fun _ h => h⟩
abbrev kI (i : Int) : Kd := kE (.int i)
abbrev kB (b : Bool) : Kd := kE (.bl b)
abbrev kN : Kd := kE .non
/-- anything -/
def kAny : Kd := ⟨fun _ _ => True, fun _ h => h⟩
/-- a tuple -/
def kT (K : PySem.W.Frag) (ks : List Kd) : Kd := ⟨fun v H => ∃ a xs, v = .ref a ∧ SqT K H a xs ∧ AllK H xs ks, fun e ⟨a, xs, h1, h2, h3⟩ => ⟨a, xs, h1, Same.sqT e h2, h3.up e⟩⟩
/-- a list that stands still (any: the script, too) -/
def kS (K : PySem.W.Frag) (ks : List Kd) : Kd := ⟨fun v H => ∃ a xs, v = .ref a ∧ SqL K H a xs ∧ AllK H xs ks, fun e ⟨a, xs, h1, h2, h3⟩ => ⟨a, xs, h1, e.seq h2, h3.up e⟩⟩
/-- a list that the call has made -/
def kL (ks : List Kd) : Kd := ⟨fun v H => ∃ a xs, v = .ref a ∧ H a = some (.lst xs) ∧ AllK H xs ks, fun e ⟨a, xs, h1, h2, h3⟩ => ⟨a, xs, h1, e _ _ h2, h3.up e⟩⟩
/-- one or another -/
def kOr (k1 k2 : Kd) : Kd := ⟨fun v H => k1.p v H ∨ k2.p v H, fun e h => h.elim (fun h => .inl (k1.up e h)) fun h => .inr (k2.up e h)⟩
/-- an instance of the class at C, its attributes -/
def kO (C : Addr) (fs : List (Str × V)) : Kd := ⟨fun v H => ∃ a dx, v = .ref a ∧ H a = some (.ins C dx fs), fun e ⟨a, dx, h1, h2⟩ => ⟨a, dx, h1, e _ _ h2⟩⟩

def Kd.le (k k' : Kd) : Prop := ∀ v H, k.p v H → k'.p v H
theorem Kd.le.refl (k : Kd) : k.le k := fun _ _ h => h
theorem kL_le_kS {K : PySem.W.Frag} {ks : List Kd} : (kL ks).le (kS K ks) := fun _ _ ⟨a, xs, h1, h2, h3⟩ => ⟨a, xs, h1, SqL.of h2, h3⟩
theorem AllK.le {H : Hp} : ∀ {vs : List V} {ks ls : List Kd}, AllK H vs ks → Paired Kd.le ks ls → AllK H vs ls
  | _, _, _, .nil, .nil => .nil
  | _, _, _, .cons h t, .cons q r => .cons (q _ _ h) (AllK.le t r)
theorem kL_le {ks ls : List Kd} (h : Paired Kd.le ks ls) : (kL ks).le (kL ls) := fun _ _ ⟨a, xs, h1, h2, h3⟩ => ⟨a, xs, h1, h2, h3.le h⟩
theorem kT_le {K : PySem.W.Frag} {ks ls : List Kd} (h : Paired Kd.le ks ls) : (kT K ks).le (kT K ls) := fun _ _ ⟨a, xs, h1, h2, h3⟩ => ⟨a, xs, h1, h2, h3.le h⟩

/-! ## data -/
/-- a value of kind k is the data d -/
def IsD (K : PySem.W.Frag) (k : Kd) (d : PyData) : Prop := ∀ v H, k.p v H → Dp K H v d
def IsDs (K : PySem.W.Frag) (ks : List Kd) (ds : List PyData) : Prop := ∀ vs H, AllK H vs ks → DpAll K H vs ds
section
variable {K : PySem.W.Frag}
theorem isd_int {i : Int} : IsD K (kI i) (.int i) := fun v H (h : v = .int i) => by subst h; exact .int i
theorem isd_bl {b : Bool} : IsD K (kB b) (.bool b) := fun v H (h : v = .bl b) => by subst h; exact .bl b
theorem isd_non : IsD K kN .none := fun v H (h : v = .non) => by subst h; exact .non
theorem isd_str {x : Str} : IsD K (kE (.str x)) (.str x) := fun v H (h : v = .str x) => by subst h; exact .str x
theorem isds_nil : IsDs K [] [] := fun vs H h => by cases h; exact .nil
theorem isds_cons {k : Kd} {ks : List Kd} {d : PyData} {ds : List PyData} (h : IsD K k d) (t : IsDs K ks ds) : IsDs K (k :: ks) (d :: ds) := fun vs H q => by
  cases q with
  | cons q r => exact .cons (h _ _ q) (t _ _ r)
theorem isds_map {α : Type} {f : α → Kd} {g : α → PyData} (h : ∀ a, IsD K (f a) (g a)) : ∀ l : List α, IsDs K (l.map f) (l.map g)
  | [] => isds_nil
  | a :: l => isds_cons (h a) (isds_map h l)
theorem isd_tup {ks : List Kd} {ds : List PyData} (h : IsDs K ks ds) : IsD K (kT K ks) (.tuple ds) := fun v H ⟨a, xs, h1, h2, h3⟩ => by
  subst h1
  exact .tup h2 (h _ _ h3)
theorem isd_lst {ks : List Kd} {ds : List PyData} (h : IsDs K ks ds) : IsD K (kL ks) (.list ds) := fun v H ⟨a, xs, h1, h2, h3⟩ => by
  subst h1
  exact .lst (SqL.of h2) (h _ _ h3)
theorem isd_seq {ks : List Kd} {ds : List PyData} (h : IsDs K ks ds) : IsD K (kS K ks) (.list ds) := fun v H ⟨a, xs, h1, h2, h3⟩ => by
  subst h1
  exact .lst h2 (h _ _ h3)
end

/-! ## the abstract store -/
inductive Sl where
  /-- unknown -/
  | no
  /-- a value of this kind -/
  | sh (k : Kd)
  /-- a list that nobody else knows, its items' kinds -/
  | ow (ks : List Kd)

/-- Hb is what is known of the heap H; H0 is the heap at the def's entry -/
structure Sg (H0 Hb H : Hp) (σ : L2.St) (δ : List Sl) : Prop where
  ex : Same Hb H
  fr : Same H0 H
  len : σ.length = δ.length
  sh : ∀ (i : Nat) (k : Kd), δ[i]? = some (.sh k) → ∃ v, σ[i]? = some (some v) ∧ k.p v Hb
  ow : ∀ (i : Nat) (ks : List Kd), δ[i]? = some (.ow ks) → ∃ p xs, σ[i]? = some (some (.ref p)) ∧ Hb p = none ∧ H0 p = none ∧ H p = some (.lst xs) ∧ AllK Hb xs ks
  ne : ∀ (i j : Nat) (ks ls : List Kd) (p : Addr), δ[i]? = some (.ow ks) → δ[j]? = some (.ow ls) → σ[i]? = some (some (.ref p)) → σ[j]? = some (some (.ref p)) → i = j

/-- the known heap grows, by what the entry's heap H0 did not know -/
def NT (o : Option HO) : Prop := o ≠ none ∧ ∀ xs, o ≠ some (.tup xs)
theorem nt_lst {xs : List V} : NT (some (.lst xs)) := ⟨fun z => (nomatch z), fun _ z => (nomatch z)⟩
theorem NT.same {H0 H1 : Hp} {c : Addr} (e : Same H0 H1) (h : NT (H0 c)) : NT (H1 c) := by
  cases q : H0 c with
  | none => exact absurd q h.1
  | some o =>
    rw [e c o q, ← q]
    exact h
/-- .. tuples aside -/
def Gr (H0 Hb Hb' : Hp) : Prop := Same Hb Hb' ∧ ∀ b, NT (H0 b) → Hb b = none → Hb' b = none
theorem Gr.refl (H0 Hb : Hp) : Gr H0 Hb Hb := ⟨Same.refl _, fun _ _ h => h⟩
theorem Gr.trans {H0 Hb Hb' Hc : Hp} (a : Gr H0 Hb Hb') (b : Gr H0 Hb' Hc) : Gr H0 Hb Hc := ⟨a.1.trans b.1, fun c h q => b.2 c h (a.2 c h q)⟩
theorem Gr.mono {H0 H1 Hb Hb' : Hp} (e : Same H0 H1) (a : Gr H1 Hb Hb') : Gr H0 Hb Hb' := ⟨a.1, fun c h q => a.2 c (h.same e) q⟩
theorem Gr.new {H0 Hb : Hp} {p : Addr} {o : HO} (h0 : H0 p = none) (hb : Hb p = none) : Gr H0 Hb (upd Hb p o) := ⟨same_upd hb, fun b h q => by
  have hne : b ≠ p := fun z => h.1 (by rw [z]; exact h0)
  rw [upd_ne hne]
  exact q⟩

section
variable {H0 Hb H Hb' H' : Hp} {σ : L2.St} {δ : List Sl} {p : Addr} {o : HO}
theorem Sg.hb (g : Sg H0 Hb H σ δ) (h : H p = none) : Hb p = none := g.ex.free h
theorem Sg.h0 (g : Sg H0 Hb H σ δ) (h : H p = none) : H0 p = none := g.fr.free h
/-- a new object, known -/
theorem Sg.alloc (g : Sg H0 Hb H σ δ) (h : H p = none) : Sg H0 (upd Hb p o) (upd H p o) σ δ where
  ex := fun b x e => by
    by_cases hb : b = p
    · subst hb
      rw [upd_same] at e ⊢
      exact e
    · rw [upd_ne hb] at e ⊢
      exact g.ex b x e
  fr := g.fr.trans (same_upd h)
  len := g.len
  sh := fun i k e => by
    obtain ⟨v, h1, h2⟩ := g.sh i k e
    exact ⟨v, h1, k.up (same_upd (g.hb h)) h2⟩
  ow := fun i ks e => by
    obtain ⟨q, xs, h1, h2, h3, h4, h5⟩ := g.ow i ks e
    have hn : q ≠ p := ne_of_none h4 h
    exact ⟨q, xs, h1, by rw [upd_ne hn]; exact h2, h3, by rw [upd_ne hn]; exact h4, h5.up (same_upd (g.hb h))⟩
  ne := g.ne
/-- a new object, of which nothing is told -/
theorem Sg.drop (g : Sg H0 Hb H σ δ) (h : H p = none) : Sg H0 Hb (upd H p o) σ δ where
  ex := g.ex.trans (same_upd h)
  fr := g.fr.trans (same_upd h)
  len := g.len
  sh := g.sh
  ow := fun i ks e => by
    obtain ⟨q, xs, h1, h2, h3, h4, h5⟩ := g.ow i ks e
    exact ⟨q, xs, h1, h2, h3, by rw [upd_ne (ne_of_none h4 h)]; exact h4, h5⟩
  ne := g.ne
theorem Sg.gr (g : Sg H0 Hb H σ δ) (h : H p = none) : Gr H0 Hb (upd Hb p o) := Gr.new (g.h0 h) (g.hb h)
/-- the owned list at p is one of the store's -/
def Owns (σ : L2.St) (δ : List Sl) (p : Addr) : Prop := ∃ (i : Nat) (ks : List Kd), δ[i]? = some (.ow ks) ∧ σ[i]? = some (some (.ref p))
theorem Sg.owns (g : Sg H0 Hb H σ δ) (h : Owns σ δ p) : Hb p = none ∧ H0 p = none ∧ H p ≠ none := by
  obtain ⟨i, ks, e, e2⟩ := h
  obtain ⟨q, xs, h1, h2, h3, h4, _⟩ := g.ow i ks e
  rw [h1] at e2
  cases e2
  exact ⟨h2, h3, by rw [h4]; exact fun z => nomatch z⟩
/-- a list that nobody else knows becomes known -/
theorem Sg.know (g : Sg H0 Hb H σ δ) (hb : Hb p = none) (h : H p = some o) (hn : ¬ Owns σ δ p) : Sg H0 (upd Hb p o) H σ δ where
  ex := fun b x e => by
    by_cases hbp : b = p
    · subst hbp
      rw [upd_same] at e
      cases e
      exact h
    · rw [upd_ne hbp] at e
      exact g.ex b x e
  fr := g.fr
  len := g.len
  sh := fun i k e => by
    obtain ⟨v, h1, h2⟩ := g.sh i k e
    exact ⟨v, h1, k.up (same_upd hb) h2⟩
  ow := fun i ks e => by
    obtain ⟨q, xs, h1, h2, h3, h4, h5⟩ := g.ow i ks e
    have hne : q ≠ p := fun z => hn ⟨i, ks, e, z ▸ h1⟩
    exact ⟨q, xs, h1, by rw [upd_ne hne]; exact h2, h3, h4, h5.up (same_upd hb)⟩
  ne := g.ne
/-- behind a call: the callee knows Hb' of H' -/
theorem Sg.behind (g : Sg H0 Hb H σ δ) (gr : Gr H Hb Hb') (e : Same Hb' H') (f : Same H H') : Sg H0 Hb' H' σ δ where
  ex := e
  fr := g.fr.trans f
  len := g.len
  sh := fun i k e => by
    obtain ⟨v, h1, h2⟩ := g.sh i k e
    exact ⟨v, h1, k.up gr.1 h2⟩
  ow := fun i ks e => by
    obtain ⟨q, xs, h1, h2, h3, h4, h5⟩ := g.ow i ks e
    exact ⟨q, xs, h1, gr.2 q (by rw [h4]; exact nt_lst) h2, h3, f _ _ h4, h5.up gr.1⟩
  ne := g.ne
theorem Sg.gr' (g : Sg H0 Hb H σ δ) (gr : Gr H Hb Hb') : Gr H0 Hb Hb' := gr.mono g.fr
/-- a slot is stored, a value that is known -/
theorem Sg.set {i : Nat} {v : V} {k : Kd} (g : Sg H0 Hb H σ δ) (h : k.p v Hb) : Sg H0 Hb H (σ.set i (some v)) (δ.set i (.sh k)) where
  ex := g.ex
  fr := g.fr
  len := by rw [List.length_set, List.length_set]; exact g.len
  sh := fun j l e => by
    by_cases hj : i = j
    · subst hj
      have hl : i < δ.length := by
        have := (List.getElem?_eq_some_iff.mp e).1
        rw [List.length_set] at this
        exact this
      rw [List.getElem?_set_self hl] at e
      cases e
      exact ⟨v, List.getElem?_set_self (by rw [g.len]; exact hl), h⟩
    · rw [List.getElem?_set_ne hj] at e ⊢
      exact g.sh j l e
  ow := fun j ks e => by
    by_cases hj : i = j
    · subst hj
      have hl : i < δ.length := by
        have := (List.getElem?_eq_some_iff.mp e).1
        rw [List.length_set] at this
        exact this
      rw [List.getElem?_set_self hl] at e
      cases e
    · rw [List.getElem?_set_ne hj] at e ⊢
      exact g.ow j ks e
  ne := fun a b ks ls p e1 e2 q1 q2 => by
    have na : i ≠ a := fun z => by
      subst z
      have hl : i < δ.length := by
        have := (List.getElem?_eq_some_iff.mp e1).1
        rw [List.length_set] at this
        exact this
      rw [List.getElem?_set_self hl] at e1
      cases e1
    have nb : i ≠ b := fun z => by
      subst z
      have hl : i < δ.length := by
        have := (List.getElem?_eq_some_iff.mp e2).1
        rw [List.length_set] at this
        exact this
      rw [List.getElem?_set_self hl] at e2
      cases e2
    rw [List.getElem?_set_ne na] at e1 q1
    rw [List.getElem?_set_ne nb] at e2 q2
    exact g.ne a b ks ls p e1 e2 q1 q2
/-- .. a list that nobody else knows -/
theorem Sg.setO {i : Nat} {xs : List V} {ks : List Kd} (g : Sg H0 Hb H σ δ) (hb : Hb p = none) (h0 : H0 p = none) (h : H p = some (.lst xs)) (hx : AllK Hb xs ks) (hn : ∀ (j : Nat) (ls : List Kd), δ[j]? = some (.ow ls) → σ[j]? = some (some (.ref p)) → j = i) :
    Sg H0 Hb H (σ.set i (some (.ref p))) (δ.set i (.ow ks)) where
  ex := g.ex
  fr := g.fr
  len := by rw [List.length_set, List.length_set]; exact g.len
  sh := fun j l e => by
    by_cases hj : i = j
    · subst hj
      have hl : i < δ.length := by
        have := (List.getElem?_eq_some_iff.mp e).1
        rw [List.length_set] at this
        exact this
      rw [List.getElem?_set_self hl] at e
      cases e
    · rw [List.getElem?_set_ne hj] at e ⊢
      exact g.sh j l e
  ow := fun j ls e => by
    by_cases hj : i = j
    · subst hj
      have hl : i < δ.length := by
        have := (List.getElem?_eq_some_iff.mp e).1
        rw [List.length_set] at this
        exact this
      rw [List.getElem?_set_self hl] at e
      cases e
      exact ⟨p, xs, List.getElem?_set_self (by rw [g.len]; exact hl), hb, h0, h, hx⟩
    · rw [List.getElem?_set_ne hj] at e ⊢
      exact g.ow j ls e
  ne := fun a b ls ms q e1 e2 q1 q2 => by
    by_cases ha : i = a
    · by_cases hb' : i = b
      · exact ha.symm.trans hb'
      · subst ha
        rw [List.getElem?_set_ne hb'] at e2 q2
        have hl : i < σ.length := by
          have := (List.getElem?_eq_some_iff.mp q1).1
          rw [List.length_set] at this
          exact this
        rw [List.getElem?_set_self hl] at q1
        cases q1
        exact absurd (hn b ms e2 q2).symm hb'
    · rw [List.getElem?_set_ne ha] at e1 q1
      by_cases hb' : i = b
      · subst hb'
        have hl : i < σ.length := by
          have := (List.getElem?_eq_some_iff.mp q2).1
          rw [List.length_set] at this
          exact this
        rw [List.getElem?_set_self hl] at q2
        cases q2
        exact absurd (hn a ls e1 q1).symm ha
      · rw [List.getElem?_set_ne hb'] at e2 q2
        exact g.ne a b ls ms q e1 e2 q1 q2
/-- less is known -/
def Sl.le : Sl → Sl → Prop
  | _, .no => True
  | .sh k, .sh k' => k.le k'
  | .ow ks, .ow ls => Paired Kd.le ks ls
  | _, _ => False
theorem Paired.at {α β : Type} {F : α → β → Prop} : ∀ {l : List α} {m : List β} {i : Nat} {b : β}, Paired F l m → m[i]? = some b → ∃ a, l[i]? = some a ∧ F a b
  | _, _, _, _, .nil, e => by simp at e
  | _, _, 0, _, .cons (a := a) r _, e => by
    simp at e
    subst e
    exact ⟨a, rfl, r⟩
  | _, _, i + 1, b, .cons _ t, e => by
    obtain ⟨k, h1, h2⟩ := Paired.at (i := i) (b := b) t (by simpa using e)
    exact ⟨k, by simpa using h1, h2⟩
theorem Sg.weak {ε : List Sl} (g : Sg H0 Hb H σ δ) (w : Paired Sl.le δ ε) : Sg H0 Hb H σ ε where
  ex := g.ex
  fr := g.fr
  len := g.len.trans (Paired.length w)
  sh := fun i k e => by
    obtain ⟨s, h1, h2⟩ := Paired.at w e
    cases s with
    | no => exact h2.elim
    | sh k' =>
      obtain ⟨v, h3, h4⟩ := g.sh i k' h1
      exact ⟨v, h3, h2 _ _ h4⟩
    | ow ks => exact h2.elim
  ow := fun i ks e => by
    obtain ⟨s, h1, h2⟩ := Paired.at w e
    cases s with
    | no => exact h2.elim
    | sh k' => exact h2.elim
    | ow ls =>
      obtain ⟨p, xs, q1, q2, q3, q4, q5⟩ := g.ow i ls h1
      exact ⟨p, xs, q1, q2, q3, q4, q5.le h2⟩
  ne := fun a b ks ls p e1 e2 => by
    obtain ⟨s1, h1, h2⟩ := Paired.at w e1
    obtain ⟨s2, h3, h4⟩ := Paired.at w e2
    cases s1 with
    | no => exact h2.elim
    | sh k' => exact h2.elim
    | ow ls1 =>
      cases s2 with
      | no => exact h4.elim
      | sh k' => exact h4.elim
      | ow ls2 => exact g.ne a b _ _ p h1 h3
end
end Dx

namespace Dx
open PySem PySem.Spec PyProof.Rows L2
/-! ## what evaluates to what -/
def EvD (te : TE) (δ : List Sl) (k : Kd) : Prop := ∀ (H0 Hb H : Hp) (σ : L2.St), Sg H0 Hb H σ δ → ∀ Q : VK, (∀ Hb' H' v, Gr H0 Hb Hb' → Sg H0 Hb' H' σ δ → k.p v Hb' → Q v H') → te σ H Q
/-- a list that is new, and known to nobody -/
def EvN (te : TE) (δ : List Sl) (ks : List Kd) : Prop := ∀ (H0 Hb H : Hp) (σ : L2.St), Sg H0 Hb H σ δ → ∀ Q : VK,
  (∀ Hb' H' p xs, Gr H0 Hb Hb' → Sg H0 Hb' H' σ δ → Hb' p = none → H0 p = none → H' p = some (.lst xs) → AllK Hb' xs ks → ¬ Owns σ δ p → Q (.ref p) H') → te σ H Q
def EvT (tt : TT) (δ : List Sl) (b : Bool) : Prop := ∀ (H0 Hb H : Hp) (σ : L2.St), Sg H0 Hb H σ δ → ∀ Q : Bool → Hp → Prop, (∀ Hb' H', Gr H0 Hb Hb' → Sg H0 Hb' H' σ δ → Q b H') → tt σ H Q
def EvA (ta : TA) (δ : List Sl) (ks : List Kd) : Prop := ∀ (H0 Hb H : Hp) (σ : L2.St), Sg H0 Hb H σ δ → ∀ Q : List V → Hp → Prop, (∀ Hb' H' vs, Gr H0 Hb Hb' → Sg H0 Hb' H' σ δ → AllK Hb' vs ks → Q vs H') → ta σ H Q

section
variable {K : PySem.W.Frag} {δ : List Sl} {te ta tb tc : TE} {k k1 k2 k3 : Kd} {ks ls : List Kd} {t u : TT} {b b1 b2 : Bool} {ar : TA} {r r' : R2}
theorem ev_var {i : Nat} (h : δ[i]? = some (.sh k)) : EvD (tVar i) δ k := fun H0 Hb H σ g Q q => by
  obtain ⟨v, h1, h2⟩ := g.sh i k h
  exact ⟨v, h1, q Hb H v (Gr.refl _ _) g h2⟩
theorem ev_c {v : V} : EvD (tC v) δ (kE v) := fun H0 Hb H σ g Q q => q Hb H v (Gr.refl _ _) g rfl
theorem ev_le (h : EvD te δ k) (e : k.le k') : EvD te δ k' := fun H0 Hb H σ g Q q => h H0 Hb H σ g Q fun Hb' H' v a b c => q Hb' H' v a b (e _ _ c)
theorem ev_to {v w : V} (h : EvD te δ (kE v)) (e : v = w) : EvD te δ (kE w) := e ▸ h
theorem et_to (h : EvT t δ b1) (e : b1 = b2) : EvT t δ b2 := e ▸ h
theorem en_le (h : EvN te δ ks) (e : Paired Kd.le ks ls) : EvN te δ ls := fun H0 Hb H σ g Q q => h H0 Hb H σ g Q fun Hb' H' p xs a b c d e' f => q Hb' H' p xs a b c d e' (f.le e)
theorem en_to (h : EvN te δ ks) (e : ks = ls) : EvN te δ ls := e ▸ h
theorem ev_ofN (h : EvN te δ ks) : EvD te δ (kL ks) := fun H0 Hb H σ g Q q => h H0 Hb H σ g Q fun Hb' H' p xs a b c d e f n =>
  q _ H' _ (a.trans (Gr.new d c)) (b.know c e n) ⟨p, xs, rfl, upd_same, f.up (same_upd c)⟩
theorem ea_nil : EvA tNil δ [] := fun H0 Hb H σ g Q q => q Hb H [] (Gr.refl _ _) g .nil
theorem ea_cons (h : EvD te δ k) (t : EvA ar δ ks) : EvA (tCons te ar) δ (k :: ks) := fun H0 Hb H σ g Q q =>
  h H0 Hb H σ g _ fun Hb1 H1 v a b c => t H0 Hb1 H1 σ b _ fun Hb2 H2 vs a2 b2 c2 => q Hb2 H2 (v :: vs) (a.trans a2) b2 (.cons (k.up a2.1 c) c2)
theorem ev_tup (h : EvA ar δ ks) (hl : ks.length ≤ 1000) : EvD (tTup ar) δ (kT K ks) := fun H0 Hb H σ g Q q =>
  h H0 Hb H σ g _ fun Hb1 H1 vs a b c => ⟨by rw [c.len]; exact Nat.le_of_lt (small1000 hl), fun p hp => q _ _ _ (a.trans (b.gr hp)) (b.alloc hp) ⟨p, vs, rfl, SqT.of upd_same, c.up (same_upd (b.hb hp))⟩⟩
theorem Sg.notOwn {H0 Hb H : Hp} {σ : L2.St} {p : Addr} (g : Sg H0 Hb H σ δ) (h : H p = none) : ¬ Owns σ δ p := fun z => (g.owns z).2.2 h
theorem en_lst (h : EvA ar δ ks) (hl : ks.length ≤ 1000) : EvN (tLst ar) δ ks := fun H0 Hb H σ g Q q =>
  h H0 Hb H σ g _ fun Hb1 H1 vs a b c => ⟨by rw [c.len]; exact Nat.le_of_lt (small1000 hl), fun p hp => q _ _ _ vs a (b.drop hp) (b.hb hp) (b.h0 hp) upd_same c (b.notOwn hp)⟩

/-! operators by values -/
def Op (r : R2) (k1 k2 k3 : Kd) : Prop := ∀ (Hb H : Hp) (x y : V) (Q : VK), Same Hb H → k1.p x Hb → k2.p y Hb → (∀ z, k3.p z Hb → Q z H) → r x y H Q
def OpN (r : R2) (k1 k2 : Kd) (ks : List Kd) : Prop := ∀ (Hb H : Hp) (x y : V) (Q : VK), Same Hb H → k1.p x Hb → k2.p y Hb → (∀ p xs, H p = none → AllK Hb xs ks → Q (.ref p) (upd H p (.lst xs))) → r x y H Q
def Un1 (r : V → Hp → VK → Prop) (k1 k3 : Kd) : Prop := ∀ (Hb H : Hp) (x : V) (Q : VK), Same Hb H → k1.p x Hb → (∀ z, k3.p z Hb → Q z H) → r x H Q
def Ca (r : List V → Hp → VK → Prop) (ks : List Kd) (k : Kd) : Prop := ∀ (Hb H : Hp) (vs : List V) (Q : VK), Same Hb H → AllK Hb vs ks → (∀ z, k.p z Hb → Q z H) → r vs H Q
def CaN (r : List V → Hp → VK → Prop) (ks ls : List Kd) : Prop := ∀ (Hb H : Hp) (vs : List V) (Q : VK), Same Hb H → AllK Hb vs ks → (∀ p xs, H p = none → AllK Hb xs ls → Q (.ref p) (upd H p (.lst xs))) → r vs H Q
def CaU (r : List V → Hp → VK → Prop) (ks ls : List Kd) : Prop := ∀ (Hb H : Hp) (vs : List V) (Q : VK), Same Hb H → AllK Hb vs ks → (∀ p xs, H p = none → AllK Hb xs ls → Q (.ref p) (upd H p (.tup xs))) → r vs H Q
theorem ev_op (h1 : EvD ta δ k1) (h2 : EvD tb δ k2) (o : Op r k1 k2 k3) : EvD (tOp r ta tb) δ k3 := fun H0 Hb H σ g Q q =>
  h1 H0 Hb H σ g _ fun Hb1 H1 v a b c => h2 H0 Hb1 H1 σ b _ fun Hb2 H2 w a2 b2 c2 => o Hb2 H2 v w Q b2.ex (k1.up a2.1 c) c2 fun z hz => q Hb2 H2 z (a.trans a2) b2 hz
theorem en_op (h1 : EvD ta δ k1) (h2 : EvD tb δ k2) (o : OpN r k1 k2 ks) : EvN (tOp r ta tb) δ ks := fun H0 Hb H σ g Q q =>
  h1 H0 Hb H σ g _ fun Hb1 H1 v a b c => h2 H0 Hb1 H1 σ b _ fun Hb2 H2 w a2 b2 c2 => o Hb2 H2 v w Q b2.ex (k1.up a2.1 c) c2 fun p xs hp hx =>
    q Hb2 _ p xs (a.trans a2) (b2.drop hp) (b2.hb hp) (b2.h0 hp) upd_same hx (b2.notOwn hp)
theorem ev_un {r : V → Hp → VK → Prop} (h1 : EvD ta δ k1) (o : Un1 r k1 k3) : EvD (tUn r ta) δ k3 := fun H0 Hb H σ g Q q =>
  h1 H0 Hb H σ g _ fun Hb1 H1 v a b c => o Hb1 H1 v Q b.ex c fun z hz => q Hb1 H1 z a b hz
theorem ev_cb {r : List V → Hp → VK → Prop} (h : EvA ar δ ks) (o : Ca r ks k) : EvD (tCB r ar) δ k := fun H0 Hb H σ g Q q =>
  h H0 Hb H σ g _ fun Hb1 H1 vs a b c => o Hb1 H1 vs Q b.ex c fun z hz => q Hb1 H1 z a b hz
theorem en_cb {r : List V → Hp → VK → Prop} (h : EvA ar δ ks) (o : CaN r ks ls) : EvN (tCB r ar) δ ls := fun H0 Hb H σ g Q q =>
  h H0 Hb H σ g _ fun Hb1 H1 vs a b c => o Hb1 H1 vs Q b.ex c fun p xs hp hx => q Hb1 _ p xs a (b.drop hp) (b.hb hp) (b.h0 hp) upd_same hx (b.notOwn hp)
theorem ev_cbU {r : List V → Hp → VK → Prop} (h : EvA ar δ ks) (o : CaU r ks ls) : EvD (tCB r ar) δ (kT K ls) := fun H0 Hb H σ g Q q =>
  h H0 Hb H σ g _ fun Hb1 H1 vs a b c => o Hb1 H1 vs Q b.ex c fun p xs hp hx => q _ _ _ (a.trans (b.gr hp)) (b.alloc hp) ⟨p, xs, rfl, SqT.of upd_same, hx.up (same_upd (b.hb hp))⟩

/-! tests -/
theorem et_test (h : EvD te δ (kB b)) : EvT (tTest te) δ b := fun H0 Hb H σ g Q q => h H0 Hb H σ g _ fun Hb1 H1 v a b' (c : v = .bl b) => ⟨b, c, q Hb1 H1 a b'⟩
theorem et_b (h : EvD te δ (kB b)) : EvT (tB te) δ b := fun H0 Hb H σ g Q q => h H0 Hb H σ g _ fun Hb1 H1 v a b' (c : v = .bl b) => ⟨b, c, q Hb1 H1 a b'⟩
theorem et_not (h : EvT t δ b) : EvT (tNot t) δ (!b) := fun H0 Hb H σ g Q q => h H0 Hb H σ g _ fun Hb1 H1 a b' => q Hb1 H1 a b'
theorem et_and (h : EvT t δ b1) (h2 : b1 = true → EvT u δ b2) : EvT (tAnd t u) δ (b1 && b2) := fun H0 Hb H σ g Q q => h H0 Hb H σ g _ fun Hb1 H1 a c => by
  cases b1 with
  | true => exact iteT (h2 rfl H0 Hb1 H1 σ c Q fun Hb2 H2 a2 c2 => q Hb2 H2 (a.trans a2) c2)
  | false => exact iteF (q Hb1 H1 a c)
theorem et_or (h : EvT t δ b1) (h2 : b1 = false → EvT u δ b2) : EvT (tOr t u) δ (b1 || b2) := fun H0 Hb H σ g Q q => h H0 Hb H σ g _ fun Hb1 H1 a c => by
  cases b1 with
  | true => exact iteT (q Hb1 H1 a c)
  | false => exact iteF (h2 rfl H0 Hb1 H1 σ c Q fun Hb2 H2 a2 c2 => q Hb2 H2 (a.trans a2) c2)
theorem ev_and (h : EvD ta δ (kB b1)) (h2 : b1 = true → EvD tb δ (kB b2)) : EvD (tAndV ta tb) δ (kB (b1 && b2)) := fun H0 Hb H σ g Q q => h H0 Hb H σ g _ fun Hb1 H1 v a c (e : v = .bl b1) => by
  refine ⟨b1, e, ?_⟩
  cases b1 with
  | true => exact iteT (h2 rfl H0 Hb1 H1 σ c Q fun Hb2 H2 v2 a2 c2 e2 => q Hb2 H2 v2 (a.trans a2) c2 e2)
  | false => exact iteF (q Hb1 H1 _ a c rfl)
theorem ev_or (h : EvD ta δ (kB b1)) (h2 : b1 = false → EvD tb δ (kB b2)) : EvD (tOrV ta tb) δ (kB (b1 || b2)) := fun H0 Hb H σ g Q q => h H0 Hb H σ g _ fun Hb1 H1 v a c (e : v = .bl b1) => by
  refine ⟨b1, e, ?_⟩
  cases b1 with
  | true => exact iteT (q Hb1 H1 _ a c rfl)
  | false => exact iteF (h2 rfl H0 Hb1 H1 σ c Q fun Hb2 H2 v2 a2 c2 e2 => q Hb2 H2 v2 (a.trans a2) c2 e2)
theorem ev_not (h : EvD ta δ (kB b)) : EvD (tNotV ta) δ (kB (!b)) := fun H0 Hb H σ g Q q => h H0 Hb H σ g _ fun Hb1 H1 v a c (e : v = .bl b) => ⟨b, e, q Hb1 H1 _ a c rfl⟩
theorem ev_if (h : EvT t δ b) (h1 : b = true → EvD ta δ k) (h2 : b = false → EvD tb δ k) : EvD (tIf t ta tb) δ k := fun H0 Hb H σ g Q q => h H0 Hb H σ g _ fun Hb1 H1 a c => by
  cases b with
  | true => exact iteT (h1 rfl H0 Hb1 H1 σ c Q fun Hb2 H2 v2 a2 c2 e2 => q Hb2 H2 v2 (a.trans a2) c2 e2)
  | false => exact iteF (h2 rfl H0 Hb1 H1 σ c Q fun Hb2 H2 v2 a2 c2 e2 => q Hb2 H2 v2 (a.trans a2) c2 e2)
theorem en_if (h : EvT t δ b) (h1 : b = true → EvN ta δ ks) (h2 : b = false → EvN tb δ ks) : EvN (tIf t ta tb) δ ks := fun H0 Hb H σ g Q q => h H0 Hb H σ g _ fun Hb1 H1 a c => by
  cases b with
  | true => exact iteT (h1 rfl H0 Hb1 H1 σ c Q fun Hb2 H2 p xs a2 => q Hb2 H2 p xs (a.trans a2))
  | false => exact iteF (h2 rfl H0 Hb1 H1 σ c Q fun Hb2 H2 p xs a2 => q Hb2 H2 p xs (a.trans a2))
theorem ev_chain (h1 : EvD ta δ k1) (h2 : EvD tb δ k2) (o : Op r k1 k2 (kB b1)) (h3 : b1 = true → EvD tc δ k3) (o' : b1 = true → Op r' k2 k3 (kB b2)) : EvD (tChain r r' ta tb tc) δ (kB (b1 && b2)) := fun H0 Hb H σ g Q q =>
  h1 H0 Hb H σ g _ fun Hb1 H1 v a c e => h2 H0 Hb1 H1 σ c _ fun Hb2 H2 w a2 c2 e2 => o Hb2 H2 v w _ c2.ex (k1.up a2.1 e) e2 fun z (hz : z = .bl b1) => by
    refine ⟨b1, hz, ?_⟩
    cases b1 with
    | true => exact iteT (h3 rfl H0 Hb2 H2 σ c2 _ fun Hb3 H3 x3 a3 c3 e3 => o' rfl Hb3 H3 w x3 Q c3.ex (k2.up a3.1 e2) e3 fun z hz => q Hb3 H3 z ((a.trans a2).trans a3) c3 hz)
    | false => exact iteF (q Hb2 H2 _ (a.trans a2) c2 rfl)

/-! instances -/
theorem ev_fld {C : Addr} {fs : List (Str × V)} {f : Str} {v : V} (h : EvD ta δ (kO C fs)) (hc : Cls K C) (hn : NoAttr K C f) (hl : fs.lookup f = some v) : EvD (tFld K ta f) δ (kE v) := fun H0 Hb H σ g Q q =>
  h H0 Hb H σ g _ fun Hb1 H1 x a c ⟨p, dx, e1, e2⟩ => ⟨p, C, dx, fs, v, e1, c.ex _ _ e2, hc, hn, hl, q Hb1 H1 v a c rfl⟩

/-! ## what a def promises: by a relation of the arguments' kinds and the result -/
inductive Rs where
  /-- a value of this kind -/
  | v (k : Kd)
  /-- a new list -/
  | nl (ks : List Kd)
  /-- an error of the class at C -/
  | er (C : Addr)
def Fin1 (H Hb : Hp) (Q : VK) (E : XK) : Rs → Prop
  | .v k => ∀ Hb' H' v, Gr H Hb Hb' → Same Hb' H' → Same H H' → k.p v Hb' → Q v H'
  | .nl ks => ∀ Hb' H' p xs, Gr H Hb Hb' → Same Hb' H' → Same H H' → Hb' p = none → H p = none → H' p = some (.lst xs) → AllK Hb' xs ks → Q (.ref p) H'
  | .er C => ∀ H', Same H H' → E (.ref C) none H'
def spR (A : List Kd → Rs → Prop) : Sp := fun vs H Q E => ∃ (Hb : Hp) (ks : List Kd) (r : Rs), A ks r ∧ Same Hb H ∧ AllK Hb vs ks ∧ Fin1 H Hb Q E r
theorem app_nil' {vs : List V} : vs ++ [] = vs := List.append_nil vs
theorem ev_call {A : List Kd → Rs → Prop} {E : XK} (h : EvA ar δ ks) (ha : A ks (.v k)) : EvD (tCall (spR A) [] E ar) δ k := fun H0 Hb H σ g Q q =>
  h H0 Hb H σ g _ fun Hb1 H1 vs a c e => by
    rw [app_nil']
    exact ⟨Hb1, ks, .v k, ha, c.ex, e, fun Hb' H' v gr e1 e2 hv => q Hb' H' v (a.trans (c.gr' gr)) (c.behind gr e1 e2) hv⟩
theorem en_call {A : List Kd → Rs → Prop} {E : XK} (h : EvA ar δ ks) (ha : A ks (.nl ls)) : EvN (tCall (spR A) [] E ar) δ ls := fun H0 Hb H σ g Q q =>
  h H0 Hb H σ g _ fun Hb1 H1 vs a c e => by
    rw [app_nil']
    refine ⟨Hb1, ks, .nl ls, ha, c.ex, e, fun Hb' H' p xs gr e1 e2 hp0 hp1 hp2 hx => ?_⟩
    have hn : ¬ Owns σ δ p := fun z => (c.owns z).2.2 hp1
    exact q Hb' H' p xs (a.trans (c.gr' gr)) (c.behind gr e1 e2) hp0 (c.h0 hp1) hp2 hx hn
theorem ev_meth {A : List Kd → Rs → Prop} {E : XK} {C : Addr} {m : Str} {fs : List (Str × V)} (h : EvD ta δ (kO C fs)) (hl : fs.lookup m = none) (h2 : EvA ar δ ks) (ha : A (kO C fs :: ks) (.v k)) : EvD (tMeth C m (spR A) [] E ta ar) δ k := fun H0 Hb H σ g Q q =>
  h H0 Hb H σ g _ fun Hb1 H1 x a c ex => by
    have ex' := ex
    obtain ⟨p, dx, e1, e2⟩ := ex
    refine ⟨p, dx, fs, e1, c.ex _ _ e2, hl, h2 H0 Hb1 H1 σ c _ fun Hb2 H2 vs a2 c2 e3 => ?_⟩
    rw [app_nil']
    exact ⟨Hb2, kO C fs :: ks, .v k, ha, c2.ex, .cons ((kO C fs).up a2.1 ex') e3, fun Hb' H' v gr e1 e2 hv => q Hb' H' v ((a.trans a2).trans (c2.gr' gr)) (c2.behind gr e1 e2) hv⟩
end

/-! ## the owned lists read: known for a while -/
def fz1 : Sl → Sl
  | .ow ks => .sh (kL ks)
  | s => s
def fz (δ : List Sl) : List Sl := δ.map fz1
open Classical in
noncomputable def knowAll (σ : L2.St) (δ : List Sl) (Hb H : Hp) : Hp := fun b => if Owns σ δ b then H b else Hb b
open Classical in
noncomputable def hideO (σ : L2.St) (δ : List Sl) (Hb : Hp) : Hp := fun b => if Owns σ δ b then none else Hb b
section
variable {H0 Hb H Hb' H' : Hp} {σ : L2.St} {δ : List Sl}
theorem Sg.fz (g : Sg H0 Hb H σ δ) : Same Hb (knowAll σ δ Hb H) ∧ Sg H0 (knowAll σ δ Hb H) H σ (fz δ) := by
  have e1 : Same Hb (knowAll σ δ Hb H) := fun b o e => by
    unfold knowAll
    by_cases h : Owns σ δ b
    · have := (g.owns h).1
      rw [this] at e
      cases e
    · rw [if_neg h]
      exact e
  refine ⟨e1, ⟨fun b o e => ?_, g.fr, by unfold Dx.fz; rw [List.length_map]; exact g.len, fun i k e => ?_, fun i ks e => ?_, fun a b ks ls p e => ?_⟩⟩
  · unfold knowAll at e
    by_cases h : Owns σ δ b
    · rw [if_pos h] at e
      exact e
    · rw [if_neg h] at e
      exact g.ex b o e
  · unfold Dx.fz at e
    rw [List.getElem?_map] at e
    cases hs : δ[i]? with
    | none => rw [hs] at e; cases e
    | some s =>
      rw [hs] at e
      cases s with
      | no => cases e
      | sh k' =>
        cases e
        obtain ⟨v, h1, h2⟩ := g.sh i _ hs
        exact ⟨v, h1, Kd.up _ e1 h2⟩
      | ow ks =>
        cases e
        obtain ⟨p, xs, h1, h2, h3, h4, h5⟩ := g.ow i _ hs
        refine ⟨_, h1, p, xs, rfl, ?_, h5.up e1⟩
        unfold knowAll
        rw [if_pos ⟨i, ks, hs, h1⟩]
        exact h4
  · unfold Dx.fz at e
    rw [List.getElem?_map] at e
    cases hs : δ[i]? with
    | none => rw [hs] at e; cases e
    | some s =>
      rw [hs] at e
      cases s <;> cases e
  · unfold Dx.fz at e
    rw [List.getElem?_map] at e
    cases hs : δ[a]? with
    | none => rw [hs] at e; cases e
    | some s =>
      rw [hs] at e
      cases s <;> cases e
theorem Sg.unfz (g : Sg H0 Hb H σ δ) (gr : Gr H0 (knowAll σ δ Hb H) Hb') (g' : Sg H0 Hb' H' σ (Dx.fz δ)) : Gr H0 Hb (hideO σ δ Hb') ∧ Sg H0 (hideO σ δ Hb') H' σ δ := by
  have e0 : Same Hb (hideO σ δ Hb') := fun b o e => by
    unfold hideO
    by_cases h : Owns σ δ b
    · have := (g.owns h).1
      rw [this] at e
      cases e
    · rw [if_neg h]
      exact gr.1 b o (g.fz.1 b o e)
  refine ⟨⟨e0, fun b h q => ?_⟩, ⟨fun b o e => ?_, g'.fr, g.len, fun i k e => ?_, fun i ks e => ?_, g.ne⟩⟩
  · unfold hideO
    by_cases hb : Owns σ δ b
    · rw [if_pos hb]
    · rw [if_neg hb]
      refine gr.2 b h ?_
      unfold knowAll
      rw [if_neg hb]
      exact q
  · unfold hideO at e
    by_cases hb : Owns σ δ b
    · rw [if_pos hb] at e
      cases e
    · rw [if_neg hb] at e
      exact g'.ex b o e
  · obtain ⟨v, h1, h2⟩ := g.sh i k e
    exact ⟨v, h1, k.up e0 h2⟩
  · obtain ⟨p, xs, h1, h2, h3, h4, h5⟩ := g.ow i ks e
    have ho : Owns σ δ p := ⟨i, ks, e, h1⟩
    refine ⟨p, xs, h1, by unfold hideO; rw [if_pos ho], h3, ?_, h5.up e0⟩
    refine g'.ex p _ (gr.1 p _ ?_)
    unfold knowAll
    rw [if_pos ho]
    exact h4
theorem et_fz {t : TT} {b : Bool} (h : EvT t (fz δ) b) : EvT t δ b := fun H0 Hb H σ g Q q => h H0 _ H σ g.fz.2 Q fun Hb' H' gr g' =>
  let ⟨a, c⟩ := g.unfz gr g'
  q _ H' a c
theorem ev_fz {te : TE} {v : V} (h : EvD te (fz δ) (kE v)) : EvD te δ (kE v) := fun H0 Hb H σ g Q q => h H0 _ H σ g.fz.2 Q fun Hb' H' w gr g' e =>
  let ⟨a, c⟩ := g.unfz gr g'
  q _ H' w a c e
end
end Dx

namespace Dx
open PySem PySem.Spec PyProof.Rows L2
/-! ## statements -/
inductive Out where
  | nx (δ : List Sl)
  | rt (k : Kd)
  | rn (ks : List Kd)
def Tk (D : Ends) (H0 Hb : Hp) : Out → Prop
  | .nx δ => ∀ Hb' H' σ', Gr H0 Hb Hb' → Sg H0 Hb' H' σ' δ → D.nx σ' H'
  | .rt k => ∀ Hb' H' v, Gr H0 Hb Hb' → Same Hb' H' → Same H0 H' → k.p v Hb' → D.rt v H'
  | .rn ks => ∀ Hb' H' p xs, Gr H0 Hb Hb' → Same Hb' H' → Same H0 H' → Hb' p = none → H0 p = none → H' p = some (.lst xs) → AllK Hb' xs ks → D.rt (.ref p) H'
theorem Tk.up {D : Ends} {H0 Hb Hb' : Hp} (g : Gr H0 Hb Hb') : ∀ {o : Out}, Tk D H0 Hb o → Tk D H0 Hb' o
  | .nx _, t => fun Hc H' σ' a b => t Hc H' σ' (g.trans a) b
  | .rt _, t => fun Hc H' v a b => t Hc H' v (g.trans a) b
  | .rn _, t => fun Hc H' p xs a b => t Hc H' p xs (g.trans a) b
def Does (t : TS) (δ : List Sl) (o : Out) : Prop := ∀ (H0 Hb H : Hp) (σ : L2.St) (D : Ends), Sg H0 Hb H σ δ → Tk D H0 Hb o → t D σ H
/-- what stores a value of kind k: at the slots ws alone -/
def Bnd (g : TG) (ws : List Nat) (k : Kd) (δ δ1 : List Sl) : Prop := (∀ i, i ∉ ws → δ1[i]? = δ[i]?) ∧ ∀ (H0 Hb H : Hp) (σ : L2.St) (x : V), Sg H0 Hb H σ δ → k.p x Hb → ∀ Q : L2.St → Hp → Prop,
  (∀ σ', Sg H0 Hb H σ' δ1 → (∀ i, i ∉ ws → σ'[i]? = σ[i]?) → σ'.length = σ.length → Q σ' H) → g x σ H Q
def BndS (g : TGs) (ws : List Nat) (ks : List Kd) (δ δ1 : List Sl) : Prop := (∀ i, i ∉ ws → δ1[i]? = δ[i]?) ∧ ∀ (H0 Hb H : Hp) (σ : L2.St) (xs : List V), Sg H0 Hb H σ δ → AllK Hb xs ks → ∀ Q : L2.St → Hp → Prop,
  (∀ σ', Sg H0 Hb H σ' δ1 → (∀ i, i ∉ ws → σ'[i]? = σ[i]?) → σ'.length = σ.length → Q σ' H) → g xs σ H Q

section
variable {K : PySem.W.Frag} {δ δ1 δ2 : List Sl} {te ta tb : TE} {k k1 k2 k3 : Kd} {ks ls : List Kd} {c : TT} {b : Bool} {ar : TA} {t u : TS} {o : Out} {g : TG} {i j : Nat} {ws : List Nat}
theorem d_next : Does tNext δ (.nx δ) := fun H0 Hb H σ D s tk => tk Hb H σ (Gr.refl _ _) s
theorem d_seq (h1 : Does t δ (.nx δ1)) (h2 : Does u δ1 o) : Does (tSeq t u) δ o := fun H0 Hb H σ D s tk =>
  h1 H0 Hb H σ _ s fun Hb' H' σ' a b => h2 H0 Hb' H' σ' D b (tk.up a)
theorem d_ret1 (h1 : Does t δ (.rt k)) : Does (tSeq t u) δ (.rt k) := fun H0 Hb H σ D s tk => h1 H0 Hb H σ _ s tk
theorem d_ret2 (h1 : Does t δ (.rn ks)) : Does (tSeq t u) δ (.rn ks) := fun H0 Hb H σ D s tk => h1 H0 Hb H σ _ s tk
theorem d_if (h : EvT c δ b) (h1 : b = true → Does t δ o) (h2 : b = false → Does u δ o) : Does (tIfS c t u) δ o := fun H0 Hb H σ D s tk => h H0 Hb H σ s _ fun Hb1 H1 a e => by
  cases b with
  | true => exact iteT (h1 rfl H0 Hb1 H1 σ D e (tk.up a))
  | false => exact iteF (h2 rfl H0 Hb1 H1 σ D e (tk.up a))
theorem d_no (h : EvT c δ false) (h2 : Does u δ o) : Does (tIfS c t u) δ o := d_if h (fun z => nomatch z) fun _ => h2
theorem d_yes (h : EvT c δ true) (h1 : Does t δ o) : Does (tIfS c t u) δ o := d_if h (fun _ => h1) fun z => nomatch z
theorem d_asg (h : EvD te δ k) : Does (tAsg te (gName i)) δ (.nx (δ.set i (.sh k))) := fun H0 Hb H σ D s tk => h H0 Hb H σ s _ fun Hb1 H1 v a e q => tk Hb1 H1 _ a (e.set q)
theorem d_asgG (h : EvD te δ k) (hb : Bnd g ws k δ δ1) : Does (tAsg te g) δ (.nx δ1) := fun H0 Hb H σ D s tk => h H0 Hb H σ s _ fun Hb1 H1 v a e q =>
  hb.2 H0 Hb1 H1 σ v e q _ fun σ' s' _ _ => tk Hb1 H1 σ' a s'
theorem d_asgN (h : EvN te δ ks) : Does (tAsg te (gName i)) δ (.nx (δ.set i (.ow ks))) := fun H0 Hb H σ D s tk => h H0 Hb H σ s _ fun Hb1 H1 p xs a e q0 q1 q2 q3 hn =>
  tk Hb1 H1 _ a (e.setO q0 q1 q2 q3 fun j ls e1 e2 => absurd ⟨j, ls, e1, e2⟩ hn)
theorem d_drop (h : EvD te δ k) : Does (tDrop te) δ (.nx δ) := fun H0 Hb H σ D s tk => h H0 Hb H σ s _ fun Hb1 H1 v a e q => tk Hb1 H1 σ a e
theorem d_ret (h : EvD te δ k) : Does (tRet te) δ (.rt k) := fun H0 Hb H σ D s tk => h H0 Hb H σ s _ fun Hb1 H1 v a e q => tk Hb1 H1 v a e.ex e.fr q
theorem d_retN (h : EvN te δ ks) : Does (tRet te) δ (.rn ks) := fun H0 Hb H σ D s tk => h H0 Hb H σ s _ fun Hb1 H1 p xs a e q0 q1 q2 q3 _ => tk Hb1 H1 p xs a e.ex e.fr q0 q1 q2 q3
theorem d_retO (h : δ[i]? = some (.ow ks)) : Does (tRet (tVar i)) δ (.rn ks) := fun H0 Hb H σ D s tk => by
  obtain ⟨p, xs, h1, h2, h3, h4, h5⟩ := s.ow i ks h
  exact ⟨.ref p, h1, tk Hb H p xs (Gr.refl _ _) s.ex s.fr h2 h3 h4 h5⟩
theorem d_retNone : Does tRetN δ (.rt kN) := fun H0 Hb H σ D s tk => tk Hb H .non (Gr.refl _ _) s.ex s.fr rfl
theorem d_le (h : Does t δ (.rt k)) (e : k.le k') : Does t δ (.rt k') := fun H0 Hb H σ D s tk => h H0 Hb H σ D s fun Hb1 H1 v a e1 e2 q => tk Hb1 H1 v a e1 e2 (e _ _ q)
theorem d_to {v w : V} (h : Does t δ (.rt (kE v))) (e : v = w) : Does t δ (.rt (kE w)) := e ▸ h
theorem d_rto (h : Does t δ (.rn ks)) (e : ks = ls) : Does t δ (.rn ls) := e ▸ h
theorem d_weak (h : Does t δ (.nx δ1)) (w : Paired Sl.le δ1 δ2) : Does t δ (.nx δ2) := fun H0 Hb H σ D s tk => h H0 Hb H σ D s fun Hb1 H1 σ' a e => tk Hb1 H1 σ' a (e.weak w)
theorem d_pre (h : Does t δ1 o) (w : Paired Sl.le δ δ1) : Does t δ o := fun H0 Hb H σ D s tk => h H0 Hb H σ D (s.weak w) tk
theorem d_nx (h : Does t δ (.nx δ1)) (e : δ1 = δ2) : Does t δ (.nx δ2) := e ▸ h
/-- an owned list is known from here on -/
theorem set_same {α : Type} : ∀ {l : List α} {i : Nat} {a : α}, l[i]? = some a → l.set i a = l
  | [], _, _, _ => rfl
  | x :: r, 0, a, h => by
    have e : x = a := Option.some.inj h
    subst e
    rfl
  | x :: r, i + 1, a, h => by
    show x :: r.set i a = x :: r
    rw [set_same (l := r) (by simpa using h)]
theorem d_frz (h : δ[i]? = some (.ow ks)) (d : Does t (δ.set i (.sh (kL ks))) o) : Does t δ o := fun H0 Hb H σ D s tk => by
  obtain ⟨p, xs, h1, h2, h3, h4, h5⟩ := s.ow i ks h
  -- the slot forgotten, then the list known, then the slot stored
  have s1 : Sg H0 Hb H (σ.set i (some .non)) (δ.set i (.sh kAny)) := s.set (k := kAny) trivial
  have hn : ¬ Owns (σ.set i (some .non)) (δ.set i (.sh kAny)) p := by
    rintro ⟨j, ls, e1, e2⟩
    by_cases hj : i = j
    · subst hj
      have hl := (List.getElem?_eq_some_iff.mp e1).1
      rw [List.getElem?_set_self (by rw [List.length_set] at hl; exact hl)] at e1
      cases e1
    · rw [List.getElem?_set_ne hj] at e1 e2
      exact hj (s.ne i j ks ls p h e1 h1 e2)
  have s2 := s1.know (o := .lst xs) h2 h4 hn
  have s3 := s2.set (i := i) (v := .ref p) (k := kL ks) ⟨p, xs, rfl, upd_same, h5.up (same_upd h2)⟩
  have e1 : (σ.set i (some V.non)).set i (some (V.ref p)) = σ := by rw [List.set_set]; exact set_same h1
  have e2 : (δ.set i (Sl.sh kAny)).set i (Sl.sh (kL ks)) = δ.set i (.sh (kL ks)) := List.set_set ..
  rw [e1, e2] at s3
  exact d H0 _ H σ D s3 (tk.up (Gr.new h3 h2))
/-- a, b = x, y -/
theorem d_par (h1 : EvD ta δ k1) (h2 : EvD tb δ k2) : Does (tPar i j (tCons ta (tCons tb tNil))) δ (.nx ((δ.set i (.sh k1)).set j (.sh k2))) := fun H0 Hb H σ D s tk =>
  h1 H0 Hb H σ s _ fun Hb1 H1 v a e q => h2 H0 Hb1 H1 σ e _ fun Hb2 H2 w a2 e2 q2 => ⟨v, w, rfl, tk Hb2 H2 _ (a.trans a2) ((e2.set (k1.up a2.1 q)).set q2)⟩
theorem d_parN2 (h1 : EvD ta δ k1) (h2 : EvN tb δ ks) : Does (tPar i j (tCons ta (tCons tb tNil))) δ (.nx ((δ.set i (.sh k1)).set j (.ow ks))) := fun H0 Hb H σ D s tk =>
  h1 H0 Hb H σ s _ fun Hb1 H1 v a e q => h2 H0 Hb1 H1 σ e _ fun Hb2 H2 p xs a2 e2 q0 q1 q2 q3 hn => ⟨v, .ref p, rfl, tk Hb2 H2 _ (a.trans a2) ((e2.set (k1.up a2.1 q)).setO q0 q1 q2 q3 fun l ls z1 z2 => by
    by_cases hl : i = l
    · subst hl
      have hh := (List.getElem?_eq_some_iff.mp z1).1
      rw [List.getElem?_set_self (by rw [List.length_set] at hh; exact hh)] at z1
      cases z1
    · rw [List.getElem?_set_ne hl] at z1 z2
      exact absurd ⟨l, ls, z1, z2⟩ hn)⟩
/-- the first new and owned, the second evaluated where the first is framed -/
theorem d_parN1 (h1 : EvN ta δ ks) (h2 : EvD tb δ k2) (hij : i ≠ j) : Does (tPar i j (tCons ta (tCons tb tNil))) δ (.nx ((δ.set i (.ow ks)).set j (.sh k2))) := fun H0 Hb H σ D s tk =>
  h1 H0 Hb H σ s _ fun Hb1 H1 p xs a e q0 q1 q2 q3 hn => by
    -- the new list framed by the entry's heap
    have e' : Sg (upd H0 p (.lst xs)) Hb1 H1 σ δ := ⟨e.ex, fun b o z => by
        by_cases hb : b = p
        · subst hb
          rw [upd_same] at z
          cases z
          exact q2
        · rw [upd_ne hb] at z
          exact e.fr b o z, e.len, e.sh, fun l ls z => by
        obtain ⟨p', ys, r1, r2, r3, r4, r5⟩ := e.ow l ls z
        exact ⟨p', ys, r1, r2, by rw [upd_ne (fun y => hn ⟨l, ls, z, by rw [← y]; exact r1⟩)]; exact r3, r4, r5⟩, e.ne⟩
    refine h2 _ Hb1 H1 σ e' _ fun Hb2 H2 w a2 e2 q => ⟨.ref p, w, rfl, ?_⟩
    have a2' : Gr H0 Hb1 Hb2 := a2.mono (same_upd q1)
    have hp2 : Hb2 p = none := a2.2 p (by rw [upd_same]; exact nt_lst) q0
    have hH2 : H2 p = some (.lst xs) := e2.fr p _ upd_same
    have e3 : Sg H0 Hb2 H2 σ δ := ⟨e2.ex, (same_upd q1).trans e2.fr, e2.len, e2.sh, fun l ls z => by
        obtain ⟨p', ys, r1, r2, r3, r4, r5⟩ := e2.ow l ls z
        exact ⟨p', ys, r1, r2, (same_upd q1).free r3, r4, r5⟩, e2.ne⟩
    exact tk Hb2 H2 _ (a.trans a2') ((e3.setO hp2 q1 hH2 (q3.up a2.1) fun l ls z1 z2 => absurd ⟨l, ls, z1, z2⟩ hn).set q)
/-- found.append(e) -/
theorem d_appendB (h : δ[i]? = some (.ow ks)) (he : EvD te δ k) (hl : ks.length < sizeLine) : Does (tDrop (tBM K "list" rAppend (tVar i) (tCons te tNil))) δ (.nx (δ.set i (.ow (ks ++ [k])))) := fun H0 Hb H σ D s tk => by
  obtain ⟨p, xs, h1, h2, h3, h4, h5⟩ := s.ow i ks h
  refine ⟨.ref p, h1, .inl ⟨rfl, xs, SqL.of h4⟩, he H0 Hb H σ s _ fun Hb1 H1 v a e q => ?_⟩
  obtain ⟨p', xs', r1, r2, r3, r4, r5⟩ := e.ow i ks h
  rw [h1] at r1
  cases r1
  refine ⟨p, xs', v, rfl, rfl, r4, by rw [r5.len]; exact hl, ?_⟩
  have e2 : Sg H0 Hb1 (upd H1 p (.lst (xs' ++ [v]))) (σ.set i (some .non)) (δ.set i (.sh kAny)) := by
    have e1 := e.set (i := i) (v := .non) (k := kAny) trivial
    refine ⟨fun b o z => ?_, fun b o z => ?_, e1.len, e1.sh, fun l ls z => ?_, e1.ne⟩
    · rw [upd_ne (fun y => by rw [y, r2] at z; cases z)]
      exact e1.ex b o z
    · rw [upd_ne (fun y => by rw [y, r3] at z; cases z)]
      exact e1.fr b o z
    · obtain ⟨p2, ys, w1, w2, w3, w4, w5⟩ := e1.ow l ls z
      have hne : p2 ≠ p := fun y => by
        subst y
        by_cases hj : i = l
        · subst hj
          have hh := (List.getElem?_eq_some_iff.mp z).1
          rw [List.getElem?_set_self (by rw [List.length_set] at hh; exact hh)] at z
          cases z
        · rw [List.getElem?_set_ne hj] at z w1
          exact hj (e.ne i l ks ls p2 h z h1 w1)
      exact ⟨p2, ys, w1, w2, w3, by rw [upd_ne hne]; exact w4, w5⟩
  have e3 := e2.setO (i := i) (p := p) (xs := xs' ++ [v]) (ks := ks ++ [k]) r2 r3 upd_same (r5.app (.cons q .nil)) fun l ls z1 z2 => by
    by_cases hj : i = l
    · exact hj.symm
    · rw [List.getElem?_set_ne hj] at z1 z2
      exact (e.ne i l ks ls p h z1 h1 z2).symm
  have w1 : (σ.set i (some V.non)).set i (some (V.ref p)) = σ := by rw [List.set_set]; exact set_same h1
  have w2 : (δ.set i (Sl.sh kAny)).set i (Sl.ow (ks ++ [k])) = δ.set i (.ow (ks ++ [k])) := List.set_set ..
  rw [w1, w2] at e3
  exact tk Hb1 _ σ a e3

/-! targets -/
theorem d_append (h : δ[i]? = some (.ow ks)) (he : EvD te δ k) (hl : ks.length ≤ 1000) : Does (tDrop (tBM K "list" rAppend (tVar i) (tCons te tNil))) δ (.nx (δ.set i (.ow (ks ++ [k])))) := d_appendB h he (small1000 hl)
theorem b_name : Bnd (gName i) [i] k δ (δ.set i (.sh k)) := ⟨fun j hj => List.getElem?_set_ne (fun z => hj (by simp [z])), fun H0 Hb H σ x s hx Q q => q _ (s.set hx) (fun j hj => List.getElem?_set_ne (fun z => hj (by simp [z]))) (List.length_set ..)⟩
theorem bs_nil : BndS gNil [] [] δ δ := ⟨fun _ _ => rfl, fun H0 Hb H σ xs s hx Q q => by
  cases hx
  exact ⟨rfl, q σ s (fun _ _ => rfl) rfl⟩⟩
theorem bs_cons {gs : TGs} {vs : List Nat} (h : Bnd g ws k δ δ1) (t : BndS gs vs ks δ1 δ2) : BndS (gCons g gs) (ws ++ vs) (k :: ks) δ δ2 := ⟨fun j hj => by rw [t.1 j (fun z => hj (List.mem_append_right _ z)), h.1 j (fun z => hj (List.mem_append_left _ z))], fun H0 Hb H σ xs s hx Q q => by
  cases hx with
  | cons hx hr =>
    refine ⟨_, _, rfl, h.2 H0 Hb H σ _ s hx _ fun σ1 s1 k1 l1 => t.2 H0 Hb H σ1 _ s1 hr _ fun σ2 s2 k2 l2 => q σ2 s2 (fun j hj => ?_) (l2.trans l1)⟩
    rw [k2 j (fun z => hj (List.mem_append_right _ z)), k1 j (fun z => hj (List.mem_append_left _ z))]⟩
theorem b_tup {gs : TGs} {n : Nat} (h : BndS gs ws ks δ δ1) (hn : ks.length = n) : Bnd (gTup K n gs) ws (kT K ks) δ δ1 := ⟨h.1, fun H0 Hb H σ x s ⟨a, xs, e1, e2, e3⟩ Q q =>
  ⟨a, xs, e1, Same.sqT s.ex e2, e3.len.trans hn, h.2 H0 Hb H σ xs s e3 Q q⟩⟩
end
end Dx

namespace Dx
open PySem PySem.Spec PyProof.Rows L2
/-- a tuple that is tracked -/
def kTr (ks : List Kd) : Kd := ⟨fun v H => ∃ a xs, v = .ref a ∧ H a = some (.tup xs) ∧ AllK H xs ks, fun e ⟨a, xs, h1, h2, h3⟩ => ⟨a, xs, h1, e _ _ h2, h3.up e⟩⟩
theorem kTr_le {K : PySem.W.Frag} {ks : List Kd} : (kTr ks).le (kT K ks) := fun _ _ ⟨a, xs, h1, h2, h3⟩ => ⟨a, xs, h1, SqT.of h2, h3⟩
theorem Gr.cap {H0 Hb : Hp} {q : Addr} {o : HO} (h : ¬ NT (H0 q)) (hb : Hb q = none) : Gr H0 Hb (upd Hb q o) := ⟨same_upd hb, fun b n z => by
  rw [upd_ne (fun e => h (by rw [← e]; exact n))]
  exact z⟩
/-- a tuple that the heap tracks is known from here on -/
theorem Sg.cap {H0 Hb H : Hp} {σ : L2.St} {δ : List Sl} {T : Addr} {xs : List V} (g : Sg H0 Hb H σ δ) (h : H T = some (.tup xs)) : ∃ Hb', Gr H0 Hb Hb' ∧ Sg H0 Hb' H σ δ ∧ Hb' T = some (.tup xs) := by
  cases q : Hb T with
  | some o =>
    have e := g.ex _ _ q
    rw [h] at e
    cases e
    exact ⟨Hb, Gr.refl _ _, g, q⟩
  | none =>
    refine ⟨upd Hb T (.tup xs), Gr.cap (fun n => ?_) q, ⟨fun b o z => ?_, g.fr, g.len, fun i k e => ?_, fun i ks e => ?_, g.ne⟩, upd_same⟩
    · cases z : H0 T with
      | none => exact n.1 z
      | some o =>
        have e := g.fr _ _ z
        rw [h] at e
        cases e
        exact n.2 _ z
    · by_cases hb : b = T
      · subst hb
        rw [upd_same] at z
        rw [h]
        exact z
      · rw [upd_ne hb] at z
        exact g.ex b o z
    · obtain ⟨v, h1, h2⟩ := g.sh i k e
      exact ⟨v, h1, k.up (same_upd q) h2⟩
    · obtain ⟨p, ys, h1, h2, h3, h4, h5⟩ := g.ow i ks e
      have hne : p ≠ T := fun z => by
        rw [z, h] at h4
        cases h4
      exact ⟨p, ys, h1, by rw [upd_ne hne]; exact h2, h3, h4, h5.up (same_upd q)⟩
/-! ## what is walked: items of known kinds -/
structure Wk (Hb : Hp) (J : It) (ys : List Kd) : Prop where
  goes : ∀ (i : Nat) (H : Hp), i < ys.length → Same Hb H → J.go i H
  stops : ∀ (H : Hp), Same Hb H → J.stop ys.length H
  yields : ∀ (i : Nat) (H : Hp) (x : V) (H' : Hp) (k : Kd), ys[i]? = some k → Same Hb H → J.yld i H x H' →
    (H' = H ∧ k.p x Hb) ∨ (∃ (T : Addr) (xs : List V) (ls : List Kd) (K : PySem.W.Frag), x = .ref T ∧ H T = none ∧ H' = upd H T (.tup xs) ∧ AllK Hb xs ls ∧ (kT K ls).le k) ∨
      ∃ (T : Addr) (xs : List V) (ls : List Kd), x = .ref T ∧ H T = some (.tup xs) ∧ H' = H ∧ AllK Hb xs ls ∧ (kTr ls).le k
theorem Wk.up {Hb Hb' : Hp} {J : It} {ys : List Kd} (w : Wk Hb J ys) (e : Same Hb Hb') : Wk Hb' J ys where
  goes := fun i H hi s => w.goes i H hi (e.trans s)
  stops := fun H s => w.stops H (e.trans s)
  yields := fun i H x H' k hk s y => by
    rcases w.yields i H x H' k hk (e.trans s) y with ⟨h1, h2⟩ | ⟨T, xs, ls, K, h1, h2, h3, h4, h5⟩ | ⟨T, xs, ls, h1, h2, h3, h4, h5⟩
    · exact .inl ⟨h1, k.up e h2⟩
    · exact .inr (.inl ⟨T, xs, ls, K, h1, h2, h3, h4.up e, h5⟩)
    · exact .inr (.inr ⟨T, xs, ls, h1, h2, h3, h4.up e, h5⟩)
def Src (wi : TI) (δ : List Sl) (ys : List Kd) : Prop := ∀ (H0 Hb H : Hp) (σ : L2.St), Sg H0 Hb H σ δ → ∀ R : It → Hp → Prop,
  (∀ Hb' H' J, Gr H0 Hb Hb' → Sg H0 Hb' H' σ δ → Wk Hb' J ys → R J H') → wi σ H R
section
variable {K : PySem.W.Frag} {δ δ1 δ2 : List Sl} {te ta tb : TE} {k k1 k2 k3 : Kd} {ks ls ys out : List Kd} {c : TT} {b : Bool} {ar : TA} {t u tbd : TS} {o : Out} {g : TG} {i j : Nat} {ws vs : List Nat} {wi : TI}
theorem wk_list {Hb : Hp} {a : Addr} {xs : List V} (h : SqL K Hb a xs) (hx : AllK Hb xs ys) : Wk Hb (Itl K a) ys where
  goes := fun i H hi s => (walk_list (K := K) (a := a) (xs := xs)).goes i H (by rw [hx.len]; exact hi) (s.seq h)
  stops := fun H s => by rw [← hx.len]; exact (walk_list (K := K) (a := a) (xs := xs)).stops H (s.seq h)
  yields := fun i H x H' k hk s y => by
    have hi : i < xs.length := by rw [hx.len]; exact (List.getElem?_eq_some_iff.mp hk).1
    obtain ⟨e1, e2⟩ := (walk_list (K := K) (a := a) (xs := xs)).yields i H x H' hi (s.seq h) y
    obtain ⟨k', e3, e4⟩ := hx.get e2
    rw [hk] at e3
    cases e3
    exact .inl ⟨e1, e4⟩
theorem wk_tup {Hb : Hp} {a : Addr} {xs : List V} (h : SqT K Hb a xs) (hx : AllK Hb xs ys) : Wk Hb (Itt K a) ys where
  goes := fun i H hi s => (walk_tup (K := K) (a := a) (xs := xs)).goes i H (by rw [hx.len]; exact hi) (Same.sqT s h)
  stops := fun H s => by rw [← hx.len]; exact (walk_tup (K := K) (a := a) (xs := xs)).stops H (Same.sqT s h)
  yields := fun i H x H' k hk s y => by
    have hi : i < xs.length := by rw [hx.len]; exact (List.getElem?_eq_some_iff.mp hk).1
    obtain ⟨e1, e2⟩ := (walk_tup (K := K) (a := a) (xs := xs)).yields i H x H' hi (Same.sqT s h) y
    obtain ⟨k', e3, e4⟩ := hx.get e2
    rw [hk] at e3
    cases e3
    exact .inl ⟨e1, e4⟩
theorem src_seq (h : EvD te δ (kS K ys)) : Src (iList K te) δ ys := fun H0 Hb H σ s R q => h H0 Hb H σ s _ fun Hb1 H1 v a e ⟨p, xs, e1, e2, e3⟩ =>
  ⟨p, e1, ⟨xs, e.ex.seq e2⟩, q Hb1 H1 _ a e (wk_list e2 e3)⟩
theorem src_list (h : EvD te δ (kL ys)) : Src (iList K te) δ ys := src_seq (ev_le h kL_le_kS)
theorem src_tup (h : EvD te δ (kT K ys)) : Src (iTup K te) δ ys := fun H0 Hb H σ s R q => h H0 Hb H σ s _ fun Hb1 H1 v a e ⟨p, xs, e1, e2, e3⟩ =>
  ⟨p, e1, ⟨xs, Same.sqT e.ex e2⟩, q Hb1 H1 _ a e (wk_tup e2 e3)⟩
/-- range(n) -/
def rangeK (n : Nat) : List Kd := (List.range n).map fun i => kI (i : Nat)
theorem src_range {n : Nat} (h : EvD te δ (kI (n : Nat))) (hn : n ≤ 1000) : Src (iRng1 (tCons te tNil)) δ (rangeK n) := fun H0 Hb H σ s R q => h H0 Hb H σ s _ fun Hb1 H1 v a e (ev : v = .int (n : Nat)) => by
  refine ⟨(n : Nat), by rw [ev], by omega, by omega, q Hb1 H1 _ a e ?_⟩
  have hl : (rangeK n).length = n := by unfold rangeK; rw [List.length_map, List.length_range]
  refine ⟨fun i H hi _ => ?_, fun H _ => ?_, fun i H x H' k hk _ y => .inl ?_⟩
  · rw [hl] at hi
    show i < ((n : Nat) : Int).toNat
    omega
  · rw [hl]
    show ((n : Nat) : Int).toNat ≤ n
    omega
  · obtain ⟨y1, y2⟩ := y
    refine ⟨y1, ?_⟩
    unfold rangeK at hk
    rw [List.getElem?_map] at hk
    cases hr : (List.range n)[i]? with
    | none => rw [hr] at hk; cases hk
    | some j =>
      rw [hr] at hk
      cases hk
      have : j = i := by
        obtain ⟨h1, h2⟩ := List.getElem?_eq_some_iff.mp hr
        rw [List.getElem_range] at h2
        exact h2.symm
      subst this
      rw [y2]
      show V.int (0 + (j : Int)) = V.int (j : Int)
      rw [Int.zero_add]

/-! ## comprehensions -/
def wipeD (δ : List Sl) : List Nat → List Sl
  | [] => δ
  | v :: vs => (wipeD δ vs).set v .no
theorem Sg.set0 {H0 Hb H : Hp} {σ : L2.St} {i : Nat} (g : Sg H0 Hb H σ δ) : Sg H0 Hb H (σ.set i none) (δ.set i .no) where
  ex := g.ex
  fr := g.fr
  len := by rw [List.length_set, List.length_set]; exact g.len
  sh := fun j l e => by
    by_cases hj : i = j
    · subst hj
      have hl := (List.getElem?_eq_some_iff.mp e).1
      rw [List.length_set] at hl
      rw [List.getElem?_set_self hl] at e
      cases e
    · rw [List.getElem?_set_ne hj] at e ⊢
      exact g.sh j l e
  ow := fun j ks e => by
    by_cases hj : i = j
    · subst hj
      have hl := (List.getElem?_eq_some_iff.mp e).1
      rw [List.length_set] at hl
      rw [List.getElem?_set_self hl] at e
      cases e
    · rw [List.getElem?_set_ne hj] at e ⊢
      exact g.ow j ks e
  ne := fun a b ks ls p e1 e2 q1 q2 => by
    have na : i ≠ a := fun z => by
      subst z
      have hl := (List.getElem?_eq_some_iff.mp e1).1
      rw [List.length_set] at hl
      rw [List.getElem?_set_self hl] at e1
      cases e1
    have nb : i ≠ b := fun z => by
      subst z
      have hl := (List.getElem?_eq_some_iff.mp e2).1
      rw [List.length_set] at hl
      rw [List.getElem?_set_self hl] at e2
      cases e2
    rw [List.getElem?_set_ne na] at e1 q1
    rw [List.getElem?_set_ne nb] at e2 q2
    exact g.ne a b ks ls p e1 e2 q1 q2
theorem Sg.wipe {H0 Hb H : Hp} {σ : L2.St} (g : Sg H0 Hb H σ δ) : ∀ vs : List Nat, Sg H0 Hb H (L2.wipe σ vs) (wipeD δ vs)
  | [] => g
  | v :: vs => (Sg.wipe g vs).set0
theorem wipe_get {σ : L2.St} {vs : List Nat} {i : Nat} : (L2.wipe σ vs)[i]? = if i ∈ vs then (if i < σ.length then some none else none) else σ[i]? := by
  induction vs with
  | nil => simp [L2.wipe]
  | cons v vs ih =>
    unfold L2.wipe
    by_cases hi : v = i
    · subst hi
      rw [if_pos List.mem_cons_self]
      by_cases hl : v < σ.length
      · rw [if_pos hl, List.getElem?_set_self (by rw [wipe_length]; exact hl)]
      · rw [if_neg hl, List.getElem?_eq_none (by rw [List.length_set, wipe_length]; omega)]
    · rw [List.getElem?_set_ne hi, ih]
      have : (i ∈ v :: vs) ↔ i ∈ vs := by simp [Ne.symm hi]
      by_cases hm : i ∈ vs
      · rw [if_pos hm, if_pos (this.mpr hm)]
      · rw [if_neg hm, if_neg (fun z => hm (this.mp z))]
theorem wipe_eq {σ σ' : L2.St} {vs ws : List Nat} (hw : ∀ w ∈ ws, w ∈ vs) (h : ∀ i, i ∉ ws → σ'[i]? = (L2.wipe σ vs)[i]?) (hl : σ'.length = (L2.wipe σ vs).length) : L2.wipe σ' vs = L2.wipe σ vs := by
  apply List.ext_getElem?
  intro i
  rw [wipe_get]
  by_cases hi : i ∈ vs
  · rw [if_pos hi, wipe_get, if_pos hi, hl, wipe_length]
  · rw [if_neg hi, h i (fun z => hi (hw i z))]
/-- the turns of a comprehension, the items' kinds on the left, what is made on the right -/
inductive LcRun (g : TG) (tt : TT) (te : TE) (vs : List Nat) (δ : List Sl) : List Kd → List Kd → Prop where
  | nil : LcRun g tt te vs δ [] []
  | keep {k k' : Kd} {ys out : List Kd} {δ1 : List Sl} {ws : List Nat} (hb : Bnd g ws k (wipeD δ vs) δ1) (hw : ∀ w ∈ ws, w ∈ vs) (ht : EvT tt δ1 true) (he : EvD te δ1 k') (r : LcRun g tt te vs δ ys out) : LcRun g tt te vs δ (k :: ys) (k' :: out)
  | skip {k : Kd} {ys out : List Kd} {δ1 : List Sl} {ws : List Nat} (hb : Bnd g ws k (wipeD δ vs) δ1) (hw : ∀ w ∈ ws, w ∈ vs) (ht : EvT tt δ1 false) (r : LcRun g tt te vs δ ys out) : LcRun g tt te vs δ (k :: ys) out
theorem LcRun.len {tt : TT} (r : LcRun g tt te vs δ ys out) : out.length ≤ ys.length := by
  induction r with
  | nil => exact Nat.le_refl _
  | keep _ _ _ _ _ ih => simpa using ih
  | skip _ _ _ _ ih => exact Nat.le_succ_of_le ih
theorem et_yes : EvT tYes δ true := fun H0 Hb H σ g Q q => q Hb H (Gr.refl _ _) g
/-- a heap of the entry that knows one thing more: a frame -/
theorem Sg.frame {H0 Hb H : Hp} {σ : L2.St} {p : Addr} {o : HO} (g : Sg H0 Hb H σ δ) (h : H p = some o) (h0 : H0 p = none) (hn : ¬ Owns σ δ p) : Sg (upd H0 p o) Hb H σ δ := ⟨g.ex, fun b x z => by
    by_cases hb : b = p
    · subst hb
      rw [upd_same] at z
      cases z
      exact h
    · rw [upd_ne hb] at z
      exact g.fr b x z, g.len, g.sh, fun l ls z => by
    obtain ⟨p', ys, r1, r2, r3, r4, r5⟩ := g.ow l ls z
    exact ⟨p', ys, r1, r2, by rw [upd_ne (fun y => hn ⟨l, ls, z, by rw [← y]; exact r1⟩)]; exact r3, r4, r5⟩, g.ne⟩
theorem Sg.unframe {H0 Hb H : Hp} {σ : L2.St} {p : Addr} {o : HO} (g : Sg (upd H0 p o) Hb H σ δ) (h0 : H0 p = none) : Sg H0 Hb H σ δ := ⟨g.ex, (same_upd h0).trans g.fr, g.len, g.sh, fun l ls z => by
    obtain ⟨p', ys, r1, r2, r3, r4, r5⟩ := g.ow l ls z
    exact ⟨p', ys, r1, r2, (same_upd h0).free r3, r4, r5⟩, g.ne⟩
/-- none of these slots holds an owned list -/
def noOw (δ : List Sl) (vs : List Nat) : Bool := vs.all fun i => match δ[i]? with
  | some (.ow _) => false
  | _ => true
theorem noOw_ne (h : noOw δ vs = true) (hi : δ[i]? = some (.ow ks)) : i ∉ vs := fun hm => by
  have := List.all_eq_true.mp h i hm
  rw [hi] at this
  cases this
theorem wipeD_get : ∀ {vs : List Nat}, i ∉ vs → (wipeD δ vs)[i]? = δ[i]?
  | [], _ => rfl
  | v :: vs, h => by
    unfold wipeD
    rw [List.getElem?_set_ne (fun z => h (by simp [z])), wipeD_get (fun z => h (List.mem_cons_of_mem _ z))]
theorem en_lc {tt : TT} (hs : Src wi δ ys) (r : LcRun g tt te vs δ ys out) (hl : ys.length ≤ 100000) (hno : noOw δ vs = true) : EvN (tLc wi g tt te vs) δ out := fun H0 Hb H σ s Q q =>
  hs H0 Hb H σ s _ fun Hb1 H1 J a1 s1 wk D hD => by
    have hbD : Hb1 D = none := s1.hb hD
    have h0D : H0 D = none := s1.h0 hD
    have nD : ¬ Owns σ δ D := s1.notOwn hD
    refine ⟨fun i m H2 => m = ys.length - i ∧ i ≤ ys.length ∧ ∃ (Hb2 : Hp) (acc : List V) (o1 o2 : List Kd), Gr H0 Hb1 Hb2 ∧ Sg (upd H0 D (.lst acc)) Hb2 H2 σ δ ∧ Hb2 D = none ∧ AllK Hb2 acc o1 ∧ out = o1 ++ o2 ∧ o1.length ≤ i ∧ LcRun g tt te vs δ (ys.drop i) o2,
      ⟨ys.length, by simp, Nat.zero_le _, Hb1, [], [], out, Gr.refl _ _, (s1.drop hD).frame upd_same h0D nD, hbD, .nil, rfl, Nat.le_refl _, r⟩, ?_⟩
    rintro i m H2 ⟨rfl, hi, Hb2, acc, o1, o2, a2, s2, hb2, hacc, rfl, ho1, r2⟩
    have w2 := wk.up a2.1
    have hH2 : H2 D = some (.lst acc) := s2.fr D _ upd_same
    by_cases hlt : i < ys.length
    · refine .inr ⟨w2.goes i H2 hlt s2.ex, fun H' => ∃ (Hb2 : Hp) (acc : List V) (o1' o2' : List Kd), Gr H0 Hb1 Hb2 ∧ Sg (upd H0 D (.lst acc)) Hb2 H' σ δ ∧ Hb2 D = none ∧ AllK Hb2 acc o1' ∧ o1 ++ o2 = o1' ++ o2' ∧ o1'.length ≤ i + 1 ∧ LcRun g tt te vs δ (ys.drop (i + 1)) o2',
        fun H' ⟨Hb2, acc, o1', o2', z⟩ => ⟨ys.length - (i + 1), by omega, rfl, hlt, Hb2, acc, o1', o2', z⟩, fun x H' y => ?_⟩
      have hk : ys[i]? = some ys[i] := List.getElem?_eq_getElem hlt
      -- the item stands, its tuple known
      obtain ⟨Hb3, a3, s3, hb3, hx3⟩ : ∃ Hb3, Gr (upd H0 D (.lst acc)) Hb2 Hb3 ∧ Sg (upd H0 D (.lst acc)) Hb3 H' σ δ ∧ Hb3 D = none ∧ ys[i].p x Hb3 := by
        rcases w2.yields i H2 x H' ys[i] hk s2.ex y with ⟨h1, h2⟩ | ⟨T, xs, ls, K, h1, h2, h3, h4, h5⟩ | ⟨T, xs, ls, h1, h2, h3, h4, h5⟩
        · subst h1
          exact ⟨Hb2, Gr.refl _ _, s2, hb2, h2⟩
        · subst h3
          have hTD : D ≠ T := ne_of_none hH2 h2
          refine ⟨upd Hb2 T (.tup xs), s2.gr h2, s2.alloc h2, by rw [upd_ne hTD]; exact hb2, h5 _ _ ⟨T, xs, h1, SqT.of upd_same, h4.up (same_upd (s2.hb h2))⟩⟩
        · subst h3
          obtain ⟨Hb3, c1, c2, c3⟩ := s2.cap h2
          exact ⟨Hb3, c1, c2, c1.2 D (by rw [upd_same]; exact nt_lst) hb2, h5 _ _ ⟨T, xs, h1, c3, h4.up c1.1⟩⟩
      have hd : ys.drop i = ys[i] :: ys.drop (i + 1) := List.drop_eq_getElem_cons hlt
      rw [hd] at r2
      have ga : Gr H0 Hb1 Hb3 := a2.trans (a3.mono (same_upd h0D))
      have accLen : acc.length < sizeLine := Nat.lt_of_le_of_lt (m := 100000) (by rw [hacc.len]; omega) (by decide)
      -- the store behind the block
      have back : ∀ {Hb5 H5 : Hp} {σ2 : L2.St} {δ1 : List Sl} {ws : List Nat}, (∀ w ∈ ws, w ∈ vs) → (∀ i, i ∉ ws → δ1[i]? = (wipeD δ vs)[i]?) → (∀ i, i ∉ ws → σ2[i]? = (L2.wipe σ vs)[i]?) →
          Gr (upd H0 D (.lst acc)) Hb3 Hb5 → Sg (upd H0 D (.lst acc)) Hb5 H5 σ2 δ1 → Sg (upd H0 D (.lst acc)) Hb5 H5 σ δ := by
        intro Hb5 H5 σ2 δ1 ws hw e0 e1 a35 s6
        refine ⟨s6.ex, s6.fr, s.len, fun j l z => ?_, fun j l z => ?_, s.ne⟩
        · obtain ⟨v', q1, q2⟩ := s3.sh j l z
          exact ⟨v', q1, l.up a35.1 q2⟩
        · have nj : j ∉ vs := noOw_ne hno z
          have nw : j ∉ ws := fun y => nj (hw j y)
          have zz : δ1[j]? = some (.ow l) := by rw [e0 j nw, wipeD_get nj]; exact z
          obtain ⟨p', xs', q1, q2⟩ := s6.ow j l zz
          refine ⟨p', xs', ?_, q2⟩
          rw [e1 j nw, wipe_get, if_neg nj] at q1
          exact q1
      generalize hyi : ys[i] = yi at r2 hx3
      cases r2 with
      | @keep _ k' _ out' δ1 ws hb hw ht he r3 =>
        refine hb.2 _ Hb3 H' _ x (s3.wipe vs) hx3 _ fun σ2 s4 e1 e2 => ⟨wipe_eq hw e1 e2, ht _ Hb3 H' σ2 s4 _ fun Hb4 H4 a4 s5 => iteT (he _ Hb4 H4 σ2 s5 _ fun Hb5 H5 v a5 s6 hv => ?_)⟩
        have a35 := a4.trans a5
        have hb5 : Hb5 D = none := a35.2 D (by rw [upd_same]; exact nt_lst) hb3
        have hH5 : H5 D = some (.lst acc) := s6.fr D _ upd_same
        have s7 := back hw hb.1 e1 a35 s6
        have s8 : Sg (upd H0 D (.lst (acc ++ [v]))) Hb5 (upd H5 D (.lst (acc ++ [v]))) σ δ := by
          refine ⟨fun b o z => ?_, fun b o z => ?_, s7.len, s7.sh, fun j l z => ?_, s7.ne⟩
          · have hne : b ≠ D := fun y => by rw [y, hb5] at z; cases z
            rw [upd_ne hne]
            exact s7.ex b o z
          · by_cases hbD2 : b = D
            · rw [hbD2] at z ⊢
              rw [upd_same] at z ⊢
              exact z
            · rw [upd_ne hbD2] at z ⊢
              exact s7.fr b o (by rw [upd_ne hbD2]; exact z)
          · obtain ⟨p', xs', q1, q2, q3, q4, q5⟩ := s7.ow j l z
            have hne : p' ≠ D := fun y => by rw [y, upd_same] at q3; cases q3
            exact ⟨p', xs', q1, q2, by rw [upd_ne hne]; rw [upd_ne hne] at q3; exact q3, by rw [upd_ne hne]; exact q4, q5⟩
        exact ⟨acc, hH5, accLen, Hb5, acc ++ [v], o1 ++ [k'], out', ga.trans (a35.mono (same_upd h0D)), s8, hb5, ((hacc.up a3.1).up a35.1).app (.cons hv .nil), by rw [List.append_assoc]; rfl, by rw [List.length_append]; exact Nat.succ_le_succ ho1, r3⟩
      | @skip _ _ _ δ1 ws hb hw ht r3 =>
        refine hb.2 _ Hb3 H' _ x (s3.wipe vs) hx3 _ fun σ2 s4 e1 e2 => ⟨wipe_eq hw e1 e2, ht _ Hb3 H' σ2 s4 _ fun Hb4 H4 a4 s5 => iteF ?_⟩
        have hb5 : Hb4 D = none := a4.2 D (by rw [upd_same]; exact nt_lst) hb3
        exact ⟨Hb4, acc, o1, o2, ga.trans (a4.mono (same_upd h0D)), back hw hb.1 e1 a4 s5, hb5, (hacc.up a3.1).up a4.1, rfl, Nat.le_succ_of_le ho1, r3⟩
    · have e : i = ys.length := by omega
      subst e
      rw [List.drop_length] at r2
      cases r2
      refine .inl ⟨w2.stops H2 s2.ex, q Hb2 H2 D acc (a1.trans a2) (s2.unframe h0D) hb2 h0D hH2 (by rw [List.append_nil]; exact hacc) nD⟩

/-! ## loops -/
/-- the turns of a for loop -/
inductive ForRun (g : TG) (tb : TS) : List Kd → List Sl → List Sl → Prop where
  | nil {δ : List Sl} : ForRun g tb [] δ δ
  | cons {k : Kd} {ys : List Kd} {δ δ1 δ2 δ3 : List Sl} {ws : List Nat} (hb : Bnd g ws k δ δ1) (h : Does tb δ1 (.nx δ2)) (r : ForRun g tb ys δ2 δ3) : ForRun g tb (k :: ys) δ δ3
theorem ForRun.inv {tb : TS} (P : Nat → List Sl) : ∀ (ys : List Kd) (j : Nat), (∀ i k, ys[i]? = some k → ∃ ws δ1, Bnd g ws k (P (j + i)) δ1 ∧ Does tb δ1 (.nx (P (j + i + 1)))) → ForRun g tb ys (P j) (P (j + ys.length))
  | [], j, _ => .nil
  | k :: ys, j, h => by
    obtain ⟨ws, δ1, h1, h2⟩ := h 0 k rfl
    have e : j + (k :: ys).length = (j + 1) + ys.length := by rw [List.length_cons]; omega
    rw [e]
    refine .cons h1 h2 (ForRun.inv P ys (j + 1) fun i k' hk => ?_)
    obtain ⟨ws', δ1', h3, h4⟩ := h (i + 1) k' hk
    have e2 : j + (i + 1) = j + 1 + i := by omega
    rw [e2] at h3 h4
    exact ⟨ws', δ1', h3, h4⟩
theorem d_for {tb : TS} (hs : Src wi δ ys) (r : ForRun g tb ys δ δ1) : Does (tFor wi g tb) δ (.nx δ1) := fun H0 Hb H σ D s tk =>
  hs H0 Hb H σ s _ fun Hb1 H1 J a1 s1 wk => by
    refine ⟨fun i m σ2 H2 => m = ys.length - i ∧ i ≤ ys.length ∧ ∃ (Hb2 : Hp) (δ2 : List Sl), Gr H0 Hb1 Hb2 ∧ Sg H0 Hb2 H2 σ2 δ2 ∧ ForRun g tb (ys.drop i) δ2 δ1,
      ⟨ys.length, by simp, Nat.zero_le _, Hb1, δ, Gr.refl _ _, s1, r⟩, ?_⟩
    rintro i m σ2 H2 ⟨rfl, hi, Hb2, δ2, a2, s2, r2⟩
    have w2 := wk.up a2.1
    by_cases hlt : i < ys.length
    · refine .inr ⟨w2.goes i H2 hlt s2.ex, fun σ' H' => ∃ (Hb2 : Hp) (δ2 : List Sl), Gr H0 Hb1 Hb2 ∧ Sg H0 Hb2 H' σ' δ2 ∧ ForRun g tb (ys.drop (i + 1)) δ2 δ1,
        fun σ' H' z => ⟨ys.length - (i + 1), by omega, rfl, hlt, z⟩, fun x H' y => ?_⟩
      have hk : ys[i]? = some ys[i] := List.getElem?_eq_getElem hlt
      obtain ⟨Hb3, a3, s3, hx3⟩ : ∃ Hb3, Gr H0 Hb2 Hb3 ∧ Sg H0 Hb3 H' σ2 δ2 ∧ ys[i].p x Hb3 := by
        rcases w2.yields i H2 x H' ys[i] hk s2.ex y with ⟨h1, h2⟩ | ⟨T, xs, ls, K, h1, h2, h3, h4, h5⟩ | ⟨T, xs, ls, h1, h2, h3, h4, h5⟩
        · subst h1
          exact ⟨Hb2, Gr.refl _ _, s2, h2⟩
        · subst h3
          exact ⟨upd Hb2 T (.tup xs), s2.gr h2, s2.alloc h2, h5 _ _ ⟨T, xs, h1, SqT.of upd_same, h4.up (same_upd (s2.hb h2))⟩⟩
        · subst h3
          obtain ⟨Hb3, c1, c2, c3⟩ := s2.cap h2
          exact ⟨Hb3, c1, c2, h5 _ _ ⟨T, xs, h1, c3, h4.up c1.1⟩⟩
      have hd : ys.drop i = ys[i] :: ys.drop (i + 1) := List.drop_eq_getElem_cons hlt
      rw [hd] at r2
      generalize hyi : ys[i] = yi at r2 hx3
      cases r2 with
      | cons hb h r3 =>
        refine hb.2 H0 Hb3 H' σ2 x s3 hx3 _ fun σ3 s4 _ _ => h H0 Hb3 H' σ3 _ s4 fun Hb4 H4 σ4 a4 s5 => ?_
        exact ⟨Hb4, _, (a2.trans a3).trans a4, s5, r3⟩
    · have e : i = ys.length := by omega
      subst e
      rw [List.drop_length] at r2
      cases r2
      exact .inl ⟨w2.stops H2 s2.ex, tk Hb2 H2 σ2 (a1.trans a2) s2⟩
/-- a for loop over an owned list, which stays -/
theorem d_forO {tb : TS} (h : δ[i]? = some (.ow ys)) (r : ∀ p, ForRun g tb ys (δ.set i (.sh (kE (.ref p)))) (δ1.set i (.sh (kE (.ref p))))) (hl : i < δ1.length) : Does (tFor (iList K (tVar i)) g tb) δ (.nx (δ1.set i (.ow ys))) := fun H0 Hb H σ D s tk => by
  obtain ⟨p, xs, h1, h2, h3, h4, h5⟩ := s.ow i ys h
  have s1 : Sg H0 Hb H σ (δ.set i (.sh (kE (.ref p)))) := by
    have q := s.set (i := i) (v := .ref p) (k := kE (.ref p)) rfl
    rw [set_same h1] at q
    exact q
  have hn : ¬ Owns σ (δ.set i (.sh (kE (.ref p)))) p := by
    rintro ⟨j, ls, e1, e2⟩
    by_cases hj : i = j
    · subst hj
      have hh := (List.getElem?_eq_some_iff.mp e1).1
      rw [List.getElem?_set_self (by rw [List.length_set] at hh; exact hh)] at e1
      cases e1
    · rw [List.getElem?_set_ne hj] at e1
      exact hj (s.ne i j ys ls p h e1 h1 e2)
  -- the list framed while the loop runs
  have s2 := s1.frame h4 h3 hn
  refine ⟨.ref p, h1, p, rfl, ⟨xs, SqL.of h4⟩, ?_⟩
  have hlen := h5.len
  have wg : ∀ {H2 : Hp}, H2 p = some (.lst xs) → SqL K H2 p xs := fun z => SqL.of z
  refine ⟨fun i' m σ2 H2 => m = ys.length - i' ∧ i' ≤ ys.length ∧ ∃ (Hb2 : Hp) (δ2 : List Sl), Gr (upd H0 p (.lst xs)) Hb Hb2 ∧ Sg (upd H0 p (.lst xs)) Hb2 H2 σ2 δ2 ∧ ForRun g tb (ys.drop i') δ2 (δ1.set i (.sh (kE (.ref p)))),
    ⟨ys.length, by simp, Nat.zero_le _, Hb, _, Gr.refl _ _, s2, r p⟩, ?_⟩
  rintro i' m σ2 H2 ⟨rfl, hi, Hb2, δ2, a2, s3, r2⟩
  have hp2 : H2 p = some (.lst xs) := s3.fr p _ upd_same
  by_cases hlt : i' < ys.length
  · refine .inr ⟨(walk_list (K := K) (a := p) (xs := xs)).goes i' H2 (by rw [hlen]; exact hlt) (wg hp2), fun σ' H' => ∃ (Hb2 : Hp) (δ2 : List Sl), Gr (upd H0 p (.lst xs)) Hb Hb2 ∧ Sg (upd H0 p (.lst xs)) Hb2 H' σ' δ2 ∧ ForRun g tb (ys.drop (i' + 1)) δ2 (δ1.set i (.sh (kE (.ref p)))),
      fun σ' H' z => ⟨ys.length - (i' + 1), by omega, rfl, hlt, z⟩, fun x H' y => ?_⟩
    obtain ⟨e1, e2⟩ := (walk_list (K := K) (a := p) (xs := xs)).yields i' H2 x H' (by rw [hlen]; exact hlt) (wg hp2) y
    subst e1
    obtain ⟨k', e3, e4⟩ := (h5.up a2.1).get e2
    have hd : ys.drop i' = ys[i'] :: ys.drop (i' + 1) := List.drop_eq_getElem_cons hlt
    rw [hd] at r2
    have hk : ys[i']? = some ys[i'] := List.getElem?_eq_getElem hlt
    rw [hk] at e3
    cases e3
    generalize hyi : ys[i'] = yi at r2 e4
    cases r2 with
    | cons hb h r3 =>
      refine hb.2 _ Hb2 H' σ2 x s3 e4 _ fun σ3 s4 _ _ => h _ Hb2 H' σ3 _ s4 fun Hb4 H4 σ4 a4 s5 => ?_
      exact ⟨Hb4, _, a2.trans a4, s5, r3⟩
  · have e : i' = ys.length := by omega
    subst e
    rw [List.drop_length] at r2
    generalize hδ : δ1.set i (.sh (kE (.ref p))) = δ3 at r2
    cases r2
    subst hδ
    refine .inl ⟨by rw [← hlen]; exact (walk_list (K := K) (a := p) (xs := xs)).stops H2 (wg hp2), ?_⟩
    have hb2 : Hb2 p = none := a2.2 p (by rw [upd_same]; exact nt_lst) h2
    have s4 := s3.unframe h3
    obtain ⟨v, q1, q2⟩ := s4.sh i (kE (.ref p)) (List.getElem?_set_self hl)
    have q2' : v = .ref p := q2
    subst q2'
    have s5 := s4.setO (i := i) hb2 h3 hp2 (h5.up a2.1) fun l ls z1 z2 => by
      exfalso
      have z3 := (s3.ow l ls z1)
      obtain ⟨p', xs', w1, w2, w3, w4⟩ := z3
      rw [z2] at w1
      cases w1
      rw [upd_same] at w3
      cases w3
    rw [set_same q1, List.set_set] at s5
    exact tk Hb2 H2 σ2 (a2.mono (same_upd h3)) s5
/-- the turns of a while loop -/
inductive WhRun (c : TT) (tb : TS) : Nat → List Sl → List Sl → Prop where
  | stop {δ : List Sl} (hc : EvT c δ false) : WhRun c tb 0 δ δ
  | turn {n : Nat} {δ δ1 δ2 : List Sl} (hc : EvT c δ true) (h : Does tb δ (.nx δ1)) (r : WhRun c tb n δ1 δ2) : WhRun c tb (n + 1) δ δ2
theorem d_while {c : TT} {tb : TS} {n : Nat} (r : WhRun c tb n δ δ1) : Does (tWhile c tb) δ (.nx δ1) := fun H0 Hb H σ D s tk => by
  refine ⟨fun m σ2 H2 => ∃ (Hb2 : Hp) (δ2 : List Sl), Gr H0 Hb Hb2 ∧ Sg H0 Hb2 H2 σ2 δ2 ∧ WhRun c tb m δ2 δ1, ⟨n, Hb, δ, Gr.refl _ _, s, r⟩, ?_⟩
  rintro m σ2 H2 ⟨Hb2, δ2, a2, s2, r2⟩
  cases r2 with
  | stop hc => exact hc H0 Hb2 H2 σ2 s2 _ fun Hb3 H3 a3 s3 => iteF (tk Hb3 H3 σ2 (a2.trans a3) s3)
  | @turn n _ δ4 _ hc h r3 =>
    refine hc H0 Hb2 H2 σ2 s2 _ fun Hb3 H3 a3 s3 => iteT ⟨fun σ' H' => ∃ (Hb4 : Hp), Gr H0 Hb Hb4 ∧ Sg H0 Hb4 H' σ' δ4, fun σ' H' ⟨Hb4, z1, z2⟩ => ⟨n, Nat.lt_succ_self n, Hb4, δ4, z1, z2, r3⟩, ?_⟩
    exact h H0 Hb3 H3 σ2 _ s3 fun Hb4 H4 σ4 a4 s4 => ⟨Hb4, (a2.trans a3).trans a4, s4⟩
end
end Dx

namespace Dx
open PySem PySem.Spec PyProof.Rows L2
/-! ## rules that the layer lacks: sum and max of a tuple, enumerate of a tuple, in of a tuple of data, products of great ints -/
section
variable {prog : Program} {w : World} {A : Around} {E : Value → Shared → Prop} {s : Shared} {l : Addr} {its : List Value} {ns : List Int} {Q : Value → Shared → Prop}
theorem sum_rawT (hh : A.handled = none) (hl : s.heap.IsTuple l its.toArray) (hi : IntsAre its ns)
    (h : ∀ h' tk t', (∀ b o, s.heap.get? b = some o → h'.get? b = some o) → Q (.int ns.sum t') { s with heap := h', toks := tk }) : wpAny (model prog w) A (call (.builtin "sum") [.ref l]) Q E s := by
  obtain ⟨xs, e⟩ := hi.allInts.items
  have hn : numsOf (intItems xs).toList = ns := by rw [← e]; exact hi.numsOf
  rw [nums_intItems] at hn
  rw [e] at hl
  refine PySem.W.ktm_sumG hh hl fun h' tk t' hk => ?_
  have := h h' tk t' hk
  rw [preSum_eq, List.take_of_length_le (by simp), hn]; exact this
theorem max_intTup {xs : Array (Int × Tok)} (hh : A.handled = none) (hl : s.heap.IsTuple l (intItems xs)) (hne : 0 < xs.size)
    (h : ∀ v h' tk, (intItems xs)[argBest (fun i j => decide (numAt xs i > numAt xs j)) (xs.size - 1)]? = some v → (∀ b o, s.heap.get? b = some o → h'.get? b = some o) → Q v { s with heap := h', toks := tk }) :
    wpAny (model prog w) A (call (.builtin "max") [.ref l]) Q E s := by
  obtain ⟨o, ho, hc, n, hd⟩ := id hl
  have hlt : l < s.heap.objs.size := Heap.lt_size ho
  have hne' : l ≠ s.heap.objs.size := Nat.ne_of_lt hlt
  refine call_max_walk (wpAny_pyIter_tuple hl ?_)
  refine ⟨s.heap.objs.size, _, _, _, _, _, _, rfl, Walks.tuple (A := A.in1) hh _ l hne' (intItems xs), ⟨⟨_, Heap.get?_push_size _ rfl, rfl, rfl⟩, hl.at fun o e => Heap.get?_push_of_some _ e⟩, fun b hb => ?_, by simpa [intItems] using hne, CmpOf.ints_gt (numAt xs) (fun _ _ => intItems_at), fun v h' tk hP hk => ?_⟩
  · rcases List.mem_cons.mp hb with rfl | hb
    · exact Heap.lt_size (Heap.get?_push_size _ rfl)
    · obtain rfl := List.mem_singleton.mp hb
      exact Heap.lt_size (Heap.get?_push_of_some _ ho)
  · refine h v h' tk (by simpa [intItems] using hP) fun b o e => hk b o (fun hm => ?_) (Heap.get?_push_of_some _ e)
    obtain rfl := List.mem_singleton.mp hm
    exact absurd (Heap.lt_size e) (Nat.lt_irrefl _)
theorem max_rawT (hh : A.handled = none) (hl : s.heap.IsTuple l its.toArray) (hi : IntsAre its ns) (hne : 0 < ns.length)
    (h : ∀ h' tk M t', (∀ b o, s.heap.get? b = some o → h'.get? b = some o) → M ∈ ns → (∀ a, a ∈ ns → a ≤ M) → Q (.int M t') { s with heap := h', toks := tk }) : wpAny (model prog w) A (call (.builtin "max") [.ref l]) Q E s := by
  obtain ⟨xs, e⟩ := hi.allInts.items
  have hn : numsOf (intItems xs).toList = ns := by rw [← e]; exact hi.numsOf
  rw [nums_intItems] at hn
  subst hn
  rw [e] at hl
  have hsz : 0 < xs.size := by simpa using hne
  refine max_intTup hh hl hsz fun v h' tk hv hk => ?_
  obtain ⟨t, rfl⟩ := intItems_at hv
  obtain ⟨h1, h2⟩ := argBest_gt (numAt xs) (xs.size - 1)
  refine h h' tk _ t hk ?_ fun a ha => ?_
  · rw [numAt_eq]; exact PySem.getD_mem (by rw [List.length_map, Array.length_toList]; omega)
  · obtain ⟨j, hj, rfl⟩ := mem_getD ha
    rw [List.length_map, Array.length_toList] at hj
    rw [← numAt_eq]; exact h2 j (by omega)
end
section
variable {X : Cx}
def rSumT (K : PySem.W.Frag) : List V → Hp → VK → Prop := fun vs H Q => ∃ (a : Addr) (ns : List Int), vs = [V.ref a] ∧ SqT K H a (ns.map V.int) ∧ Q (.int ns.sum) H
def rMaxT (K : PySem.W.Frag) : List V → Hp → VK → Prop := fun vs H Q => ∃ (a : Addr) (ns : List Int), vs = [V.ref a] ∧ SqT K H a (ns.map V.int) ∧ 0 < ns.length ∧ ∀ m, m ∈ ns → (∀ y, y ∈ ns → y ≤ m) → Q (.int m) H
theorem isTuple_of {h : Heap} {a : Addr} {vs : Array Value} (h1 : IsTup h a vs) : h.IsTuple a vs := h1
theorem cr_sumT (hc : X.calm = true) : CallR X (.builtin "sum") (rSumT X.K) := by
  intro pins s σ H vs us Q I r h
  obtain ⟨a, ns, rfl, hs, q⟩ := h
  obtain ⟨its, rv, hl, _⟩ := I.tuple hs
  rw [Vals.ref1 r]
  exact sum_rawT (I.ok.hd hc) (isTuple_of hl) rv.ints fun h' tk t' hk => ⟨.int _, H, I.kept hk, ⟨_, rfl⟩, q⟩
theorem cr_maxT (hc : X.calm = true) : CallR X (.builtin "max") (rMaxT X.K) := by
  intro pins s σ H vs us Q I r h
  obtain ⟨a, ns, rfl, hs, hne, q⟩ := h
  obtain ⟨its, rv, hl, _⟩ := I.tuple hs
  rw [Vals.ref1 r]
  exact max_rawT (I.ok.hd hc) (isTuple_of hl) rv.ints hne fun h' tk m t' hk h1 h2 => ⟨.int _, H, I.kept hk, ⟨_, rfl⟩, q m h1 h2⟩
/-- x in t, t a tuple of data -/
def rInDT (K : PySem.W.Frag) : R2 := fun x y H Q => ∃ d ds, Dp K H x d ∧ Dp K H y (.tuple ds) ∧ SeqAt.shaped d = true ∧ SeqAt.shaped (.tuple ds) = true ∧ Q (.bl (ds.any fun z => PyData.eqv z d)) H
def rNotInDT (K : PySem.W.Frag) : R2 := fun x y H Q => ∃ d ds, Dp K H x d ∧ Dp K H y (.tuple ds) ∧ SeqAt.shaped d = true ∧ SeqAt.shaped (.tuple ds) = true ∧ Q (.bl (!ds.any fun z => PyData.eqv z d)) H
theorem op_inDT (hu : X.A.units + 65 < cLine) : OpR X (compareOp .In) (rInDT X.K) := by
  intro pins s σ H x y v u Q I rx ry h
  obtain ⟨d, ds, hd, he, sd, se, q⟩ := h
  obtain ⟨as, r1⟩ := Dp.reads I d x v hd rx
  obtain ⟨bs, r2⟩ := Dp.reads I (.tuple ds) y u he ry
  exact SeqAt.in_tuple_reads r2 r1 (SeqAt.canLay_of_shaped se) (SeqAt.canLay_of_shaped sd) (room_in_shaped sd hu) ⟨.bl _, H, I, rfl, q⟩
theorem op_notInDT (hu : X.A.units + 65 < cLine) : OpR X (compareOp .NotIn) (rNotInDT X.K) := by
  intro pins s σ H x y v u Q I rx ry h
  obtain ⟨d, ds, hd, he, sd, se, q⟩ := h
  obtain ⟨as, r1⟩ := Dp.reads I d x v hd rx
  obtain ⟨bs, r2⟩ := Dp.reads I (.tuple ds) y u he ry
  exact SeqAt.notIn_tuple_reads r2 r1 (SeqAt.canLay_of_shaped se) (SeqAt.canLay_of_shaped sd) (room_in_shaped sd hu) ⟨.bl _, H, I, rfl, q⟩
/-- * of two factors of together less than a hundred million bits -/
def CMulB (i j : Int) : Prop := Builtin.Int.intBits i + Builtin.Int.intBits j ≤ 100000000
theorem CMulB.ok {i j : Int} (h : CMulB i j) : IntMulOk i j := by
  have h3 : Builtin.Int.intBits i + Builtin.Int.intBits j ≤ 100000000 := h
  have e : bitsLine = 134217728 := by decide
  unfold IntMulOk
  intro z
  rw [Bool.and_eq_true] at z
  have z2 := z.2
  unfold Builtin.Int.intTooBig at z2
  have z3 := of_decide_eq_true z2
  rw [e] at z3
  omega
theorem op_mulB : OpR X (binaryOp .Mult) (rI CMulB fun i j => .int (i * j)) := opI fun _ _ _ _ _ _ _ hc q => mul_int q hc.ok
end

/-! ### enumerate of a tuple -/
set_option maxHeartbeats 2000000 in
theorem meets_enumerate_newT {v : Value} {o : Obj} {H : Heap → Prop} (B : Begins v o H) :
    Meets (Builtin.«enumerate.__new__» ⟨[.type "enumerate", v], []⟩) (fun _ R s => H s.heap ∧
      R (.ok (.ret (.ref (s.heap.push o).objs.size))) { s with heap := (s.heap.push o).push { cls := .type "enumerate", data := .fields #[.none, .bool false, .ref s.heap.objs.size, rawInt 0, .none, .none] } }) :=
  .of_wp fun prog w A R s h => by
    obtain ⟨hp, g, d, tk, os⟩ := s; obtain ⟨h1, h⟩ := h
    have hsub := sub_enumerate
    have q1 : ∀ {A' : Around} {E : Value → Shared → Prop} {Q : Value → Shared → Prop}, Q (.ref hp.objs.size) ⟨hp.push o, g, d, tk, os⟩ → wpAny (model prog w) A' (pyIter v) Q E ⟨hp, g, d, tk, os⟩ :=
      fun q => B.iter prog w _ _ ⟨hp, g, d, tk, os⟩ _ h1 q
    wp_walk using q1
    refine wpAny_stack_any fun st => wpAny_pure ?_
    split
    · rename_i c _ _ _ _ _
      cases (c == Value.type "enumerate")
      · wp_walk using q1
        exact ⟨_, rfl, h⟩
      · wp_walk using q1
        exact ⟨_, rfl, h⟩
    · wp_walk using q1
      exact ⟨_, rfl, h⟩
theorem enum_beginsT {prog : Program} {w : World} {A : Around} {E : Value → Shared → Prop} {s : Shared} {v : Value} {o : Obj} {H : Heap → Prop} {Q : Value → Shared → Prop} (B : Begins v o H) (h1 : H s.heap)
    (h : ∀ h', IsEnum h' (s.heap.objs.size + 1) s.heap.objs.size 0 .none → h'.get? s.heap.objs.size = some o → h'.objs.size = s.heap.objs.size + 2 →
      (∀ b o, s.heap.get? b = some o → h'.get? b = some o) → Q (.ref (s.heap.objs.size + 1)) { s with heap := h' }) :
    wpAny (model prog w) A (call (.type "enumerate") [v]) Q E s := by
  refine callType_new F.called_enumerate (by decide) (F.typeCall_enumerate_1 _) (F.newCall_enumerate_1 _) (fun obj => F.args_object_init_2 obj _) F.entry_enumerate_new
    (meets_enumerate_newT B) ⟨h1, ?_⟩
  have hz : (s.heap.push o).objs.size = s.heap.objs.size + 1 := Heap.size_push ..
  show _ ∧ _
  rw [hz]
  have he : IsEnum ((s.heap.push o).push { cls := .type "enumerate", data := .fields #[.none, .bool false, .ref s.heap.objs.size, rawInt 0, .none, .none] }) (s.heap.objs.size + 1) s.heap.objs.size 0 .none := by
    have := Heap.get?_push_size (s.heap.push o) (o := { cls := .type "enumerate", data := .fields #[.none, .bool false, .ref s.heap.objs.size, rawInt 0, .none, .none] }) rfl
    rw [hz] at this; exact this
  refine ⟨⟨_, he, rfl⟩, h _ he (Heap.get?_push_of_some _ (Heap.get?_push_size _ B.free)) (by rw [Heap.size_push, hz]) fun b o x => Heap.get?_push_of_some _ (Heap.get?_push_of_some _ x)⟩
theorem enum_endT {prog : Program} {w : World} {A : Around} {E : Value → Shared → Prop} {s : Shared} {e it l : Addr} {i : Nat} {items : Array Value} {old : Value} {Q : Option Value → Shared → Prop} (hh : A.handled = none)
    (he : IsEnum s.heap e it i old) (hit : s.heap.IsTupleIter it l i) (hl : s.heap.IsTuple l items) (hx : items[i]? = none)
    (hQ : ∀ h', Heap.ExtBut it s.heap h' → Q none { s with heap := h' }) : wpAny (model prog w) A (pyNext (.ref e)) Q E s := by
  have hT : s.TypeIs (.ref e) "enumerate" := ⟨_, he, rfl⟩
  unfold pyNext
  refine wpAny_bind (wpAny_attempt (wpAny_callSpecial?_slot (name := Str.ofString "__next__") hT F.slot_enumerate_next
    (wpAny_call_entry F.slot_enumerate_next hT F.entry_enumerate_next ?_ (F.args_enumerate_next_1 _))))
  show wpAny _ _ (field (.ref e) 2 >>= _) _ _ _
  refine wpAny_bind (wpAny_field he rfl (x := .ref it) rfl ?_)
  refine wpAny_bind (wpAny_nextOf_tuple_end hh hit hl hx fun h' x he' hx' => ?_)
  obtain ⟨o, ho, hc⟩ := hx'
  refine wpAny_bind (wpAny_isInstance (T := "StopIteration") (b := true) ⟨o, ho, hc⟩ isSubtype_stop ?_)
  exact wpAny_pure (hQ _ he')
/-- the tuple at a, its items in new pairs -/
def Itet (K : PySem.W.Frag) (a : Addr) : It :=
  ⟨fun i H => ∃ (xs : List V) (x : V), SqT K H a xs ∧ xs[i]? = some x, fun i H v H' => ∃ T x, v = .ref T ∧ H T = none ∧ H' = upd H T (.tup [.int (i : Nat), x]) ∧ ∀ xs, SqT K H a xs → xs[i]? = some x, fun i H => ∃ xs : List V, SqT K H a xs ∧ xs.length ≤ i⟩
theorem turn_enumT {P : Program} {w : World} {K : PySem.W.Frag} {elts : List Expr} {kk : Nat} {tpos : Pos} (a e it : Addr) (hai : a ≠ it) (hea : e ≠ a) :
    Turn P w K (.Tuple elts kk tpos) (Itet K a) [e, it] e (fun i h => (∃ old, IsEnum h e it ((i : Nat) : Int) old) ∧ h.IsTupleIter it a i ∧ e ≠ it) where
  mem := by simp
  obj := fun i h st b hb => by
    obtain ⟨⟨old, he⟩, ⟨o, ho, hc, hd⟩, _⟩ := st
    have e' : b = e ∨ b = it := by simpa using hb
    rcases e' with z | z
    · rw [z]; exact ⟨_, he, fun v q => nomatch q⟩
    · rw [z]; exact ⟨o, ho, fun v q => by rw [hd] at q; cases q⟩
  keep := fun i h h' st k => let ⟨⟨old, he⟩, hi, hne⟩ := st; ⟨⟨old, k e (by simp) _ he⟩, hi.at fun o q => k it (by simp) o q, hne⟩
  item := by
    intro X hP hw hK hc i pins s σ H E I hf st hg
    subst hP hw hK
    obtain ⟨⟨old, he⟩, hit, hne⟩ := st
    obtain ⟨xs, x, hq, hx⟩ := hg
    obtain ⟨its, rv, p, hz⟩ := I.tuple hq
    obtain ⟨u, hu, ru⟩ := rv.get hx
    have hel : e < s.heap.objs.size := Heap.lt_size he
    have hil : it < s.heap.objs.size := by obtain ⟨_, q, _⟩ := hit; exact Heap.lt_size q
    have hlt : i < its.toArray.size := by
      have := (List.getElem?_eq_some_iff.mp hu).1
      simpa using this
    have D := Draws.tuple (prog := X.prog) (w := X.w) (A := X.A.in1) (I.ok.hd hc) it a hai its.toArray
    refine wpAny_pyNext_enum_itemD D he ⟨hit, isTuple_of p⟩ hlt hne (by simp; exact ⟨hne, hea⟩) fun x' h' tk hP ho hst hT hsz hk => ?_
    have hxu : x' = u := by
      have h1 : its.toArray[i]? = some x' := hP
      have h2 : its.toArray[i]? = some u := by simpa using hu
      rw [h1] at h2
      exact Option.some.inj h2
    subst hxu
    refine ⟨_, rfl, wpAny_letOwnedTupleGo_enum (s := { s with heap := h', toks := tk + 1 }) ho fun h'' he' sb => ?_⟩
    have hT2 : h''.get? s.heap.objs.size = some { cls := .type "tuple", data := .seq #[.int i tk, x'] } := (sb.2 _ (Nat.ne_of_gt hel)).trans hT
    have new : ObjOk X.prog X.w (upd H s.heap.objs.size (.tup [.int (i : Nat), x])) h'' s.heap.objs.size (.tup [.int (i : Nat), x]) :=
      ⟨by show 2 ≤ sizeLine; decide, [.int i tk, x'], .cons ⟨_, rfl⟩ (.cons ru .nil), ⟨_, hT2, rfl, _, rfl⟩⟩
    have I1 : Inv X pins σ (upd H s.heap.objs.size (.tup [.int (i : Nat), x])) { s with heap := h'', toks := tk + 1 } :=
      I.turnedNew (ch := [e, it]) (fun b ob hb q => (sb.2 b (fun z => hb (by simp [z]))).trans (hk b ob (fun z => hb (by simp [z])) (fun z => hb (by simp [z])) q)) hf (Nat.le_refl _) new
    refine ⟨.ref s.heap.objs.size, _, I1, rfl, ⟨_, x, rfl, I.hok.fresh (Nat.le_refl _), rfl, fun ys hy => by rw [I.tuple_inj hy hq]; exact hx⟩, ⟨⟨x', ?_⟩, hst.1.at fun o q => (sb.2 it (Ne.symm hne)).trans q, hne⟩, fun b hb => ?_⟩
    · have e1 : ((i + 1 : Nat) : Int) = (i : Int) + 1 := by omega
      rw [e1]; exact he'
    · have hb' : b < s.heap.objs.size := by
        have e' : b = e ∨ b = it := by simpa using hb
        rcases e' with z | z
        · rw [z]; exact hel
        · rw [z]; exact hil
      rw [upd_ne (Nat.ne_of_lt hb')]
      exact (hf b hb).1
  done := by
    intro X hP hw hK hc i pins s σ H E I hf st hg
    subst hP hw hK
    obtain ⟨⟨old, he⟩, hit, hne⟩ := st
    obtain ⟨xs, hq, hx⟩ := hg
    obtain ⟨its, rv, p, hz⟩ := I.tuple hq
    obtain ⟨f0, f1, f2, f3, f4, f5⟩ := hf it (by simp)
    have hl := rv.length
    have hx2 : its.toArray[i]? = none := by
      apply Array.getElem?_eq_none
      simp only [List.size_toArray]
      omega
    exact enum_endT (I.ok.hd hc) he hit (isTuple_of p) hx2 fun h' eb => ⟨rfl, I.turned (t' := s.toks) (fun b o hb q => eb b o hb q) f0 f1 f3 f4 f5⟩
  self := fun A i s Q E st h => let ⟨⟨_, he⟩, _⟩ := st; wpAny_pyIter_enum he h
def iEnumT (K : PySem.W.Frag) (ta : TA) : TI := fun σ H R => ta σ H fun vs H1 => ∃ a xs, vs = [.ref a] ∧ SqT K H1 a xs ∧ R (Itet K a) H1
theorem pi_enumT {X : Cx} {e : Expr} {ta : TA} {p pos tpos : Pos} {elts : List Expr} {kk : Nat} (hg : Gl X "enumerate") (hm : X.mg "enumerate" = none) (ha : PA X [e] ta) (hs : starEach [e] X.env = [(false, eval e X.env)] := by rfl) :
    PI X (.Tuple elts kk tpos) (.Call (.Name "enumerate" p) [e] [] pos) (iEnumT X.K ta) := by
  refine ⟨fun pins s σ H R I h => ?_⟩
  refine Call_ (ld_blt I hg hm boot_enumerate (PyProof.Rows.callWith_type1 (thn (ha.run pos pins s σ H _ I h) fun us s1 ⟨vs, H1, I1, r1, q1⟩ => ?_) hs rfl))
  obtain ⟨a, xs, ex, hq, q⟩ := q1
  subst ex
  cases r1 with
  | cons r rr =>
    cases rr
    cases r
    obtain ⟨its, rv, p', hz⟩ := I1.tuple hq
    have hal : a < s1.heap.objs.size := by obtain ⟨o, ho, _⟩ := p'; exact Heap.lt_size ho
    refine enum_beginsT (begins_tuple a its.toArray) (isTuple_of p') fun h' he hit hsz hk => wpAny_pyIter_enum he ?_
    have I2 : Inv X pins σ H1 { s1 with heap := h' } := I1.kept (t' := s1.toks) hk
    refine ⟨s1.heap.objs.size + 1, [s1.heap.objs.size + 1, s1.heap.objs.size], _, _, H1, rfl, I2, turn_enumT a (s1.heap.objs.size + 1) s1.heap.objs.size (Nat.ne_of_lt hal) (Nat.ne_of_gt (Nat.lt_succ_of_lt hal)), ⟨⟨.none, he⟩, ⟨_, hit, rfl, rfl⟩, Nat.succ_ne_self _⟩, fun b hb => ?_, q⟩
    have e' : b = s1.heap.objs.size + 1 ∨ b = s1.heap.objs.size := by simpa using hb
    have hle : s1.heap.objs.size ≤ b := by
      rcases e' with z | z
      · rw [z]; exact Nat.le_add_right _ _
      · rw [z]; exact Nat.le_refl _
    exact I1.fpOk hle (I1.hok.fresh hle)
end Dx

namespace Dx
open PySem PySem.Spec PyProof.Rows L2
/-! ## operators, by kinds -/
section
variable {K : PySem.W.Frag} {k k1 k2 k3 : Kd} {ks ls : List Kd} {x y : V}
theorem op_I0 {g : Int → Int → V} {i j : Int} : Op (rI0 g) (kI i) (kI j) (kE (g i j)) := fun Hb H x y Q e (h1 : x = .int i) (h2 : y = .int j) q => ⟨i, j, h1, h2, q _ rfl⟩
theorem op_I {C : Int → Int → Prop} {g : Int → Int → V} {i j : Int} (c : C i j) : Op (rI C g) (kI i) (kI j) (kE (g i j)) := fun Hb H x y Q e (h1 : x = .int i) (h2 : y = .int j) q => ⟨i, j, h1, h2, c, q _ rfl⟩
theorem op_eqk {d e : PyData} (h1 : IsD K k1 d) (h2 : IsD K k2 e) (s1 : SeqAt.shaped d = true) (s2 : SeqAt.shaped e = true) : Op (rEqD K) k1 k2 (kB (PyData.eqv d e)) := fun Hb H x y Q ex p1 p2 q =>
  ⟨d, e, h1 _ _ (k1.up ex p1), h2 _ _ (k2.up ex p2), s1, s2, q _ rfl⟩
theorem op_nek {d e : PyData} (h1 : IsD K k1 d) (h2 : IsD K k2 e) (s1 : SeqAt.shaped d = true) (s2 : SeqAt.shaped e = true) : Op (rNeD K) k1 k2 (kB (!PyData.eqv d e)) := fun Hb H x y Q ex p1 p2 q =>
  ⟨d, e, h1 _ _ (k1.up ex p1), h2 _ _ (k2.up ex p2), s1, s2, q _ rfl⟩
theorem op_eqE (h : scal x y = true) : Op rEq (kE x) (kE y) (kB (decide (x = y))) := fun Hb H a b Q e (h1 : a = x) (h2 : b = y) q => by
  subst h1 h2
  exact ⟨h, q _ rfl⟩
theorem op_neE (h : scal x y = true) : Op rNe (kE x) (kE y) (kB (!decide (x = y))) := fun Hb H a b Q e (h1 : a = x) (h2 : b = y) q => by
  subst h1 h2
  exact ⟨h, q _ rfl⟩
/-- x is None -/
theorem op_isNk {b : Bool} (h : ∀ v H, k.p v H → decide (v = .non) = b) : Op (fun x y H Q => y = .non ∧ Q (.bl (decide (x = .non))) H) k kN (kB b) := fun Hb H a c Q e h1 (h2 : c = .non) q => ⟨h2, by rw [h a Hb h1]; exact q _ rfl⟩
theorem op_notNk {b : Bool} (h : ∀ v H, k.p v H → decide (v = .non) = b) : Op (fun x y H Q => y = .non ∧ Q (.bl (!decide (x = .non))) H) k kN (kB (!b)) := fun Hb H a c Q e h1 (h2 : c = .non) q => ⟨h2, by rw [h a Hb h1]; exact q _ rfl⟩
theorem at_kd {vs : List V} {H : Hp} {i : Int} (h : AllK H vs ks) (e : (ixN ks.length i).bind (fun j => ks[j]?) = some k) : ∃ v, atI vs i = some v ∧ k.p v H := by
  unfold atI
  rw [h.len]
  cases hj : ixN ks.length i with
  | none => rw [hj] at e; cases e
  | some j =>
    rw [hj] at e
    obtain ⟨v, h1, h2⟩ := h.get' (show ks[j]? = some k from e)
    exact ⟨v, h1, h2⟩
theorem op_ixT {i : Int} (e : (ixN ks.length i).bind (fun j => ks[j]?) = some k) : Op (rIxT K) (kT K ks) (kI i) k := fun Hb H x y Q ex ⟨a, xs, e1, e2, e3⟩ (h2 : y = .int i) q => by
  obtain ⟨v, h3, h4⟩ := at_kd e3 e
  exact ⟨a, xs, i, v, e1, h2, Same.sqT ex e2, h3, q v h4⟩
theorem op_ixS {i : Int} (e : (ixN ks.length i).bind (fun j => ks[j]?) = some k) : Op (rIxL K) (kS K ks) (kI i) k := fun Hb H x y Q ex ⟨a, xs, e1, e2, e3⟩ (h2 : y = .int i) q => by
  obtain ⟨v, h3, h4⟩ := at_kd e3 e
  exact ⟨a, xs, i, v, e1, h2, ex.seq e2, h3, q v h4⟩
theorem op_ixL {i : Int} (e : (ixN ks.length i).bind (fun j => ks[j]?) = some k) : Op (rIxL K) (kL ks) (kI i) k := fun Hb H x y Q ex h1 h2 q => op_ixS (K := K) e Hb H x y Q ex (kL_le_kS x Hb h1) h2 q
theorem allK_kE {H : Hp} : ∀ {vs xs : List V}, AllK H vs (xs.map kE) → vs = xs
  | [], [], _ => rfl
  | [], _ :: _, h => by cases h
  | _ :: _, [], h => by cases h
  | v :: vs, x :: xs, .cons h t => by
    have h1 : v = x := h
    rw [h1, allK_kE t]
theorem allK_of_kE {H : Hp} : ∀ (xs : List V), AllK H xs (xs.map kE)
  | [] => .nil
  | x :: xs => .cons rfl (allK_of_kE xs)
/-- x in t, all flat -/
theorem op_inT {neg : Bool} {xs : List V} (hx : flatV x = true) (hf : xs.all flatV = true) : Op (rIn K neg) (kE x) (kT K (xs.map kE)) (kB (if neg then !inV x xs else inV x xs)) := fun Hb H a b Q ex (h1 : a = x) ⟨p, vs, e1, e2, e3⟩ q => by
  subst h1
  have := allK_kE e3
  subst this
  exact ⟨p, vs, e1, .inr (Same.sqT ex e2), hx, hf, q _ rfl⟩
theorem op_inS {neg : Bool} {xs : List V} (hx : flatV x = true) (hf : xs.all flatV = true) : Op (rIn K neg) (kE x) (kS K (xs.map kE)) (kB (if neg then !inV x xs else inV x xs)) := fun Hb H a b Q ex (h1 : a = x) ⟨p, vs, e1, e2, e3⟩ q => by
  subst h1
  have := allK_kE e3
  subst this
  exact ⟨p, vs, e1, .inl (ex.seq e2), hx, hf, q _ rfl⟩
theorem op_inL {neg : Bool} {xs : List V} (hx : flatV x = true) (hf : xs.all flatV = true) : Op (rIn K neg) (kE x) (kL (xs.map kE)) (kB (if neg then !inV x xs else inV x xs)) := fun Hb H a b Q ex h1 h2 q => op_inS (K := K) hx hf Hb H a b Q ex h1 (kL_le_kS b Hb h2) q
/-- x in xs, data -/
theorem op_inDk {d : PyData} {ds : List PyData} (h1 : IsD K k1 d) (h2 : IsD K k2 (.list ds)) (s1 : SeqAt.shaped d = true) (s2 : SeqAt.shaped (.list ds) = true) : Op (rInD K) k1 k2 (kB (ds.any fun z => PyData.eqv z d)) := fun Hb H x y Q ex p1 p2 q =>
  ⟨d, ds, h1 _ _ (k1.up ex p1), h2 _ _ (k2.up ex p2), s1, s2, q _ rfl⟩
theorem op_notInDk {d : PyData} {ds : List PyData} (h1 : IsD K k1 d) (h2 : IsD K k2 (.list ds)) (s1 : SeqAt.shaped d = true) (s2 : SeqAt.shaped (.list ds) = true) : Op (rNotInD K) k1 k2 (kB (!ds.any fun z => PyData.eqv z d)) := fun Hb H x y Q ex p1 p2 q =>
  ⟨d, ds, h1 _ _ (k1.up ex p1), h2 _ _ (k2.up ex p2), s1, s2, q _ rfl⟩
theorem op_notInDTk {d : PyData} {ds : List PyData} (h1 : IsD K k1 d) (h2 : IsD K k2 (.tuple ds)) (s1 : SeqAt.shaped d = true) (s2 : SeqAt.shaped (.tuple ds) = true) : Op (rNotInDT K) k1 k2 (kB (!ds.any fun z => PyData.eqv z d)) := fun Hb H x y Q ex p1 p2 q =>
  ⟨d, ds, h1 _ _ (k1.up ex p1), h2 _ _ (k2.up ex p2), s1, s2, q _ rfl⟩
/-- xs + ys -/
theorem op_catk (hl : ks.length + ls.length ≤ 1000) : OpN rCat (kL ks) (kL ls) (ks ++ ls) := fun Hb H x y Q ex ⟨a, xs, e1, e2, e3⟩ ⟨b, ys, f1, f2, f3⟩ q =>
  ⟨a, b, xs, ys, e1, f1, ex _ _ e2, ex _ _ f2, by rw [e3.len, f3.len]; exact Nat.le_of_lt (small1000 hl), fun p hp => q p _ hp (e3.app f3)⟩
theorem un_neg1 {i : Int} : Un1 (rU fun i => .int (-i)) (kI i) (kI (-i)) := fun Hb H x Q e (h : x = .int i) q => ⟨i, h, q _ rfl⟩
/-- a is b, of truths -/
theorem op_isB {a b : Bool} : Op rIsB (kB a) (kB b) (kB (decide (a = b))) := fun Hb H x y Q e (h1 : x = .bl a) (h2 : y = .bl b) q => ⟨a, b, h1, h2, q _ rfl⟩

/-! ## built-ins, by kinds -/
theorem ca_len_T : Ca (fun xs H Q => ∃ p ys, xs = [.ref p] ∧ (SqL K H p ys ∨ SqT K H p ys) ∧ Q (.int ys.length) H) [kT K ks] (kI ks.length) := fun Hb H vs Q ex h q => by
  cases h with
  | cons h t =>
    cases t
    obtain ⟨a, xs, e1, e2, e3⟩ := h
    subst e1
    exact ⟨a, xs, rfl, .inr (Same.sqT ex e2), by rw [e3.len]; exact q _ rfl⟩
theorem ca_len_S : Ca (fun xs H Q => ∃ p ys, xs = [.ref p] ∧ (SqL K H p ys ∨ SqT K H p ys) ∧ Q (.int ys.length) H) [kS K ks] (kI ks.length) := fun Hb H vs Q ex h q => by
  cases h with
  | cons h t =>
    cases t
    obtain ⟨a, xs, e1, e2, e3⟩ := h
    subst e1
    exact ⟨a, xs, rfl, .inl (ex.seq e2), by rw [e3.len]; exact q _ rfl⟩
theorem ca_le1 {r : List V → Hp → VK → Prop} (h : Ca r [k2] k3) (e : k1.le k2) : Ca r [k1] k3 := fun Hb H vs Q ex a q => h Hb H vs Q ex (a.le (.cons e .nil)) q
theorem ca_len_L : Ca (fun xs H Q => ∃ p ys, xs = [.ref p] ∧ (SqL K H p ys ∨ SqT K H p ys) ∧ Q (.int ys.length) H) [kL ks] (kI ks.length) := ca_le1 ca_len_S kL_le_kS
theorem map_kI (ns : List Int) : ns.map kI = (ns.map V.int).map kE := by rw [List.map_map]; rfl
theorem map_kB (bs : List Bool) : bs.map kB = (bs.map V.bl).map kE := by rw [List.map_map]; rfl
theorem allK_ints {H : Hp} {vs : List V} {ns : List Int} (h : AllK H vs (ns.map kI)) : vs = ns.map V.int := by
  rw [map_kI] at h
  exact allK_kE h
theorem allK_bools {H : Hp} {vs : List V} {bs : List Bool} (h : AllK H vs (bs.map kB)) : vs = bs.map V.bl := by
  rw [map_kB] at h
  exact allK_kE h
theorem ca_sumS {ns : List Int} : Ca (rSum K) [kS K (ns.map kI)] (kI ns.sum) := fun Hb H vs Q ex h q => by
  cases h with
  | cons h t =>
    cases t
    obtain ⟨a, xs, e1, e2, e3⟩ := h
    subst e1
    have := allK_ints e3
    subst this
    exact ⟨a, ns, rfl, ex.seq e2, q _ rfl⟩
theorem ca_sumL {ns : List Int} : Ca (rSum K) [kL (ns.map kI)] (kI ns.sum) := ca_le1 ca_sumS kL_le_kS
theorem ca_sumT {ns : List Int} : Ca (rSumT K) [kT K (ns.map kI)] (kI ns.sum) := fun Hb H vs Q ex h q => by
  cases h with
  | cons h t =>
    cases t
    obtain ⟨a, xs, e1, e2, e3⟩ := h
    subst e1
    have := allK_ints e3
    subst this
    exact ⟨a, ns, rfl, Same.sqT ex e2, q _ rfl⟩
theorem ca_maxL {ns : List Int} {m : Int} (h0 : 0 < ns.length) (hm : ∀ z, z ∈ ns → (∀ y, y ∈ ns → y ≤ z) → z = m) : Ca (rMax K) [kL (ns.map kI)] (kI m) := fun Hb H vs Q ex h q => by
  cases h with
  | cons h t =>
    cases t
    obtain ⟨a, xs, e1, e2, e3⟩ := h
    subst e1
    have := allK_ints e3
    subst this
    exact ⟨a, ns, rfl, SqL.of (ex _ _ e2), h0, fun z h1 h2 => by rw [hm z h1 h2]; exact q _ rfl⟩
theorem ca_minL {ns : List Int} {m : Int} (h0 : 0 < ns.length) (hm : ∀ z, z ∈ ns → (∀ y, y ∈ ns → z ≤ y) → z = m) : Ca (rMin K) [kL (ns.map kI)] (kI m) := fun Hb H vs Q ex h q => by
  cases h with
  | cons h t =>
    cases t
    obtain ⟨a, xs, e1, e2, e3⟩ := h
    subst e1
    have := allK_ints e3
    subst this
    exact ⟨a, ns, rfl, SqL.of (ex _ _ e2), h0, fun z h1 h2 => by rw [hm z h1 h2]; exact q _ rfl⟩
theorem ca_maxT {ns : List Int} {m : Int} (h0 : 0 < ns.length) (hm : ∀ z, z ∈ ns → (∀ y, y ∈ ns → y ≤ z) → z = m) : Ca (rMaxT K) [kT K (ns.map kI)] (kI m) := fun Hb H vs Q ex h q => by
  cases h with
  | cons h t =>
    cases t
    obtain ⟨a, xs, e1, e2, e3⟩ := h
    subst e1
    have := allK_ints e3
    subst this
    exact ⟨a, ns, rfl, Same.sqT ex e2, h0, fun z h1 h2 => by rw [hm z h1 h2]; exact q _ rfl⟩
theorem ca_max2 {i j : Int} : Ca (fun xs H Q => ∃ i j, xs = [.int i, .int j] ∧ Q (.int (if j > i then j else i)) H) [kI i, kI j] (kI (if j > i then j else i)) := fun Hb H vs Q ex h q => by
  have := allK_kE (xs := [V.int i, V.int j]) h
  subst this
  exact ⟨i, j, rfl, q _ rfl⟩
theorem ca_abs {i : Int} : Ca (fun xs H Q => ∃ i, xs = [.int i] ∧ Q (.int (if i < 0 then -i else i)) H) [kI i] (kI (if i < 0 then -i else i)) := fun Hb H vs Q ex h q => by
  have := allK_kE (xs := [V.int i]) h
  subst this
  exact ⟨i, rfl, q _ rfl⟩
theorem ca_all {bs : List Bool} : Ca (rAll K) [kL (bs.map kB)] (kB (bs.all id)) := fun Hb H vs Q ex h q => by
  cases h with
  | cons h t =>
    cases t
    obtain ⟨a, xs, e1, e2, e3⟩ := h
    subst e1
    have := allK_bools e3
    subst this
    exact ⟨a, bs, rfl, SqL.of (ex _ _ e2), q _ rfl⟩
theorem ca_any {bs : List Bool} : Ca (rAny K) [kL (bs.map kB)] (kB (bs.any id)) := fun Hb H vs Q ex h q => by
  cases h with
  | cons h t =>
    cases t
    obtain ⟨a, xs, e1, e2, e3⟩ := h
    subst e1
    have := allK_bools e3
    subst this
    exact ⟨a, bs, rfl, SqL.of (ex _ _ e2), q _ rfl⟩
/-- sorted of whole numbers -/
theorem can_sortI {ns ms : List Int} (h : ∀ l : List Int, l.Perm ns → l.Pairwise (· ≤ ·) → l = ms) : CaN (rSortedI K) [kL (ns.map kI)] (ms.map kI) := fun Hb H vs Q ex a q => by
  cases a with
  | cons a t =>
    cases t
    obtain ⟨p, xs, e1, e2, e3⟩ := a
    subst e1
    have := allK_ints e3
    subst this
    refine ⟨p, ns, rfl, SqL.of (ex _ _ e2), fun l p' h1 h2 h3 => ?_⟩
    have := h l h1 h2
    subst this
    refine q p' _ h3 ?_
    rw [map_kI]
    exact allK_of_kE _
/-- tuple(xs), list(t) -/
theorem cau_tuple : CaU (fun xs H Q => ∃ p ys, xs = [.ref p] ∧ ((SqL K H p ys ∧ ∀ l, H l = none → Q (.ref l) (upd H l (.tup ys))) ∨ (SqT K H p ys ∧ Q (.ref p) H))) [kL ks] ks := fun Hb H vs Q ex a q => by
  cases a with
  | cons a t =>
    cases t
    obtain ⟨p, xs, e1, e2, e3⟩ := a
    subst e1
    exact ⟨p, xs, rfl, .inl ⟨SqL.of (ex _ _ e2), fun l hl => q l xs hl e3⟩⟩
theorem can_list : CaN (fun xs H Q => ∃ p ys, xs = [.ref p] ∧ (SqL K H p ys ∨ SqT K H p ys) ∧ ∀ l, H l = none → Q (.ref l) (upd H l (.lst ys))) [kT K ks] ks := fun Hb H vs Q ex a q => by
  cases a with
  | cons a t =>
    cases t
    obtain ⟨p, xs, e1, e2, e3⟩ := a
    subst e1
    exact ⟨p, xs, rfl, .inr (Same.sqT ex e2), fun l hl => q l xs hl e3⟩
/-- isinstance -/
def TyK (K : PySem.W.Frag) (k : Kd) (t : Value) : Prop := ∀ v H, k.p v H → TyX K H v t
theorem ca_isi {t u : Value} {c : V} {b : Bool} (hc : ClsV c u) (ht : TyK K k t) (h : PySem.W.kitOne K t u = some b) : Ca (rIsi K) [k, kE c] (kB b) := fun Hb H vs Q ex a q => by
  cases a with
  | cons a r =>
    cases r with
    | cons a2 r2 =>
      cases r2
      have e2 : _ = c := a2
      subst e2
      exact ⟨_, _, t, u, b, rfl, hc, ht _ _ (k.up ex a), h, q _ rfl⟩
theorem ty_int {i : Int} : TyK K (kI i) (.type "int") := fun v H (h : v = .int i) => by subst h; exact .base (.int i)
theorem ty_bl {b : Bool} : TyK K (kB b) (.type "bool") := fun v H (h : v = .bl b) => by subst h; exact .base (.bl b)
theorem ty_str {b : Str} : TyK K (kE (.str b)) (.type "str") := fun v H (h : v = .str b) => by subst h; exact .base (.str b)
theorem ty_non : TyK K kN (.type "NoneType") := fun v H (h : v = .non) => by subst h; exact .base .non
theorem ty_lst : TyK K (kL ks) (.type "list") := fun v H ⟨a, xs, h1, h2, h3⟩ => by subst h1; exact .base (.lst h2)
theorem ty_tup : TyK K (kT K ks) (.type "tuple") := fun v H ⟨a, xs, h1, h2, h3⟩ => by
  subst h1
  rcases h2 with (h2 | ⟨o, h2⟩) | ⟨o, its, n, h2, h4, _⟩
  · exact .base (.tup h2)
  · exact .fTuple h2
  · exact .kTuple h2 h4

/-! ## more that is walked -/
def enumK (K : PySem.W.Frag) : Nat → List Kd → List Kd
  | _, [] => []
  | n, k :: ks => kT K [kI (n : Nat), k] :: enumK K (n + 1) ks
theorem enumK_get : ∀ {ks : List Kd} {n i : Nat} {k : Kd}, (enumK K n ks)[i]? = some k → ∃ k', ks[i]? = some k' ∧ k = kT K [kI ((n + i : Nat) : Int), k']
  | [], _, _, _, h => by simp [enumK] at h
  | k' :: ks, n, 0, k, h => by
    have e : kT K [kI (n : Nat), k'] = k := Option.some.inj h
    exact ⟨k', rfl, e.symm⟩
  | _ :: ks, n, i + 1, k, h => by
    obtain ⟨k', h1, h2⟩ := enumK_get (ks := ks) (n := n + 1) (i := i) (k := k) h
    refine ⟨k', h1, ?_⟩
    rw [h2, show n + 1 + i = n + (i + 1) by omega]
theorem enumK_len : ∀ (ks : List Kd) (n : Nat), (enumK K n ks).length = ks.length
  | [], _ => rfl
  | _ :: ks, n => congrArg (· + 1) (enumK_len ks (n + 1))
theorem src_enumT {te : TE} {δ : List Sl} (h : EvD te δ (kT K ks)) : Src (iEnumT K (tCons te tNil)) δ (enumK K 0 ks) := fun H0 Hb H σ s R q => h H0 Hb H σ s _ fun Hb1 H1 v a e ⟨p, xs, e1, e2, e3⟩ => by
  refine ⟨p, xs, by rw [e1], Same.sqT e.ex e2, q Hb1 H1 _ a e ⟨fun i H hi s => ?_, fun H s => ?_, fun i H x H' k hk s y => .inr ?_⟩⟩
  · rw [enumK_len, ← e3.len] at hi
    exact ⟨xs, xs[i], Same.sqT s e2, List.getElem?_eq_getElem hi⟩
  · exact ⟨xs, Same.sqT s e2, by rw [enumK_len, e3.len]; exact Nat.le_refl _⟩
  · obtain ⟨T, z, y1, y2, y3, y4⟩ := y
    obtain ⟨k', h1, h2⟩ := enumK_get hk
    have hz := y4 xs (Same.sqT s e2)
    obtain ⟨k2, h3, h4⟩ := e3.get hz
    rw [h1] at h3
    cases h3
    refine .inl ⟨T, [.int (i : Nat), z], [kI (i : Nat), k'], K, y1, y2, y3, .cons rfl (.cons h4 .nil), ?_⟩
    rw [h2, Nat.zero_add]
    exact Kd.le.refl _
end

/-! ## exceptions whose context is None -/
theorem passN {X : Cx} : Passes (L2N.CX X.prog X.w) X E0 := fun _ _ _ _ _ _ _ z => by
  obtain ⟨_, _, _, _, _, _, _, _, _, _, _, _, no⟩ := z
  exact no.elim
theorem funOkN {P : Program} {w : World} {K : PySem.W.Frag} {mg : Str → Option Value} {base : Heap} {x qual : Str} {st : Stmt} {f : Addr} {fd : FuncData} {N ps : List Str} {k : Nat} {sp : Sp} (F : Fun K x qual st f fd) (S : FnScope N ps (defScope st)) (len : ∀ vs H Q E, sp vs H Q E → vs.length = ps.length)
    (hb : ∀ (cdv : Value) (A : Around) (outer : List Env) (s : Shared) (H : Hp) (vs : List V) (Q : VK) (E : XK), Room k (A.deeper (envOfC qual (defScope st) s.heap.objs.size f cdv)) → sp vs H Q E →
      ∃ t, PSs (cxOf (L2N.CX P w) P w K mg base N qual (defScope st) f cdv A outer s H E) (defBody st) t ∧ t { nx := fun _ H' => Q .non H', rt := Q } (L2.start N vs) H) : FnOk P w K mg base (L2N.CX P w) (k + 1) f fd ps sp := by
  obtain ⟨_, _, _, _, _, _, cv, _, _, rfl, at1, at2⟩ := F.ex
  exact fn_of at1 at2 S len (hb cv)
/-! ## a def's promise -/
def DoesE (E : XK) (t : TS) (δ : List Sl) (C : Addr) : Prop := ∀ (H0 Hb H : Hp) (σ : L2.St) (D : Ends), Sg H0 Hb H σ δ → (∀ H', Same H0 H' → E (.ref C) none H') → t D σ H
def EvE (E : XK) (te : TE) (δ : List Sl) (C : Addr) : Prop := ∀ (H0 Hb H : Hp) (σ : L2.St), Sg H0 Hb H σ δ → (∀ H', Same H0 H' → E (.ref C) none H') → ∀ Q : VK, te σ H Q
def DoesR (E : XK) (t : TS) (δ : List Sl) : Rs → Prop
  | .v k => Does t δ (.rt k) ∨ ∃ δ1, Does t δ (.nx δ1) ∧ kN.le k
  | .nl ks => Does t δ (.rn ks)
  | .er C => DoesE E t δ C
def argsδ (ks : List Kd) (n : Nat) : List Sl := ks.map .sh ++ List.replicate (n - ks.length) .no
theorem start_sg {H Hb : Hp} {N : List Str} {vs : List V} {ks : List Kd} (e : Same Hb H) (h : AllK Hb vs ks) : Sg H Hb H (L2.start N vs) (argsδ ks N.length) where
  ex := e
  fr := Same.refl _
  len := by
    unfold L2.start argsδ
    rw [List.length_append, List.length_append, List.length_map, List.length_map, List.length_replicate, List.length_replicate, h.len]
  sh := fun i k hk => by
    unfold argsδ at hk
    by_cases hi : i < ks.length
    · rw [List.getElem?_append_left (by simpa using hi), List.getElem?_map] at hk
      cases hq : ks[i]? with
      | none => rw [hq] at hk; cases hk
      | some k' =>
        rw [hq] at hk
        cases hk
        obtain ⟨v, h1, h2⟩ := h.get' hq
        refine ⟨v, ?_, h2⟩
        unfold L2.start
        rw [List.getElem?_append_left (by rw [List.length_map, h.len]; exact hi), List.getElem?_map, h1]
        rfl
    · rw [List.getElem?_append_right (by simpa using hi), List.getElem?_replicate] at hk
      split at hk <;> cases hk
  ow := fun i ls hk => by
    unfold argsδ at hk
    by_cases hi : i < ks.length
    · rw [List.getElem?_append_left (by simpa using hi), List.getElem?_map] at hk
      cases hq : ks[i]? with
      | none => rw [hq] at hk; cases hk
      | some k' => rw [hq] at hk; cases hk
    · rw [List.getElem?_append_right (by simpa using hi), List.getElem?_replicate] at hk
      split at hk <;> cases hk
  ne := fun a b ls ms p hk => by
    unfold argsδ at hk
    by_cases hi : a < ks.length
    · rw [List.getElem?_append_left (by simpa using hi), List.getElem?_map] at hk
      cases hq : ks[a]? with
      | none => rw [hq] at hk; cases hk
      | some k' => rw [hq] at hk; cases hk
    · rw [List.getElem?_append_right (by simpa using hi), List.getElem?_replicate] at hk
      split at hk <;> cases hk
section
variable {P : Program} {w : World} {K : PySem.W.Frag} {mg : Str → Option Value} {base : Heap}
/-- a def by its body -/
theorem fn_do {x qual : Str} {st : Stmt} {f : Addr} {fd : FuncData} {N ps : List Str} {k : Nat} {A : List Kd → Rs → Prop} (F : Fun K x qual st f fd) (S : FnScope N ps (defScope st)) (hl : ∀ ks r, A ks r → ks.length = ps.length)
    (body : ∀ (cdv : Value) (Ar : Around) (outer : List Env) (s : Shared) (H : Hp) (E : XK), Room k (Ar.deeper (envOfC qual (defScope st) s.heap.objs.size f cdv)) →
      ∃ t, PSs (cxOf (L2N.CX P w) P w K mg base N qual (defScope st) f cdv Ar outer s H E) (defBody st) t ∧ ∀ ks r, A ks r → DoesR E t (argsδ ks N.length) r) :
    FnOk P w K mg base (L2N.CX P w) (k + 1) f fd ps (spR A) := by
  refine funOkN F S (fun vs H Q E h => ?_) (fun cdv Ar outer s H vs Q E hr h => ?_)
  · obtain ⟨Hb, ks, r, h1, h2, h3, _⟩ := h
    rw [h3.len]
    exact hl ks r h1
  · obtain ⟨Hb, ks, r, h1, h2, h3, h4⟩ := h
    obtain ⟨t, ht, hd⟩ := body cdv Ar outer s H E hr
    refine ⟨t, ht, ?_⟩
    have g : Sg H Hb H (L2.start N vs) (argsδ ks N.length) := start_sg h2 h3
    have d := hd ks r h1
    cases r with
    | v k =>
      rcases d with d | ⟨δ1, d, hk⟩
      · exact d H Hb H _ _ g fun Hb' H' v a b c e => h4 Hb' H' v a b c e
      · exact d H Hb H _ _ g fun Hb' H' σ' a b => h4 Hb' H' .non a b.ex b.fr (hk _ _ rfl)
    | nl ks => exact d H Hb H _ _ g fun Hb' H' p xs a b c e1 e2 e3 e4 => h4 Hb' H' p xs a b c e1 e2 e3 e4
    | er C => exact d H Hb H _ _ g h4
end
section
variable {δ δ1 : List Sl} {t u : TS} {c : TT} {b : Bool} {E : XK} {C : Addr} {te : TE} {ar : TA} {ks : List Kd} {A : List Kd → Rs → Prop}
theorem de_seq1 (h : DoesE E t δ C) : DoesE E (tSeq t u) δ C := fun H0 Hb H σ D s q => h H0 Hb H σ _ s q
theorem de_seq2 (h1 : Does t δ (.nx δ1)) (h2 : DoesE E u δ1 C) : DoesE E (tSeq t u) δ C := fun H0 Hb H σ D s q => h1 H0 Hb H σ _ s fun Hb' H' σ' a e => h2 H0 Hb' H' σ' D e q
theorem de_if (h : EvT c δ b) (h1 : b = true → DoesE E t δ C) (h2 : b = false → DoesE E u δ C) : DoesE E (tIfS c t u) δ C := fun H0 Hb H σ D s q => h H0 Hb H σ s _ fun Hb1 H1 a e => by
  cases b with
  | true => exact iteT (h1 rfl H0 Hb1 H1 σ D e q)
  | false => exact iteF (h2 rfl H0 Hb1 H1 σ D e q)
theorem de_drop (h : EvE E te δ C) : DoesE E (tDrop te) δ C := fun H0 Hb H σ D s q => h H0 Hb H σ s q _
theorem de_ret (h : EvE E te δ C) : DoesE E (tRet te) δ C := fun H0 Hb H σ D s q => h H0 Hb H σ s q _
theorem ee_call (h : EvA ar δ ks) (ha : A ks (.er C)) : EvE E (tCall (spR A) [] E ar) δ C := fun H0 Hb H σ s q Q => h H0 Hb H σ s _ fun Hb1 H1 vs a e f => by
  rw [app_nil']
  exact ⟨Hb1, ks, .er C, ha, e.ex, f, fun H' z => q H' (e.fr.trans z)⟩
/-- raise C('..') -/
theorem de_raise {W : WX} (hW : W = fun cls d _ H => E cls d H) : DoesE E (fun _ σ H => (fun _ H (Q : XK) => Q (.ref C) none H) σ H fun cls d H' => W cls d σ H') δ C := fun H0 Hb H σ D s q => by
  subst hW
  exact q H s.fr
end
end Dx

namespace Dx
open PySem PySem.Spec PyProof.Rows L2
/-! ## defs and facts of the top, bundled -/
structure CallD (P : Program) (w : World) (K : PySem.W.Frag) (mg : Str → Option Value) (base : Heap) (k : Nat) (x : Str) (sp : Sp) : Prop where
  ex : ∃ (f : Addr) (fd : FuncData) (ps : List Str), FnOk P w K mg base (L2N.CX P w) k f fd ps sp ∧ mg x = some (.ref f) ∧ PySem.W.keepIn K (.ref f) = true ∧ Binds K fd ps []
structure DefAt (K : PySem.W.Frag) (mg : Str → Option Value) (x : Str) (st : Stmt) (ps : List Str) : Prop where
  ex : ∃ (f : Addr) (fd : FuncData), Fun K x x st f fd ∧ mg x = some (.ref f) ∧ Binds K fd ps []
section
variable {X : Cx} {j k : Nat} {x : Str} {sp : Sp} {e : Expr} {es : List Expr} {t : TA} {p pos : Pos}
theorem pe_d (c : CallD X.prog X.w X.K X.mg X.base k x sp) (hr : Room j X.A) (hk : k ≤ j) (ha : PA X (e :: es) t) (hg : Gl X x := by rfl) (hdb : (x == ("__debug__" : Str)) = false := by decide) (he : starEach (e :: es) X.env = (false, eval e X.env) :: starEach es X.env := by rfl) (hpl : (backTo pos (starEach es X.env)).any (·.1) = false := by rfl) :
    PE X (.Call (.Name x p) (e :: es) [] pos) (tCall sp [] E0 t) := by
  obtain ⟨f, fd, ps, F, hm, hkp, hb⟩ := c.ex
  exact pe_call F (hr.mono hk) hg hm hkp hb .nil passN ha hdb he hpl
theorem pe_dE {W : WX} {E : XK} (c : CallD X.prog X.w X.K X.mg X.base k x sp) (hr : Room j X.A) (hk : k ≤ j) (tk : L2N.Takes X W) (hW : ∀ cls d σ H, E cls d H → W cls d σ H) (ha : PA X (e :: es) t) (hg : Gl X x := by rfl) (hdb : (x == ("__debug__" : Str)) = false := by decide) (he : starEach (e :: es) X.env = (false, eval e X.env) :: starEach es X.env := by rfl) (hpl : (backTo pos (starEach es X.env)).any (·.1) = false := by rfl) :
    PE X (.Call (.Name x p) (e :: es) [] pos) (tCall sp [] E t) := by
  obtain ⟨f, fd, ps, F, hm, hkp, hb⟩ := c.ex
  exact pe_call F (hr.mono hk) hg hm hkp hb .nil (L2N.passes_call tk hW) ha hdb he hpl
theorem hu65 {A : Around} (r : Room k A) : A.units + 65 < cLine := by have := r.un; omega
end
section
variable {P : Program} {w : World} {K : PySem.W.Frag} {mg : Str → Option Value} {base : Heap}
theorem callD_of {x : Str} {st : Stmt} {N ps : List Str} {k : Nat} {A : List Kd → Rs → Prop} (D : DefAt K mg x st ps) (S : FnScope N ps (defScope st)) (hl : ∀ ks r, A ks r → ks.length = ps.length)
    (body : ∀ (f : Addr) (cdv : Value) (Ar : Around) (outer : List Env) (s : Shared) (H : Hp) (E : XK), Room k (Ar.deeper (envOfC x (defScope st) s.heap.objs.size f cdv)) →
      ∃ t, PSs (cxOf (L2N.CX P w) P w K mg base N x (defScope st) f cdv Ar outer s H E) (defBody st) t ∧ ∀ ks r, A ks r → DoesR E t (argsδ ks N.length) r) :
    CallD P w K mg base (k + 1) x (spR A) := by
  obtain ⟨f, fd, F, hm, hb⟩ := D.ex
  exact ⟨f, fd, ps, fn_do F S hl (body f), hm, F.kp, hb⟩
theorem defAt_mk {x : Str} {st : Stmt} {ps : List Str} {h : Heap} {f : Addr} {oc : Value} {od an : Option Addr} {osl : Array (Option Value)} {kV doc pm cdv ct : Value} (X : K.In h) (G : h.Ns mainGlobals mg)
    (hb : ∀ (kV doc pm : Value) (an : Option Addr) (cdv ct : Value) (us : List Value), us.length = ps.length → bindArgs (PySem.W.fnOf x x (defArgs st) (defBody st) (defScope st) .none kV doc pm an cdv ct) ⟨us, []⟩ = pure (ps.zip us))
    (a : PySem.W.nsIn K mainGlobals x = some (some (.ref f))) (l : K.lookup f = some ⟨oc, od, .func (PySem.W.fnOf x x (defArgs st) (defBody st) (defScope st) .none kV doc pm an cdv ct), osl⟩) (c : PySem.W.codeIn K cdv x = true) (k : PySem.W.keepIn K (.ref f) = true) :
    DefAt K mg x st ps := by
  have F := fun_mk (st := st) l c k
  exact ⟨f, _, F, PySem.W.mg_of X G a, F.binds hb⟩
/-- an own error class over a built-in one, without an __init__ -/
structure ErrC (K : PySem.W.Frag) (mg : Str → Option Value) (x : Str) (C : Addr) : Prop where
  gP : mg x = some (.ref C)
  xP : PySem.W.excIn K C [.type "ValueError", .type "Exception", .type "BaseException", .type "object"] "ValueError.__new__" = true
  kP : PySem.W.keepIn K (.ref C) = true
  bP : PySem.W.subIn K (.ref C) (.type "BaseException") = some true
  tP : PySem.W.typeIn K (.ref C) = some (.type "type")
/-- the built-in names that the text uses are no names of the module -/
structure Bt (mg : Str → Option Value) : Prop where
  b_len : mg "len" = none
  b_isinstance : mg "isinstance" = none
  b_sum : mg "sum" = none
  b_max : mg "max" = none
  b_min : mg "min" = none
  b_abs : mg "abs" = none
  b_all : mg "all" = none
  b_any : mg "any" = none
  b_sorted : mg "sorted" = none
  b_list : mg "list" = none
  b_tuple : mg "tuple" = none
  b_range : mg "range" = none
  b_enumerate : mg "enumerate" = none
  b_int : mg "int" = none
  b_bool : mg "bool" = none
  b_str : mg "str" = none
  b_ValueError : mg "ValueError" = none
end
/-! ## the rules with the written part K by name -/
def rLenK (K : PySem.W.Frag) : List V → Hp → VK → Prop := fun xs H Q => ∃ p ys, xs = [.ref p] ∧ (SqL K H p ys ∨ SqT K H p ys) ∧ Q (.int ys.length) H
def rListK (K : PySem.W.Frag) : List V → Hp → VK → Prop := fun xs H Q => ∃ p ys, xs = [.ref p] ∧ (SqL K H p ys ∨ SqT K H p ys) ∧ ∀ l, H l = none → Q (.ref l) (upd H l (.lst ys))
def rTupleK (K : PySem.W.Frag) : List V → Hp → VK → Prop := fun xs H Q => ∃ p ys, xs = [.ref p] ∧ ((SqL K H p ys ∧ ∀ l, H l = none → Q (.ref l) (upd H l (.tup ys))) ∨ (SqT K H p ys ∧ Q (.ref p) H))
section
variable {X : Cx} {K : PySem.W.Frag} {k : Nat} {tg e a : Expr} {te : TE} {ta : TA} {p pos tpos : Pos} {elts : List Expr} {kk : Nat}
theorem op_inK  (hK : X.K = K) : OpR X (compareOp .In) (rIn K false) := by subst hK; exact op_in_seq
theorem op_notInK  (hK : X.K = K) : OpR X (compareOp .NotIn) (rIn K true) := by subst hK; exact op_notIn_seq
theorem op_eqK (hr : Room k X.A) (hK : X.K = K) : OpR X (compareOp .Eq) (rEqD K) := by subst hK; exact op_eqD hr.units
theorem op_neK (hr : Room k X.A) (hK : X.K = K) : OpR X (compareOp .NotEq) (rNeD K) := by subst hK; exact op_neD hr.units
theorem op_inDK (hr : Room k X.A) (hK : X.K = K) : OpR X (compareOp .In) (rInD K) := by subst hK; exact op_inD (hu65 hr)
theorem op_notInDK (hr : Room k X.A) (hK : X.K = K) : OpR X (compareOp .NotIn) (rNotInD K) := by subst hK; exact op_notInD (hu65 hr)
theorem op_inDTK (hr : Room k X.A) (hK : X.K = K) : OpR X (compareOp .In) (rInDT K) := by subst hK; exact op_inDT (hu65 hr)
theorem op_notInDTK (hr : Room k X.A) (hK : X.K = K) : OpR X (compareOp .NotIn) (rNotInDT K) := by subst hK; exact op_notInDT (hu65 hr)
theorem ix_seqK  (hK : X.K = K) : IxR X (rIx K) := by subst hK; exact ix_seq
theorem call_lenK  (hK : X.K = K) : CallR X (.builtin "len") (rLenK K) := by subst hK; exact call_len_seq
theorem call_isiK  (hK : X.K = K) : CallR X (.builtin "isinstance") (rIsi K) := by subst hK; exact call_isi
theorem cr_sumK (hc : X.calm = true) (hK : X.K = K) : CallR X (.builtin "sum") (rSum K) := by subst hK; exact cr_sum hc
theorem cr_sumTK (hc : X.calm = true) (hK : X.K = K) : CallR X (.builtin "sum") (rSumT K) := by subst hK; exact cr_sumT hc
theorem cr_maxK (hc : X.calm = true) (hK : X.K = K) : CallR X (.builtin "max") (rMax K) := by subst hK; exact cr_max hc
theorem cr_maxTK (hc : X.calm = true) (hK : X.K = K) : CallR X (.builtin "max") (rMaxT K) := by subst hK; exact cr_maxT hc
theorem cr_minK (hc : X.calm = true) (hK : X.K = K) : CallR X (.builtin "min") (rMin K) := by subst hK; exact cr_min hc
theorem cr_allK (hc : X.calm = true) (hK : X.K = K) : CallR X (.builtin "all") (rAll K) := by subst hK; exact cr_all hc
theorem cr_anyK (hc : X.calm = true) (hK : X.K = K) : CallR X (.builtin "any") (rAny K) := by subst hK; exact cr_any hc
theorem cr_sortedIK  (hK : X.K = K) : CallR X (.builtin "sorted") (rSortedI K) := by subst hK; exact cr_sortedI
theorem cr_sortedPOK  (hK : X.K = K) : CallR X (.builtin "sorted") (rSortedPO K) := by subst hK; exact cr_sortedPO
theorem call_listK  (hK : X.K = K) : CallR X (.type "list") (rListK K) := by subst hK; exact call_list_of
theorem call_tupleK  (hK : X.K = K) : CallR X (.type "tuple") (rTupleK K) := by subst hK; exact call_tuple_of
theorem sl_listK  (hK : X.K = K) : SlR X (rSlL K) := by subst hK; exact sl_list
theorem pi_listK (he : PE X e te) (hK : X.K = K) : PI X tg e (iList K te) := by subst hK; exact pi_list he
theorem pi_tupK (he : PE X e te) (hK : X.K = K) : PI X tg e (iTup K te) := by subst hK; exact pi_tup he
theorem pi_enumTK (hg : Gl X "enumerate") (hm : X.mg "enumerate" = none) (ha : PA X [e] ta) (hK : X.K = K) (hs : starEach [e] X.env = [(false, eval e X.env)] := by rfl) : PI X (.Tuple elts kk tpos) (.Call (.Name "enumerate" p) [e] [] pos) (iEnumT K ta) := by subst hK; exact pi_enumT hg hm ha hs
theorem pe_fldK {f : Str} (he : PE X e te) (hK : X.K = K) (hb : attributeBase e f X.env (eval e X.env) = eval e X.env := by rfl) : PE X (.Attribute e f pos) (tFld K te f) := by subst hK; exact pe_fld he hb
end
theorem pe_ty {X : Cx} {x : Str} {n : String} {pos : Pos} (hg : Gl X x) (hm : X.mg x = none) (hv : bootBuiltins x = some (.type n)) (hn : x ≠ "__name__" := by decide) (hdb : (x == ("__debug__" : Str)) = false := by decide) : PE X (.Name x pos) (tC (.ty n)) := pe_bltn hg hm hv rfl hn hdb
theorem pe_gref {X : Cx} {x : Str} {a : Addr} {pos : Pos} (hg : Gl X x) (hm : X.mg x = some (.ref a)) (hdb : (x == ("__debug__" : Str)) = false := by decide) : PE X (.Name x pos) (tC (.ref a)) := pe_glob hg hm rfl hdb
theorem pe_gint {X : Cx} {x : Str} {i : Int} {pos : Pos} (hg : Gl X x) (hm : ∃ t, X.mg x = some (.int i t)) (hdb : (x == ("__debug__" : Str)) = false := by decide) : PE X (.Name x pos) (tC (.int i)) := by
  obtain ⟨t, hm⟩ := hm
  exact pe_glob hg hm ⟨t, rfl⟩ hdb
/-! ## ends: kinds by equations -/
section
variable {K : PySem.W.Frag} {δ : List Sl} {te ta tb : TE} {t : TT} {x y : V} {b : Bool} {k k' : Kd} {ks ls : List Kd}
theorem kE_le (h : x = y) : (kE x).le (kE y) := h ▸ Kd.le.refl _
theorem ev_ite (h : EvT t δ b) (h1 : b = true → EvD ta δ (kE x)) (h2 : b = false → EvD tb δ (kE y)) : EvD (tIf t ta tb) δ (kE (if b = true then x else y)) :=
  ev_if h (fun e => ev_to (h1 e) (by rw [if_pos e])) fun e => ev_to (h2 e) (by rw [if_neg (by rw [e]; exact Bool.false_ne_true)])
/-- an item of a tuple or a list by its place -/
theorem op_ixqT {i : Int} (e : (ixN ks.length i).bind (fun j => ks[j]?) = some k) : Op (rIx K) (kT K ks) (kI i) k := fun Hb H x y Q ex h1 h2 q => .inr (.inl (op_ixT e Hb H x y Q ex h1 h2 q))
theorem op_ixqL {i : Int} (e : (ixN ks.length i).bind (fun j => ks[j]?) = some k) : Op (rIx K) (kL ks) (kI i) k := fun Hb H x y Q ex h1 h2 q => .inl (op_ixL e Hb H x y Q ex h1 h2 q)
theorem op_ixqS {i : Int} (e : (ixN ks.length i).bind (fun j => ks[j]?) = some k) : Op (rIx K) (kS K ks) (kI i) k := fun Hb H x y Q ex h1 h2 q => .inl (op_ixS e Hb H x y Q ex h1 h2 q)
theorem isds_ints : ∀ ns : List Int, IsDs K (ns.map kI) (ns.map PyData.int) := fun ns => isds_map (fun _ => isd_int) ns
theorem lc_ite {g : TG} {tt : TT} {vs ws : List Nat} {ys out : List Kd} {δ1 : List Sl} (hb : Bnd g ws k (wipeD δ vs) δ1) (hw : ∀ w ∈ ws, w ∈ vs) (ht : EvT tt δ1 b) (he : b = true → EvD te δ1 k') (r : LcRun g tt te vs δ ys out) : LcRun g tt te vs δ (k :: ys) (if b = true then k' :: out else out) := by
  cases b with
  | true => exact .keep hb hw ht (he rfl) r
  | false => exact .skip hb hw ht r
theorem ca_lenT : Ca (rLenK K) [kT K ks] (kI ks.length) := ca_len_T
theorem ca_lenL : Ca (rLenK K) [kL ks] (kI ks.length) := ca_len_L
theorem ca_lenS : Ca (rLenK K) [kS K ks] (kI ks.length) := ca_len_S
theorem cau_tupleK : CaU (rTupleK K) [kL ks] ks := cau_tuple
theorem can_listK : CaN (rListK K) [kT K ks] ks := can_list
end
end Dx

namespace Dx
open PySem PySem.Spec PyProof.Rows L2
section
variable {K : PySem.W.Frag} {δ δ1 δ2 : List Sl} {te ta tb ti : TE} {c : TT} {b : Bool} {x y : V} {k k' k1 k2 : Kd} {ks ls ys : List Kd} {t u t2 : TS} {o : Out} {i j : Nat} {E : XK} {C : Addr}
theorem d_seqif (h : EvT c δ b) (h1 : b = true → Does (tSeq t u) δ o) (h2 : b = false → Does (tSeq t2 u) δ o) : Does (tSeq (tIfS c t t2) u) δ o := fun H0 Hb H σ D s tk => h H0 Hb H σ s _ fun Hb1 H1 a e => by
  cases b with
  | true => exact iteT (h1 rfl H0 Hb1 H1 σ D e (tk.up a))
  | false => exact iteF (h2 rfl H0 Hb1 H1 σ D e (tk.up a))
/-- the test's answer is known to be no: what stands behind the if -/
theorem d_skip (h : EvT c δ b) (e : b = false) (h2 : Does u δ o) : Does (tSeq (tIfS c t tNext) u) δ o := by
  subst e
  exact d_seqif h (fun z => nomatch z) fun _ => d_seq d_next h2
theorem d_skip1 (h : EvT c δ b) (e : b = false) : Does (tIfS c t tNext) δ (.nx δ) := by
  subst e
  exact d_no h d_next
theorem d_setO (h : δ[i]? = some (.ow ks)) (hv : EvD te δ k) (hi : EvD ti δ (kI n)) (hj : ixN ks.length n = some j) : Does (tAsg te (gSub (tVar i) ti rSetL)) δ (.nx (δ.set i (.ow (ks.set j k)))) := fun H0 Hb H σ D s tk => by
  refine hv H0 Hb H σ s _ fun Hb1 H1 v a e q => ?_
  obtain ⟨p, xs, h1, h2, h3, h4, h5⟩ := e.ow i ks h
  refine ⟨.ref p, h1, hi H0 Hb1 H1 σ e _ fun Hb2 H2 w a2 e2 (q2 : w = .int n) => ?_⟩
  obtain ⟨p', xs', r1, r2, r3, r4, r5⟩ := e2.ow i ks h
  rw [h1] at r1
  cases r1
  refine ⟨p, xs', n, j, rfl, q2, r4, by rw [r5.len]; exact hj, ?_⟩
  have e3 : Sg H0 Hb2 (upd H2 p (.lst (xs'.set j v))) (σ.set i (some .non)) (δ.set i (.sh kAny)) := by
    have e1 := e2.set (i := i) (v := .non) (k := kAny) trivial
    refine ⟨fun b o z => ?_, fun b o z => ?_, e1.len, e1.sh, fun l ls z => ?_, e1.ne⟩
    · rw [upd_ne (fun y => by rw [y, r2] at z; cases z)]
      exact e1.ex b o z
    · rw [upd_ne (fun y => by rw [y, r3] at z; cases z)]
      exact e1.fr b o z
    · obtain ⟨p2, ys, w1, w2, w3, w4, w5⟩ := e1.ow l ls z
      have hne : p2 ≠ p := fun y => by
        subst y
        by_cases hj : i = l
        · subst hj
          have hh := (List.getElem?_eq_some_iff.mp z).1
          rw [List.getElem?_set_self (by rw [List.length_set] at hh; exact hh)] at z
          cases z
        · rw [List.getElem?_set_ne hj] at z w1
          exact hj (e2.ne i l ks ls p2 h z h1 w1)
      exact ⟨p2, ys, w1, w2, w3, by rw [upd_ne hne]; exact w4, w5⟩
  have e4 := e3.setO (i := i) (p := p) (xs := xs'.set j v) (ks := ks.set j k) r2 r3 upd_same (AllK.set (k.up a2.1 q) j r5) fun l ls z1 z2 => by
    by_cases hj : i = l
    · exact hj.symm
    · rw [List.getElem?_set_ne hj] at z1 z2
      exact (e2.ne i l ks ls p h z1 h1 z2).symm
  have w1 : (σ.set i (some V.non)).set i (some (V.ref p)) = σ := by rw [List.set_set]; exact set_same h1
  have w2 : (δ.set i (Sl.sh kAny)).set i (Sl.ow (ks.set j k)) = δ.set i (.ow (ks.set j k)) := List.set_set ..
  rw [w1, w2] at e4
  exact tk Hb2 _ σ (a.trans a2) e4
/-- a loop whose store stays what it is -/
theorem forRun_all {g : TG} {tb : TS} {S : List Sl} : ∀ ys : List Kd, (∀ k, k ∈ ys → ∃ ws δ1, Bnd g ws k S δ1 ∧ Does tb δ1 (.nx S)) → ForRun g tb ys S S
  | [], _ => .nil
  | k :: ys, h => by
    obtain ⟨ws, δ1, h1, h2⟩ := h k List.mem_cons_self
    exact .cons h1 h2 (forRun_all ys fun k' hk => h k' (List.mem_cons_of_mem _ hk))
/-- a thing of the written part -/
theorem ev_const {v : V} (h : ∀ H, k.p v H) : EvD (tC v) δ k := fun H0 Hb H σ g Q q => q Hb H v (Gr.refl _ _) g (h _)
/-- parts of a list -/
def EvO (to : TO) (δ : List Sl) (o : Option Int) : Prop := ∀ (H0 Hb H : Hp) (σ : L2.St), Sg H0 Hb H σ δ → ∀ Q : Option Int → Hp → Prop, (∀ Hb' H', Gr H0 Hb Hb' → Sg H0 Hb' H' σ δ → Q o H') → to σ H Q
theorem eo_no : EvO tNoPart δ none := fun H0 Hb H σ g Q q => q Hb H (Gr.refl _ _) g
theorem eo_some {z : Int} (h : EvD te δ (kI z)) : EvO (tPart te) δ (some z) := fun H0 Hb H σ g Q q => h H0 Hb H σ g _ fun Hb1 H1 v a e (hv : v = .int z) => ⟨z, hv, q Hb1 H1 a e⟩
theorem cut_to (xs : List V) (n : Nat) : cutV xs none (some (n : Int)) = xs.take n := by
  unfold cutV
  rw [HT.sIx_none, HT.sIx_nat, List.drop_zero, Nat.sub_zero]
  by_cases h : n ≤ xs.length
  · rw [Nat.min_eq_left h]
  · rw [Nat.min_eq_right (by omega), List.take_of_length_le (Nat.le_refl _), List.take_of_length_le (by omega)]
theorem allK_take {H : Hp} : ∀ {vs : List V} {ks : List Kd} (n : Nat), AllK H vs ks → AllK H (vs.take n) (ks.take n)
  | _, _, 0, _ => .nil
  | _, _, _ + 1, .nil => .nil
  | _, _, n + 1, .cons h t => .cons h (allK_take n t)
/-- xs[:n] -/
theorem en_upto {n : Nat} {tl th : TO} (h : EvD te δ (kS K ks)) (h1 : EvO tl δ none) (h2 : EvO th δ (some (n : Int))) : EvN (tSl (rSlL K) te tl th) δ (ks.take n) := fun H0 Hb H σ g Q q =>
  h H0 Hb H σ g _ fun Hb1 H1 v a e ⟨p, xs, e1, e2, e3⟩ => h1 H0 Hb1 H1 σ e _ fun Hb2 H2 a2 g2 => h2 H0 Hb2 H2 σ g2 _ fun Hb3 H3 a3 g3 =>
    ⟨p, xs, e1, g3.ex.seq ((a2.trans a3).1.seq e2), fun l hl => by
      rw [cut_to]
      exact q Hb3 _ l _ ((a.trans a2).trans a3) (g3.drop hl) (g3.hb hl) (g3.h0 hl) upd_same (allK_take n (e3.up (a2.trans a3).1)) (g3.notOwn hl)⟩
/-- an item by a reckoned place -/
theorem ixN_in {n : Nat} {z : Int} (h0 : 0 ≤ z) (h1 : z < n) : ixN n z = some z.toNat := by
  unfold ixN
  rw [if_pos h0, if_pos h1]
theorem at_ints {ns : List Int} {z : Int} (h0 : 0 ≤ z) (h1 : z < ns.length) : (ixN (ns.map kI).length z).bind (fun j => (ns.map kI)[j]?) = some (kI (ns.getD z.toNat 0)) := by
  rw [List.length_map, ixN_in h0 h1]
  show (ns.map kI)[z.toNat]? = _
  have hz : z.toNat < ns.length := by omega
  rw [List.getElem?_map, List.getD_eq_getElem?_getD, List.getElem?_eq_getElem hz]
  rfl
/-- in a written pair of numbers -/
theorem op_inI2 {z m n : Int} : Op (rIn K false) (kI z) (kT K [kI m, kI n]) (kB (decide (m = z) || decide (n = z))) := fun Hb H a b Q ex h1 h2 q => by
  refine op_inT (K := K) (neg := false) (x := .int z) (xs := [.int m, .int n]) rfl rfl Hb H a b Q ex h1 h2 fun v hv => q v ?_
  have e : (if false = true then !inV (.int z) [.int m, .int n] else inV (.int z) [.int m, .int n]) = (decide (m = z) || decide (n = z)) := by
    show ((m == z) || ((n == z) || false)) = _
    rw [Bool.or_false]
    rfl
  rw [e] at hv
  exact hv
end
/-! ## isinstance of built-in types -/
theorem kb_tuple_tuple : kitB "tuple" "tuple" = some true := by decide +kernel
theorem kb_tuple_list : kitB "tuple" "list" = some false := by decide +kernel
theorem kb_tuple_int : kitB "tuple" "int" = some false := by decide +kernel
theorem kb_tuple_bool : kitB "tuple" "bool" = some false := by decide +kernel
theorem kb_tuple_str : kitB "tuple" "str" = some false := by decide +kernel
theorem kb_list_tuple : kitB "list" "tuple" = some false := by decide +kernel
theorem kb_list_list : kitB "list" "list" = some true := by decide +kernel
theorem kb_list_int : kitB "list" "int" = some false := by decide +kernel
theorem kb_list_bool : kitB "list" "bool" = some false := by decide +kernel
theorem kb_list_str : kitB "list" "str" = some false := by decide +kernel
theorem kb_int_tuple : kitB "int" "tuple" = some false := by decide +kernel
theorem kb_int_list : kitB "int" "list" = some false := by decide +kernel
theorem kb_int_int : kitB "int" "int" = some true := by decide +kernel
theorem kb_int_bool : kitB "int" "bool" = some false := by decide +kernel
theorem kb_int_str : kitB "int" "str" = some false := by decide +kernel
theorem kb_bool_tuple : kitB "bool" "tuple" = some false := by decide +kernel
theorem kb_bool_list : kitB "bool" "list" = some false := by decide +kernel
theorem kb_bool_int : kitB "bool" "int" = some true := by decide +kernel
theorem kb_bool_bool : kitB "bool" "bool" = some true := by decide +kernel
theorem kb_bool_str : kitB "bool" "str" = some false := by decide +kernel
theorem kb_str_tuple : kitB "str" "tuple" = some false := by decide +kernel
theorem kb_str_list : kitB "str" "list" = some false := by decide +kernel
theorem kb_str_int : kitB "str" "int" = some false := by decide +kernel
theorem kb_str_bool : kitB "str" "bool" = some false := by decide +kernel
theorem kb_str_str : kitB "str" "str" = some true := by decide +kernel
theorem kb_NoneType_tuple : kitB "NoneType" "tuple" = some false := by decide +kernel
theorem kb_NoneType_list : kitB "NoneType" "list" = some false := by decide +kernel
theorem kb_NoneType_int : kitB "NoneType" "int" = some false := by decide +kernel
theorem kb_NoneType_bool : kitB "NoneType" "bool" = some false := by decide +kernel
theorem kb_NoneType_str : kitB "NoneType" "str" = some false := by decide +kernel
theorem kb_dict_tuple : kitB "dict" "tuple" = some false := by decide +kernel
theorem kb_dict_list : kitB "dict" "list" = some false := by decide +kernel
theorem kb_dict_int : kitB "dict" "int" = some false := by decide +kernel
theorem kb_dict_bool : kitB "dict" "bool" = some false := by decide +kernel
theorem kb_dict_str : kitB "dict" "str" = some false := by decide +kernel
/-! ## numbers below a power of two -/
def Nb (x : Int) (n : Nat) : Prop := x.natAbs < 2 ^ n
theorem Nb.bits {x : Int} {n : Nat} (h : Nb x n) : Builtin.Int.intBits x ≤ n := by
  unfold Builtin.Int.intBits
  split
  · exact Nat.zero_le _
  · rename_i h0
    have h1 : x.natAbs ≠ 0 := by
      intro e
      apply h0
      have : x = 0 := by omega
      rw [this]
      rfl
    exact (Nat.log2_lt h1).mpr h
theorem Nb.of_bits {x : Int} {n : Nat} (h : Builtin.Int.intBits x ≤ n) : Nb x n := by
  unfold Builtin.Int.intBits at h
  unfold Nb
  split at h
  · rename_i h0
    have : x = 0 := by simpa using h0
    rw [this]
    exact Nat.two_pow_pos n
  · rename_i h0
    have h1 : x.natAbs ≠ 0 := by
      intro e
      apply h0
      have : x = 0 := by omega
      rw [this]
      rfl
    exact (Nat.log2_lt h1).mp (by omega)
theorem Nb.mono {x : Int} {n m : Nat} (h : Nb x n) (e : n ≤ m) : Nb x m := Nat.lt_of_lt_of_le h (Nat.pow_le_pow_right (by decide) e)
theorem Nb.add {x y : Int} {n : Nat} (h : Nb x n) (h2 : Nb y n) : Nb (x + y) (n + 1) := by
  unfold Nb at *
  rw [Nat.pow_succ]
  omega
theorem Nb.mul {x y : Int} {n m : Nat} (h : Nb x n) (h2 : Nb y m) : Nb (x * y) (n + m) := by
  unfold Nb at *
  rw [Int.natAbs_mul, Nat.pow_add]
  exact Nat.mul_lt_mul'' h h2
theorem Nb.range {x : Int} {n : Nat} (h0 : 0 ≤ x) (h : x < 2 ^ n) : Nb x n := by
  unfold Nb
  have : ((2 ^ n : Nat) : Int) = (2 : Int) ^ n := by simp
  omega
theorem cmul_of {x y : Int} {n m : Nat} (h : Nb x n) (h2 : Nb y m) (e : n + m ≤ 100000000) : CMulB x y := by
  unfold CMulB
  have := h.bits
  have := h2.bits
  omega
end Dx

namespace Dx
open PySem PySem.Spec PyProof.Rows L2
/-! ## a tuple of which its own object is known: t.index(x) -/
def kF (ks : List Kd) : Kd := ⟨fun v H => ∃ (a : Addr) (o : Obj) (xs : List V), v = .ref a ∧ H a = some (.frz o (.tup xs)) ∧ o.cls = .type "tuple" ∧ o.dict = none ∧ AllK H xs ks, fun e ⟨a, o, xs, h1, h2, h3, h4, h5⟩ => ⟨a, o, xs, h1, e _ _ h2, h3, h4, h5.up e⟩⟩
theorem kF_le {K : PySem.W.Frag} {ks : List Kd} : (kF ks).le (kT K ks) := fun _ _ ⟨a, o, xs, h1, h2, _, _, h5⟩ => ⟨a, xs, h1, .inl (.inr ⟨o, h2⟩), h5⟩
def tTupF (t : TA) : TE := fun σ H Q => t σ H fun xs H1 => xs.length ≤ sizeLine ∧ ∀ p o, H1 p = none → o.cls = .type "tuple" → o.dict = none → Q (.ref p) (upd H1 p (.frz o (.tup xs)))
section
variable {X : Cx} {es : List Expr} {t : TA} {pos : Pos}
theorem pe_tupF {x1} (h : PA X es t) : PE X (.Tuple es x1 pos) (tTupF t) := by
  refine ⟨fun pins s σ H Q I hq => ?_⟩
  refine wpAny_Tuple_spliced (thn (h.run pos pins s σ H _ I hq) fun us s1 ⟨xs, H1, I1, r, z, q⟩ => ⟨by rw [← r.length]; exact z, ?_⟩)
  have hf : H1 s1.heap.objs.size = none := I1.hok.fresh (Nat.le_refl _)
  refine ⟨.ref s1.heap.objs.size, upd H1 s1.heap.objs.size (.frz { cls := .type "tuple", data := .seq us.toArray } (.tup xs)), I1.laid (t' := s1.toks) (fun b u e => Heap.get?_push_of_some _ e) (Nat.le_refl _) ?_, rfl, q _ _ hf rfl rfl⟩
  exact ⟨Heap.get?_push_size _ rfl, z, us, r, ⟨_, Heap.get?_push_size _ rfl, rfl, _, rfl⟩⟩
/-- t.index(i): t a tuple of numbers of which its own object is known -/
def tIdx (to : TE) (t : TA) : TE := fun σ H Q => to σ H fun x H1 => (∃ (a : Addr) (o : Obj) (ns : List Int), x = .ref a ∧ H1 a = some (.frz o (.tup (ns.map V.int))) ∧ o.cls = .type "tuple" ∧ o.dict = none ∧
  t σ H1 fun xs H2 => H2 a = some (.frz o (.tup (ns.map V.int))) ∧ ∃ i, xs = [.int i] ∧ i ∈ ns ∧ Q (.int (ns.idxOf i : Nat)) H2)
variable {o e : Expr} {to : TE} {apos cpos : Pos}
theorem pe_idx (ho : PE X o to) (ha : PA X (e :: es) t)
    (hbase : attributeBase o "index" X.env (eval o X.env) = eval o X.env := by rfl)
    (hfew : ((backTo cpos (starEach (e :: es) X.env)).all (fun x => !x.1) && (backToKw cpos (keywordEach [] X.env)).all (fun x => x.1.isSome)
      && decide ((e :: es).length + ([] : List Keyword).length + (if ([] : List Keyword).isEmpty then 0 else 1) < 30)) = true := by rfl)
    (hline : (apos.endLine == cpos.line) = true := by rfl) (hs : starEach (e :: es) X.env = (false, eval e X.env) :: starEach es X.env := by rfl) (hplain : (backTo cpos (starEach es X.env)).any (·.1) = false := by rfl) :
    PE X (.Call (.Attribute o "index" apos) (e :: es) [] cpos) (tIdx to t) := by
  refine ⟨fun pins s σ H Q I h => ?_⟩
  refine wpAny_Call_method_late hbase hfew hline rfl (thn (ho.run pins s σ H _ I h) fun v s1 ⟨x, H1, I1, r1, q1⟩ => ?_)
  obtain ⟨a, ob, ns, rfl, h1, h2, h3, q1⟩ := q1
  obtain rfl : v = .ref a := r1
  have e1 := (show ObjOk X.prog X.w H1 s1.heap a (.frz ob (.tup (ns.map V.int))) from I1.hok a _ h1).1
  refine ⟨"tuple", "tuple.index", PySem.F.plainAttrs_tuple, PySem.F.slot_tuple_index, PySem.F.type_tuple_index, ⟨ob, e1, h2⟩, fun b e2 => ?_, ?_⟩
  · cases e2
    exact ⟨ob, e1, h3⟩
  have hA := ha.run cpos pins s1 σ H1 _ I1 q1
  rw [hs] at hA ⊢
  refine Calls.callWith_builtin (by show (false || (backTo cpos (starEach es X.env)).any (·.1)) = false; rw [hplain] <;> rfl) (Calls.evalArgs_plain ?_)
  refine thn hA fun us s2 hq => ?_
  obtain ⟨vs, H2, I2, r2, g, i, rfl, hm, q2⟩ := hq
  obtain ⟨u, rfl, t2, rfl⟩ := vals1 r2
  obtain ⟨_, _, its, r, pl⟩ := (show ObjOk X.prog X.w H2 s2.heap a (.frz ob (.tup (ns.map V.int))) from I2.hok a _ g)
  exact SeqAt.tuple_index_ints (show s2.heap.IsTuple a its.toArray from pl) (r.ints) hm ⟨.int (ns.idxOf i : Nat), H2, I2.tok _, ⟨_, rfl⟩, q2⟩
end
section
variable {K : PySem.W.Frag} {δ : List Sl} {te : TE} {ar : TA} {ks : List Kd}
theorem ev_tupF (h : EvA ar δ ks) (hl : ks.length ≤ 1000) : EvD (tTupF ar) δ (kF ks) := fun H0 Hb H σ g Q q =>
  h H0 Hb H σ g _ fun Hb1 H1 vs a b c => ⟨by rw [c.len]; exact Nat.le_of_lt (small1000 hl), fun p o hp h1 h2 => q _ _ _ (a.trans (b.gr hp)) (b.alloc hp) ⟨p, o, vs, rfl, upd_same, h1, h2, c.up (same_upd (b.hb hp))⟩⟩
theorem ev_idx {ns : List Int} {i : Int} (h : EvD te δ (kF (ns.map kI))) (ha : EvA ar δ [kI i]) (hm : i ∈ ns) : EvD (tIdx te ar) δ (kI (ns.idxOf i : Nat)) := fun H0 Hb H σ g Q q =>
  h H0 Hb H σ g _ fun Hb1 H1 v a b ⟨p, o, xs, e1, e2, e3, e4, e5⟩ => by
    have := allK_ints e5
    subst this
    refine ⟨p, o, ns, e1, b.ex _ _ e2, e3, e4, ha H0 Hb1 H1 σ b _ fun Hb2 H2 vs a2 b2 c2 => ⟨b2.ex _ _ (a2.1 _ _ e2), i, ?_, hm, q _ _ _ (a.trans a2) b2 rfl⟩⟩
    cases c2 with
    | cons c t =>
      cases t
      rw [show _ = V.int i from c]
/-! ## a tuple of two numbers that the call has made -/
def kU (i j : Int) : Kd := ⟨fun v H => ∃ a, v = .ref a ∧ H a = some (.tup [.int i, .int j]), fun e ⟨a, h1, h2⟩ => ⟨a, h1, e _ _ h2⟩⟩
theorem kU_le {i j : Int} : (kU i j).le (kT K [kI i, kI j]) := fun _ _ ⟨a, h1, h2⟩ => ⟨a, _, h1, SqT.of h2, .cons rfl (.cons rfl .nil)⟩
theorem ev_tupU {i j : Int} (h : EvA ar δ [kI i, kI j]) : EvD (tTup ar) δ (kU i j) := fun H0 Hb H σ g Q q =>
  h H0 Hb H σ g _ fun Hb1 H1 vs a b c => ⟨by rw [c.len]; exact Nat.le_of_lt (small1000 (Nat.le_of_ble_eq_true rfl)), fun p hp => q _ _ _ (a.trans (b.gr hp)) (b.alloc hp) ⟨p, rfl, by
    rw [upd_same]
    cases c with
    | cons c1 t =>
      cases t with
      | cons c2 t =>
        cases t
        rw [show _ = V.int i from c1, show _ = V.int j from c2]⟩⟩
/-- the two numbers of a tracked pair -/
def prOf (H : Hp) (v : V) : Int × Int := match v with
  | .ref a => match H a with
    | some (.tup [.int i, .int j]) => (i, j)
    | _ => (0, 0)
  | _ => (0, 0)
theorem prOf_kU {H : Hp} {v : V} {i j : Int} (h : (kU i j).p v H) : prOf H v = (i, j) := by
  obtain ⟨a, rfl, h2⟩ := h
  simp only [prOf, h2]
abbrev lexLe (p q : Int × Int) : Prop := SrtO.lexB q p = false
def insL (p : Int × Int) : List (Int × Int) → List (Int × Int)
  | [] => [p]
  | q :: l => if SrtO.lexB q p = true then q :: insL p l else p :: q :: l
def isortL : List (Int × Int) → List (Int × Int)
  | [] => []
  | p :: l => insL p (isortL l)
theorem insL_perm (p : Int × Int) : ∀ l, (insL p l).Perm (p :: l)
  | [] => .refl _
  | q :: l => by
    unfold insL
    split
    · exact ((insL_perm p l).cons q).trans (.swap ..)
    · exact .refl _
theorem isortL_perm : ∀ l, (isortL l).Perm l
  | [] => .refl _
  | p :: l => (insL_perm p _).trans ((isortL_perm l).cons p)
theorem lexLe_trans {p q r : Int × Int} (h1 : lexLe p q) (h2 : lexLe q r) : lexLe p r := by
  have a := SrtO.lexB_no.mp h1
  have b := SrtO.lexB_no.mp h2
  refine SrtO.lexB_no.mpr ?_
  omega
theorem insL_sorted (p : Int × Int) : ∀ l, l.Pairwise lexLe → (insL p l).Pairwise lexLe
  | [], _ => by unfold insL; exact List.pairwise_singleton _ _
  | q :: l, h => by
    unfold insL
    have h1 := List.pairwise_cons.mp h
    split
    · rename_i c
      refine List.pairwise_cons.mpr ⟨fun x hx => ?_, insL_sorted p l h1.2⟩
      rcases List.mem_cons.mp ((insL_perm p l).mem_iff.mp hx) with rfl | hx
      · have := SrtO.lexB_iff.mp c
        exact SrtO.lexB_no.mpr (by omega)
      · exact h1.1 x hx
    · rename_i c
      have c' : lexLe p q := by
        cases hh : SrtO.lexB q p with
        | true => exact absurd hh c
        | false => exact hh
      refine List.pairwise_cons.mpr ⟨fun x hx => ?_, h⟩
      rcases List.mem_cons.mp hx with rfl | hx
      · exact c'
      · exact lexLe_trans c' (h1.1 x hx)
theorem isortL_sorted : ∀ l, (isortL l).Pairwise lexLe
  | [] => .nil
  | p :: l => insL_sorted p _ (isortL_sorted l)
theorem lex_uniq {l m : List (Int × Int)} (hp : l.Perm m) (hl : l.Pairwise lexLe) (hm : m.Pairwise lexLe) : l = m :=
  List.Perm.eq_of_pairwise (le := lexLe) (fun a b _ _ h1 h2 => by
    have a1 := SrtO.lexB_no.mp h1
    have a2 := SrtO.lexB_no.mp h2
    ext <;> omega) hl hm hp
/-- sorted of tracked pairs -/
theorem can_sortPO {ps : List (Int × Int)} : CaN (rSortedPO K) [kL (ps.map fun p => kU p.1 p.2)] ((isortL ps).map fun p => kU p.1 p.2) := fun Hb H vs Q ex a q => by
  cases a with
  | cons a t =>
    cases t
    obtain ⟨p, xs, e1, e2, e3⟩ := a
    subst e1
    have hx : ∀ (ps : List (Int × Int)) (xs : List V), AllK Hb xs (ps.map fun p => kU p.1 p.2) → xs.map (prOf Hb) = ps ∧ ∀ x ∈ xs, (kU (prOf Hb x).1 (prOf Hb x).2).p x Hb := by
      intro ps
      induction ps with
      | nil => intro xs h; cases h; exact ⟨rfl, fun _ z => nomatch z⟩
      | cons p ps ih =>
        intro xs h
        cases h with
        | cons h t =>
          obtain ⟨i1, i2⟩ := ih _ t
          have hp := prOf_kU h
          refine ⟨by rw [List.map_cons, i1, hp], fun x hx => ?_⟩
          rcases List.mem_cons.mp hx with rfl | hx
          · rw [hp]; exact h
          · exact i2 x hx
    obtain ⟨h1, h2⟩ := hx ps xs e3
    refine ⟨p, xs, prOf Hb, rfl, SqL.of (ex _ _ e2), fun x hx => ?_, fun ys p' hs hb hn => ?_⟩
    · obtain ⟨a, r1, r2⟩ := h2 x hx
      exact ⟨a, r1, ex _ _ r2⟩
    · refine q p' ys hn ?_
      have hy : ys.map (prOf Hb) = isortL ps := by
        refine lex_uniq ((hb.perm.map _).trans (h1 ▸ (isortL_perm ps).symm)) ?_ (isortL_sorted ps)
        refine List.pairwise_map.mpr ?_
        exact hs
      rw [← hy]
      have hall : ∀ y ∈ ys, (kU (prOf Hb y).1 (prOf Hb y).2).p y Hb := fun y hy => h2 y (hb.perm.mem_iff.mp hy)
      clear hy hs hb
      induction ys with
      | nil => exact .nil
      | cons y ys ih => exact .cons (hall y List.mem_cons_self) (ih fun z hz => hall z (List.mem_cons_of_mem _ hz))
/-- sorted of two numbers -/
theorem can_sort2 {i j : Int} : CaN (rSortedI K) [kL [kI i, kI j]] [kI (if i ≤ j then i else j), kI (if i ≤ j then j else i)] :=
  can_sortI (ns := [i, j]) (ms := [if i ≤ j then i else j, if i ≤ j then j else i]) fun l hp hs => by
    refine List.Perm.eq_of_pairwise (le := (· ≤ ·)) (fun a b _ _ h1 h2 => by omega) hs ?_ (hp.trans ?_)
    · split <;> simp <;> omega
    · split
      · exact .refl _
      · exact .swap ..
theorem cau_tupleN {ks : List Kd} : CaU (rTupleK K) [kL ks] ks := cau_tuple
end
theorem kds_refl : ∀ ks : List Kd, Paired Kd.le ks ks
  | [] => .nil
  | k :: ks => .cons (Kd.le.refl k) (kds_refl ks)
theorem sl_refl : ∀ s : Sl, Sl.le s s
  | .no => trivial
  | .sh k => Kd.le.refl k
  | .ow ks => kds_refl ks
end Dx

namespace Dx
open PySem PySem.Spec PyProof.Rows L2
/-! ## own classes -/
/-- a class whose __init__ is object's -/
structure MkO (K : PySem.W.Frag) (C : Addr) : Prop where
  makes : PySem.W.makesIn K C = true
  init : PySem.W.findIn K (.ref C) "__init__" = some (some (.builtin "object.__init__"))
  kp : PySem.W.keepIn K (.ref C) = true
/-- what isinstance and attributes ask of the class -/
structure ClsI (K : PySem.W.Frag) (C : Addr) : Prop where
  c : Cls K C
  a : PySem.W.findIn K (.ref C) "__class__" = some (some (.builtin "object.__class__"))
  n : PySem.W.specialIn K (.builtin "object.__class__") "__get__" = some (some (.builtin "getset_descriptor.__get__"))
  t : PySem.W.takesIn K (.builtin "object.__class__") = some true
  m : PySem.W.mroIn K C (.type "object") = some true
def tNew (C : Addr) : TE := fun _ H Q => ∀ x dx, H x = none → H dx = none → dx ≠ x → Q (.ref x) (upd (upd H dx (.own x)) x (.ins C dx []))
section
variable {X : Cx} {C : Addr} {x : Str} {p pos : Pos}
theorem run_makeO {pins : List (Addr × Obj)} {σ : L2.St} {H : Hp} {s : Shared} {Q : VK} (M : MkO X.K C) (I : Inv X pins σ H s)
    (h : ∀ x dx, H x = none → H dx = none → dx ≠ x → Q (.ref x) (upd (upd H dx (.own x)) x (.ins C dx []))) : wpAny (model X.prog X.w) X.A (call (.ref C) []) (EP X pins σ Q) X.xe s := by
  have hq := h (s.heap.objs.size + 1) s.heap.objs.size (I.hok.fresh (Nat.le_succ _)) (I.hok.fresh (Nat.le_refl _)) (Nat.ne_of_lt (Nat.lt_succ_self _))
  have I2 := Inv.made (C := C) I
  refine wpAny_call (make_map0 I.kIn M.makes M.init (fun self => PySem.W.Looks.of_pure (PySem.W.oi_bind self)) ?_)
  have e2 : ((s.heap.push PySem.W.emptyDict).push (PySem.W.instObj C s.heap.objs.size)).get? (s.heap.objs.size + 1) = some (PySem.W.instObj C s.heap.objs.size) := by
    have e := Heap.get?_push_size (s.heap.push PySem.W.emptyDict) (o := PySem.W.instObj C s.heap.objs.size) rfl
    rw [Heap.size_push] at e
    exact e
  have top := (PySem.W.makes_of (M := model X.prog X.w) I.kIn M.makes).top.keeps (h' := (s.heap.push PySem.W.emptyDict).push (PySem.W.instObj C s.heap.objs.size)) fun b o e => Heap.get?_push_of_some _ (Heap.get?_push_of_some _ e)
  have ty : PySem.W.Looks (model X.prog X.w) ((s.heap.push PySem.W.emptyDict).push (PySem.W.instObj C s.heap.objs.size)) (typeOf (.ref (s.heap.objs.size + 1))) (.ref C) := (PySem.W.Looks.ld e2).andThen .now
  have inst : PySem.W.Looks (model X.prog X.w) ((s.heap.push PySem.W.emptyDict).push (PySem.W.instObj C s.heap.objs.size)) (isInstance (.ref (s.heap.objs.size + 1)) (.type "object")) true := ty.andThen top
  refine PySem.codeAny_call_builtin PySem.W.oi_plain PySem.W.entry_oi (@PySem.W.check_slot (model X.prog X.w) _ _ _ "object.__init__" "object" "__init__" (.ref (s.heap.objs.size + 1)) [] [] _ PySem.W.oi_kind PySem.W.oi_split inst (PySem.W.oi_args _) ?_)
  rw [PySem.W.oi_run]
  exact wpAny_pure (And.intro rfl ⟨.ref (s.heap.objs.size + 1), _, I2, rfl, hq⟩)
theorem pe_makeO (M : MkO X.K C) (hg : Gl X x) (hm : X.mg x = some (.ref C)) (hdb : (x == ("__debug__" : Str)) = false := by decide) : PE X (.Call (.Name x p) [] [] pos) (tNew C) :=
  ⟨fun pins s σ H Q I h => wpAny_Call_Name_kw (ld_glob I hg hm (PySem.W.callWith_K0 I.kIn M.kp (run_makeO M I h)) hdb)⟩
end
section
variable {K : PySem.W.Frag} {δ : List Sl} {ar : TA} {te : TE} {C : Addr} {v : V} {f : Str} {fs : List (Str × V)}
theorem upd_twice {H : Hp} {x : Addr} {o o' : HO} : upd (upd H x o) x o' = upd H x o' := funext fun b => by
  by_cases hb : b = x
  · subst hb; rw [upd_same, upd_same]
  · rw [upd_ne hb, upd_ne hb, upd_ne hb]
/-- two new objects: the dict's mark, the instance -/
theorem upd_own {H : Hp} {x dx : Addr} {o o' : HO} (hx : H x = none) (hd : H dx = none) (ne : dx ≠ x) : (upd H dx o) x = none := by rw [upd_ne (Ne.symm ne)]; exact hx
theorem ev_new : EvD (tNew C) δ (kO C []) := fun H0 Hb H σ g Q q x dx hx hd ne => by
  have hx2 := upd_own (o := .own x) (o' := .own x) hx hd ne
  exact q _ _ _ ((g.gr hd).trans ((g.alloc (o := .own x) hd).gr (o := .ins C dx []) hx2)) ((g.alloc (o := .own x) hd).alloc (o := .ins C dx []) hx2) ⟨x, dx, rfl, upd_same⟩
/-- __init__ that stores its one argument in the attribute f -/
def spInit (C : Addr) (f : Str) : Sp := fun vs H Q _ => ∃ a dx v, vs = [.ref a, v] ∧ H a = some (.ins C dx []) ∧ Q .non (upd H a (.ins C dx [(f, v)]))
theorem ev_make {E : XK} (h : EvA ar δ [kE v]) : EvD (tMake C (spInit C f) [] E ar) δ (kO C [(f, v)]) := fun H0 Hb H σ g Q q => h H0 Hb H σ g _ fun Hb1 H1 vs a b c x dx hx hd ne => by
  cases c with
  | cons c t =>
    cases t
    have c : _ = v := c
    subst c
    refine ⟨x, dx, _, rfl, upd_same, rfl, ?_⟩
    have hx2 := upd_own (o := .own x) (o' := .own x) hx hd ne
    rw [upd_twice]
    exact q _ _ _ (a.trans ((b.gr hd).trans ((b.alloc (o := .own x) hd).gr (o := .ins C dx [(f, _)]) hx2))) ((b.alloc (o := .own x) hd).alloc (o := .ins C dx [(f, _)]) hx2) ⟨x, dx, rfl, upd_same⟩
/-- isinstance of an instance of an own class -/
theorem ca_isiO {D : Addr} {b : Bool} (c : ClsI K C) (k : PySem.W.kitOne K (.ref C) (.ref D) = some b) : Ca (rIsi K) [kO C fs, kE (.ref D)] (kB b) := fun Hb H vs Q ex h q => by
  cases h with
  | cons h t =>
    cases t with
    | cons h2 t =>
      cases t
      obtain ⟨a, dx, e1, e2⟩ := h
      subst e1
      have h2 : _ = V.ref D := h2
      subst h2
      exact ⟨_, _, _, _, b, rfl, .own D, .base (.ins (ex _ _ e2) c.c c.a c.n c.t c.m), k, q _ rfl⟩
/-- a, b = a list -/
theorem b_lst {gs : TGs} {n : Nat} {ws : List Nat} {ks : List Kd} {δ1 : List Sl} (h : BndS gs ws ks δ δ1) (hn : ks.length = n) : Bnd (gLst K n gs) ws (kL ks) δ δ1 := ⟨h.1, fun H0 Hb H σ x s ⟨a, xs, e1, e2, e3⟩ Q q =>
  ⟨a, xs, e1, SqL.of (s.ex _ _ e2), e3.len.trans hn, h.2 H0 Hb H σ xs s e3 Q q⟩⟩
theorem cut_but1 (xs : List V) (x : V) : cutV (xs ++ [x]) none (some (-1)) = xs := by
  unfold cutV
  have e : HT.sIx (xs ++ [x]).length (xs ++ [x]).length (some (-1)) = xs.length := by
    unfold HT.sIx
    rw [List.length_append, List.length_singleton]
    simp
    omega
  rw [e, HT.sIx_none, List.drop_zero, Nat.sub_zero, List.take_left']
  rfl
/-- xs[:-1] -/
theorem en_but1 {k : Kd} {ks : List Kd} {tl th : TO} (h : EvD te δ (kL (ks ++ [k]))) (h1 : EvO tl δ none) (h2 : EvO th δ (some (-1))) : EvN (tSl (rSlL K) te tl th) δ ks := fun H0 Hb H σ g Q q =>
  h H0 Hb H σ g _ fun Hb1 H1 v a e ⟨p, xs, e1, e2, e3⟩ => h1 H0 Hb1 H1 σ e _ fun Hb2 H2 a2 g2 => h2 H0 Hb2 H2 σ g2 _ fun Hb3 H3 a3 g3 => by
    refine ⟨p, xs, e1, SqL.of (g3.ex _ _ ((a2.trans a3).1 _ _ e2)), fun l hl => ?_⟩
    have e4 := e3.up (a2.trans a3).1
    have hl2 := e4.len
    rw [List.length_append, List.length_singleton] at hl2
    obtain ⟨ys, y, rfl⟩ : ∃ ys y, xs = ys ++ [y] := by
      cases hx : xs.reverse with
      | nil =>
        have : xs = [] := List.reverse_eq_nil_iff.mp hx
        subst this
        simp at hl2
      | cons y ys => exact ⟨ys.reverse, y, by rw [← List.reverse_reverse xs, hx, List.reverse_cons]⟩
    rw [cut_but1]
    rw [List.length_append, List.length_singleton] at hl2
    have e5 := allK_take ys.length e4
    rw [List.take_left' rfl, List.take_left' (by omega)] at e5
    exact q Hb3 _ l _ ((a.trans a2).trans a3) (g3.drop hl) (g3.hb hl) (g3.h0 hl) upd_same e5 (g3.notOwn hl)
end
end Dx

namespace Dx
open PySem PySem.Spec PyProof.Rows L2
/-! ## own classes in the text: names, methods, makers -/
structure OwnC (K : PySem.W.Frag) (mg : Str → Option Value) (x : Str) (C : Addr) : Prop where
  gC : mg x = some (.ref C)
  i : ClsI K C
/-- a method of the class at C -/
structure DefM (K : PySem.W.Frag) (C : Addr) (m qual : Str) (st : Stmt) (ps : List Str) : Prop where
  ex : ∃ (f : Addr) (fd : FuncData), Fun K m qual st f fd ∧ Meth K C m f ∧ Binds K fd ps []
structure MethD (P : Program) (w : World) (K : PySem.W.Frag) (mg : Str → Option Value) (base : Heap) (k : Nat) (C : Addr) (m : Str) (sp : Sp) : Prop where
  ex : ∃ (f : Addr) (fd : FuncData) (ps : List Str), FnOk P w K mg base (L2N.CX P w) k f fd ps sp ∧ Meth K C m f ∧ Binds K fd ps []
structure DefI (K : PySem.W.Frag) (C : Addr) (qual : Str) (st : Stmt) (ps : List Str) : Prop where
  ex : ∃ (f : Addr) (fd : FuncData), Fun K "__init__" qual st f fd ∧ Mk K C f ∧ Binds K fd ps []
structure MakeD (P : Program) (w : World) (K : PySem.W.Frag) (mg : Str → Option Value) (base : Heap) (k : Nat) (C : Addr) (sp : Sp) : Prop where
  ex : ∃ (f : Addr) (fd : FuncData) (ps : List Str), FnOk P w K mg base (L2N.CX P w) k f fd ps sp ∧ Mk K C f ∧ Binds K fd ps []
section
variable {X : Cx} {j k : Nat} {x m : Str} {sp : Sp} {e o : Expr} {es : List Expr} {ta : TE} {t : TA} {p pos apos : Pos} {C : Addr}
theorem pe_mkD (c : MakeD X.prog X.w X.K X.mg X.base k C sp) (hr : Room j X.A) (hk : k + 1 ≤ j) (hg : Gl X x) (hm : X.mg x = some (.ref C)) (ha : PA X (e :: es) t) (hdb : (x == ("__debug__" : Str)) = false := by decide)
    (he : starEach (e :: es) X.env = (false, eval e X.env) :: starEach es X.env := by rfl) (hpl : (backTo pos (starEach es X.env)).any (·.1) = false := by rfl) : PE X (.Call (.Name x p) (e :: es) [] pos) (tMake C sp [] E0 t) := by
  obtain ⟨f, fd, ps, F, M, hb⟩ := c.ex
  exact pe_make M F (hr.mono hk) hg hm hb .nil passN ha hdb he hpl
theorem pe_md {pl : Sem Bool} (c : MethD X.prog X.w X.K X.mg X.base k C m sp) (cl : Cls X.K C) (hr : Room j X.A) (hk : k ≤ j) (he : PE X o ta) (ha : PA X (e :: es) t)
    (hst : starEach (e :: es) X.env = (false, eval e X.env) :: starEach es X.env := by rfl) (hpl : (backTo pos (starEach es X.env)).any (·.1) = false := by rfl)
    (ht : eval (.Call (.Attribute o m apos) (e :: es) [] pos) X.env = (do
      let ov ← eval o X.env
      standAt apos.atName
      let (f, first) ← holding [ov] (getMethod ov m pl)
      callWith pos f first (backTo pos (starEach (e :: es) X.env)) (backToKw pos (keywordEach [] X.env))) := by rfl) :
    PE X (.Call (.Attribute o m apos) (e :: es) [] pos) (tMeth C m sp [] E0 ta t) := by
  obtain ⟨f, fd, ps, F, M, hb⟩ := c.ex
  exact pe_meth he cl M F (hr.mono hk) hb .nil passN ha hst hpl ht
end
section
variable {P : Program} {w : World} {K : PySem.W.Frag} {mg : Str → Option Value} {base : Heap} {C : Addr} {m qual : Str} {st : Stmt}
theorem methD_of {N ps : List Str} {k : Nat} {A : List Kd → Rs → Prop} (D : DefM K C m qual st ps) (S : FnScope N ps (defScope st)) (hl : ∀ ks r, A ks r → ks.length = ps.length)
    (body : ∀ (f : Addr) (cdv : Value) (Ar : Around) (outer : List Env) (s : Shared) (H : Hp) (E : XK), Room k (Ar.deeper (envOfC qual (defScope st) s.heap.objs.size f cdv)) →
      ∃ t, PSs (cxOf (L2N.CX P w) P w K mg base N qual (defScope st) f cdv Ar outer s H E) (defBody st) t ∧ ∀ ks r, A ks r → DoesR E t (argsδ ks N.length) r) :
    MethD P w K mg base (k + 1) C m (spR A) := by
  obtain ⟨f, fd, F, M, hb⟩ := D.ex
  exact ⟨f, fd, ps, fn_do F S hl (body f), M, hb⟩
/-- def __init__(self, p): self.f = p -/
theorem makeD_of {p f : Str} (D : DefI K C qual st ["self", p]) (S : FnScope ["self", p] ["self", p] (defScope st)) (cl : Cls K C) (na : NoAttr K C f)
    (body : ∀ (g : Addr) (cdv : Value) (Ar : Around) (outer : List Env) (s : Shared) (H : Hp) (E : XK), PSs (cxOf (L2N.CX P w) P w K mg base ["self", p] qual (defScope st) g cdv Ar outer s H E) (defBody st) (sFld K (tVar 0) (tVar 1) f)) : MakeD P w K mg base 1 C (spInit C f) := by
  obtain ⟨g, fd, F, M, hb⟩ := D.ex
  refine ⟨g, fd, ["self", p], funOkN F S (fun vs H Q E h => ?_) (fun cdv Ar outer s H vs Q E hr h => ⟨_, body g cdv Ar outer s H E, ?_⟩), M, hb⟩
  · obtain ⟨a, dx, v, rfl, _⟩ := h
    rfl
  · obtain ⟨a, dx, v, rfl, h1, h2⟩ := h
    exact ⟨v, rfl, .ref a, rfl, a, C, dx, [], rfl, h1, cl, na, Nat.le_of_ble_eq_true rfl, h2⟩
theorem defM_mk {ps : List Str} {f : Addr} {oc : Value} {od an : Option Addr} {osl : Array (Option Value)} {kV doc pm cdv ct : Value}
    (hb : ∀ (kV doc pm : Value) (an : Option Addr) (cdv ct : Value) (us : List Value), us.length = ps.length → bindArgs (PySem.W.fnOf m qual (defArgs st) (defBody st) (defScope st) .none kV doc pm an cdv ct) ⟨us, []⟩ = pure (ps.zip us))
    (a : PySem.W.findIn K (.ref C) m = some (some (.ref f))) (l : K.lookup f = some ⟨oc, od, .func (PySem.W.fnOf m qual (defArgs st) (defBody st) (defScope st) .none kV doc pm an cdv ct), osl⟩) (c : PySem.W.codeIn K cdv qual = true) (k : PySem.W.keepIn K (.ref f) = true) (i : PySem.W.isFn K (.ref f) = true) :
    DefM K C m qual st ps := by
  have F := fun_mk (st := st) l c k
  exact ⟨f, _, F, ⟨a, i, k⟩, F.binds hb⟩
theorem defI_mk {ps : List Str} {f : Addr} {oc : Value} {od an : Option Addr} {osl : Array (Option Value)} {kV doc pm cdv ct : Value}
    (hb : ∀ (kV doc pm : Value) (an : Option Addr) (cdv ct : Value) (us : List Value), us.length = ps.length → bindArgs (PySem.W.fnOf "__init__" qual (defArgs st) (defBody st) (defScope st) .none kV doc pm an cdv ct) ⟨us, []⟩ = pure (ps.zip us))
    (mk : PySem.W.makesIn K C = true) (a : PySem.W.findIn K (.ref C) "__init__" = some (some (.ref f))) (l : K.lookup f = some ⟨oc, od, .func (PySem.W.fnOf "__init__" qual (defArgs st) (defBody st) (defScope st) .none kV doc pm an cdv ct), osl⟩) (c : PySem.W.codeIn K cdv qual = true) (k : PySem.W.keepIn K (.ref f) = true) (i : PySem.W.isFn K (.ref f) = true) (kC : PySem.W.keepIn K (.ref C) = true) :
    DefI K C qual st ps := by
  have F := fun_mk (st := st) l c k
  exact ⟨f, _, F, ⟨mk, a, i, kC⟩, F.binds hb⟩
end
end Dx

namespace Dx
open PySem PySem.Spec PyProof.Rows L2
/-! ## dicts whose keys are tuples -/
abbrev DK := List (List Key × V)
abbrev kK (k : Key) : Kd := kE (kV k)
/-- a dict that stands still -/
def kD (kvs : DK) : Kd := ⟨fun v H => ∃ (d : Addr) (od : Obj), v = .ref d ∧ H d = some (.frz od (.dT kvs)), fun e ⟨d, od, h1, h2⟩ => ⟨d, od, h1, e _ _ h2⟩⟩
theorem nt_dT {kvs : DK} : NT (some (.dT kvs)) := ⟨fun z => (nomatch z), fun _ z => (nomatch z)⟩
theorem allK_kK {H : Hp} : ∀ k : List Key, AllK H (k.map kV) (k.map kK)
  | [] => .nil
  | _ :: r => .cons rfl (allK_kK r)
theorem allK_kK_eq {H : Hp} : ∀ {k : List Key} {xs : List V}, AllK H xs (k.map kK) → xs = k.map kV
  | [], _, h => by cases h; rfl
  | a :: r, _, h => by
    cases h with
    | cons h t =>
      have h : _ = kV a := h
      rw [h, allK_kK_eq t]
      rfl
/-- e, its dict frozen from here on -/
def tFrz (t : TE) : TE := fun σ H Q => t σ H fun x H1 => ∃ d u, x = .ref d ∧ H1 d = some u ∧ Mut (some u) ∧ ∀ od, Q x (upd H1 d (.frz od u))
/-- {k: v}, k a tuple -/
def tDisp1 (tk tv : TE) : TE := fun σ H Q => ∀ p, H p = none → tk σ (upd H p (.dT [])) fun y H1 => tv σ H1 fun v H2 => H2 p = some (.dT []) ∧ ∃ (b : Addr) (ks : List Key), y = .ref b ∧ H2 b = some (.tup (ks.map kV)) ∧ Q (.ref p) (upd H2 p (.dT [(ks, v)]))
section
variable {X : Cx} {k v e : Expr} {tk tv t : TE} {pos : Pos}
theorem pe_frz (h : PE X e t) : PE X e (tFrz t) := by
  refine ⟨fun pins s σ H Q I hw => thn (h.run pins s σ H _ I hw) fun u s1 ⟨x, H1, I1, r, d, w, ex, hd, mu, q⟩ => ?_⟩
  obtain ⟨od, I2⟩ := I1.lock hd mu
  exact ⟨x, _, I2, r, q od⟩
theorem pe_disp1 (hu : X.A.units + 1 < cLine) (hk : PE X k tk) (hv : PE X v tv) : PE X (.Dict [some k] [v] pos) (tDisp1 tk tv) := by
  refine ⟨fun pins s σ H Q I q => ?_⟩
  have hn := I.hok.fresh (Nat.le_refl s.heap.objs.size)
  have I1 := I.laid (a := s.heap.objs.size) (o := .dT []) (h' := s.heap.push { cls := .type "dict", data := .dict #[] }) (t' := s.toks) (fun _ _ q => Heap.get?_push_of_some _ q) (Nat.le_refl _) (dt_empty s.heap I.big)
  rw [arm_eval_Dict, zip_pairTrees [some k] [v] X.env pos rfl rfl, dictDisplay_pairs (pairTrees [some k] [v] X.env pos) (by intro z; cases z) (Nat.le_of_ble_eq_true rfl)]
  refine wpAny_bind (wpAny_standAt (wpAny_bind (wpAny_subDictH (knd := tupleKind (mixKind X.prog X.w)) (Nat.lt_of_succ_lt hu) (Nat.le_of_ble_eq_true rfl) ?_)))
  refine pairTrees_cons_walk (thn (hk.run pins _ σ _ _ I1 (q _ hn)) fun kv s1 ⟨y, H1, I2, ry, q1⟩ => thn (hv.run pins s1 σ H1 _ I2 q1) fun vv s2 ⟨x, H2, I3, rx, e, b, ks, ey, eb, q2⟩ => pairTrees_nil_walk ?_)
  subst ey
  obtain rfl : kv = Value.ref b := ry
  obtain ⟨z, hd, xs, rel, dd⟩ := dt_of I3.hok e
  cases rel
  refine ⟨[(ks, b, vv)], ⟨rfl, rfl, key_of I3.hok eb, trivial⟩, dd, fun h' tk dd' hs => wpAny_pure ⟨.ref s.heap.objs.size, upd H2 s.heap.objs.size (.dT [(ks, x)]), ?_, rfl, q2⟩⟩
  obtain ⟨qo, es, ep, hq, h2, h3, h4, _, h5⟩ := dd'
  have ok : ObjOk X.prog X.w (upd H2 s.heap.objs.size (.dT [(ks, x)])) h' s.heap.objs.size (.dT [(ks, x)]) := by
    refine ⟨?_, hd, [(ks, b, vv)], .cons ⟨rfl, ?_, rx⟩ .nil, qo, es, ep, hq, h2, h3, h4, h5⟩
    · rw [sizeLine_eq]; show 1 ≤ 16777216; decide
    · show upd H2 _ _ b = _
      rw [upd_ne (ne_of eb e (fun z => nomatch z))]
      exact eb
  exact d_write I3 (by rw [e]; exact True.intro) hs ⟨qo, hq⟩ ok
end
end Dx

namespace Dx
open PySem PySem.Spec PyProof.Rows L2
/-! ## a dict of a def's own, in the slot i; reading one that stands still -/
section
variable {K : PySem.W.Frag} {δ δ1 δ2 δ' : List Sl} {te ta tb ty td : TE} {ar : TA} {k : List Key} {ks ys : List Kd} {kvs kvs1 kvs2 : DK} {v : V} {i j l : Nat} {t u : TS} {g : TG} {wi : TI} {c : TT}
theorem ev_tupTr (h : EvA ar δ ks) (hl : ks.length ≤ 1000) : EvD (tTup ar) δ (kTr ks) := fun H0 Hb H σ g Q q =>
  h H0 Hb H σ g _ fun Hb1 H1 vs a b c => ⟨by rw [c.len]; exact Nat.le_of_lt (small1000 hl), fun p hp => q _ _ _ (a.trans (b.gr hp)) (b.alloc hp) ⟨p, vs, rfl, upd_same, c.up (same_upd (b.hb hp))⟩⟩
theorem ev_cbUTr {r : List V → Hp → VK → Prop} {ls : List Kd} (h : EvA ar δ ks) (o : CaU r ks ls) : EvD (tCB r ar) δ (kTr ls) := fun H0 Hb H σ g Q q =>
  h H0 Hb H σ g _ fun Hb1 H1 vs a b c => o Hb1 H1 vs Q b.ex c fun p xs hp hx => q _ _ _ (a.trans (b.gr hp)) (b.alloc hp) ⟨p, xs, rfl, upd_same, hx.up (same_upd (b.hb hp))⟩
theorem key_tr {H : Hp} {b : V} (h : (kTr (k.map kK)).p b H) : ∃ a, b = .ref a ∧ H a = some (.tup (k.map kV)) := by
  obtain ⟨a, xs, h1, h2, h3⟩ := h
  rw [allK_kK_eq h3] at h2
  exact ⟨a, h1, h2⟩
/-- k in d -/
theorem ev_din (h1 : EvD ty δ (kTr (k.map kK))) (h2 : EvD td δ (kD kvs)) : EvD (tDIn ty td) δ (kB (valV kvs k).isSome) := fun H0 Hb H σ g Q q =>
  h1 H0 Hb H σ g _ fun Hb1 H1 y a b e => h2 H0 Hb1 H1 σ b _ fun Hb2 H2 x a2 b2 ⟨d, od, e1, e2⟩ => by
    obtain ⟨n, e3, e4⟩ := key_tr ((kTr (k.map kK)).up a2.1 e)
    exact ⟨d, valV kvs k, e1, .inr ⟨kvs, k, n, .inr ⟨od, b2.ex _ _ e2⟩, e3, b2.ex _ _ e4, rfl⟩, q _ _ _ (a.trans a2) b2 rfl⟩
/-- d[k] -/
theorem ev_dget (h1 : EvD td δ (kD kvs)) (h2 : EvD ty δ (kTr (k.map kK))) (hv : valV kvs k = some v) : EvD (tDGet td ty) δ (kE v) := fun H0 Hb H σ g Q q =>
  h1 H0 Hb H σ g _ fun Hb1 H1 x a b e => h2 H0 Hb1 H1 σ b _ fun Hb2 H2 y a2 b2 e2 => by
    obtain ⟨d, od, e1, e0⟩ := (kD kvs).up a2.1 e
    obtain ⟨n, e3, e4⟩ := key_tr e2
    exact ⟨d, v, e1, .inr ⟨kvs, k, n, .inr ⟨od, b2.ex _ _ e0⟩, e3, b2.ex _ _ e4, hv.symm⟩, q _ _ _ (a.trans a2) b2 rfl⟩
/-- for k in d -/
theorem src_keys (h : EvD te δ (kD kvs)) : Src (iKeys te) δ (kvs.map fun kv => kTr (kv.1.map kK)) := fun H0 Hb H σ s R q => h H0 Hb H σ s _ fun Hb1 H1 x a e ⟨d, od, e1, e2⟩ => by
  have e3 := e.ex _ _ e2
  refine ⟨d, od, e1, .inr ⟨kvs, e3, q Hb1 H1 _ a e ⟨fun n H hn s => ?_, fun H s => ?_, fun n H x H' kd hk s y => ?_⟩⟩⟩
  · exact ⟨s _ _ e2, by rw [List.length_map] at hn; exact hn⟩
  · exact ⟨s _ _ e2, by rw [List.length_map]; exact Nat.le_refl _⟩
  · obtain ⟨y1, kk, vv, qq, y2, y3, y4⟩ := y
    rw [List.getElem?_map, y2] at hk
    cases hk
    exact .inr (.inr ⟨qq, kk.map kV, kk.map kK, y3, y4, y1, allK_kK kk, Kd.le.refl _⟩)
/-! ### statements that change it -/
abbrev dAt (δ : List Sl) (i : Nat) (d : Addr) : List Sl := δ.set i (.sh (kE (.ref d)))
def DoesD (i : Nat) (t : TS) (δ : List Sl) (kvs : DK) (δ' : List Sl) (kvs' : DK) : Prop := ∀ (H0 Hb H : Hp) (σ : L2.St) (D : Ends) (d : Addr), Sg H0 Hb H σ (dAt δ i d) → H d = some (.dT kvs) → Hb d = none → H0 d = none →
  (∀ Hb' H' σ', Gr H0 Hb Hb' → Sg H0 Hb' H' σ' (dAt δ' i d) → H' d = some (.dT kvs') → Hb' d = none → D.nx σ' H') → t D σ H
def DoesDR (i : Nat) (t : TS) (δ : List Sl) (kvs : DK) (k : Kd) : Prop := ∀ (H0 Hb H : Hp) (σ : L2.St) (D : Ends) (d : Addr), Sg H0 Hb H σ (dAt δ i d) → H d = some (.dT kvs) → Hb d = none → H0 d = none →
  (∀ Hb' H' v, Gr H0 Hb Hb' → Same Hb' H' → Same H0 H' → k.p v Hb' → D.rt v H') → t D σ H
theorem Sg.noOwnD {H0 Hb H : Hp} {σ : L2.St} {d : Addr} (s : Sg H0 Hb H σ δ) (hd : H d = some (.dT kvs)) : ¬ Owns σ δ d := by
  rintro ⟨j, ls, e1, e2⟩
  obtain ⟨p, xs, h1, _, _, h4, _⟩ := s.ow j ls e1
  rw [h1] at e2
  cases e2
  rw [hd] at h4
  cases h4
/-- what does not touch the dict -/
theorem dd_frame (h : ∀ d, Does t (dAt δ i d) (.nx (dAt δ' i d))) : DoesD i t δ kvs δ' kvs := fun H0 Hb H σ D d s hd hb h0 tk => by
  have s1 := s.frame hd h0 (s.noOwnD hd)
  refine h d _ Hb H σ D s1 fun Hb' H' σ' a s2 => ?_
  exact tk Hb' H' σ' (a.mono (same_upd h0)) (s2.unframe h0) (s2.fr d _ upd_same) (a.2 d (by rw [upd_same]; exact nt_dT) hb)
theorem dd_seq (h1 : DoesD i t δ kvs δ1 kvs1) (h2 : DoesD i u δ1 kvs1 δ2 kvs2) : DoesD i (tSeq t u) δ kvs δ2 kvs2 := fun H0 Hb H σ D d s hd hb h0 tk =>
  h1 H0 Hb H σ _ d s hd hb h0 fun Hb' H' σ' a s1 hd1 hb1 => h2 H0 Hb' H' σ' D d s1 hd1 hb1 h0 fun Hb2 H2 σ2 a2 => tk Hb2 H2 σ2 (a.trans a2)
theorem dd_seqR {kd : Kd} (h1 : DoesD i t δ kvs δ1 kvs1) (h2 : DoesDR i u δ1 kvs1 kd) : DoesDR i (tSeq t u) δ kvs kd := fun H0 Hb H σ D d s hd hb h0 tk =>
  h1 H0 Hb H σ _ d s hd hb h0 fun Hb' H' σ' a s1 hd1 hb1 => h2 H0 Hb' H' σ' D d s1 hd1 hb1 h0 fun Hb2 H2 v a2 => tk Hb2 H2 v (a.trans a2)
theorem dd_weak (h : DoesD i t δ kvs δ1 kvs1) (w : ∀ d, Paired Sl.le (dAt δ1 i d) (dAt δ2 i d)) : DoesD i t δ kvs δ2 kvs1 := fun H0 Hb H σ D d s hd hb h0 tk =>
  h H0 Hb H σ D d s hd hb h0 fun Hb' H' σ' a s1 => tk Hb' H' σ' a (s1.weak (w d))
theorem dd_pre (h : DoesD i t δ1 kvs δ2 kvs1) (w : ∀ d, Paired Sl.le (dAt δ i d) (dAt δ1 i d)) : DoesD i t δ kvs δ2 kvs1 := fun H0 Hb H σ D d s => h H0 Hb H σ D d (s.weak (w d))
/-- if k not in d: t -/
theorem dd_ifnot (hi : i < δ.length) (hj : ∀ d, EvD ty (dAt δ i d) (kTr (k.map kK))) (h1 : valV kvs k = none → DoesD i t δ kvs δ1 kvs1) (h2 : valV kvs k ≠ none → δ = δ1 ∧ kvs = kvs1) : DoesD i (tIfS (tB (tDNotIn ty (tVar i))) t tNext) δ kvs δ1 kvs1 := fun H0 Hb H σ D d s hd hb h0 tk => by
  have s1 := s.frame hd h0 (s.noOwnD hd)
  refine hj d _ Hb H σ s1 _ fun Hb1 H1 y a b e => ?_
  have hd1 : H1 d = some (.dT kvs) := b.fr d _ upd_same
  have hb1 : Hb1 d = none := a.2 d (by rw [upd_same]; exact nt_dT) hb
  obtain ⟨x, q1, q2⟩ := b.sh i (kE (.ref d)) (List.getElem?_set_self hi)
  have q2 : x = .ref d := q2
  subst q2
  obtain ⟨n, e3, e4⟩ := key_tr e
  refine ⟨.ref d, q1, d, valV kvs k, rfl, .inr ⟨kvs, k, n, .inl hd1, e3, b.ex _ _ e4, rfl⟩, ?_⟩
  have s2 := b.unframe h0
  cases hv : valV kvs k with
  | none => exact ⟨true, rfl, iteT (h1 hv H0 Hb1 H1 σ D d s2 hd1 hb1 h0 fun Hb2 H2 σ2 a2 => tk Hb2 H2 σ2 ((a.mono (same_upd h0)).trans a2))⟩
  | some v =>
    obtain ⟨e1, e2⟩ := h2 (by rw [hv]; exact fun z => nomatch z)
    subst e1 e2
    exact ⟨false, rfl, iteF (tk Hb1 H1 σ (a.mono (same_upd h0)) s2 hd1 hb1)⟩
/-- d[k] = v -/
theorem dd_put (hi : i < δ.length) (hv : ∀ d, EvD te (dAt δ i d) (kE v)) (hj : ∀ d, EvD ty (dAt δ i d) (kTr (k.map kK))) (hl : kvs.length < sizeLine) : DoesD i (sDPut (tVar i) ty te) δ kvs δ (putK kvs k v) := fun H0 Hb H σ D d s hd hb h0 tk => by
  have s1 := s.frame hd h0 (s.noOwnD hd)
  refine hv d _ Hb H σ s1 _ fun Hb1 H1 x a b (e : x = v) => ?_
  subst e
  obtain ⟨x', q1, q2⟩ := b.sh i (kE (.ref d)) (List.getElem?_set_self hi)
  have q2 : x' = .ref d := q2
  subst q2
  refine ⟨.ref d, q1, hj d _ Hb1 H1 σ b _ fun Hb2 H2 y a2 b2 e2 => ?_⟩
  have hd2 : H2 d = some (.dT kvs) := b2.fr d _ upd_same
  have hb2 : Hb2 d = none := (a.trans a2).2 d (by rw [upd_same]; exact nt_dT) hb
  obtain ⟨n, e3, e4⟩ := key_tr e2
  refine ⟨d, upd H2 d (.dT (putK kvs k x)), rfl, .inr ⟨kvs, k, n, hd2, e3, b2.ex _ _ e4, hl, rfl⟩, ?_⟩
  have s2 := b2.unframe h0
  refine tk Hb2 _ σ ((a.trans a2).mono (same_upd h0)) ⟨fun b o z => ?_, fun b o z => ?_, s2.len, s2.sh, fun l ls z => ?_, s2.ne⟩ upd_same hb2
  · rw [upd_ne (fun y => by rw [y, hb2] at z; cases z)]
    exact s2.ex b o z
  · rw [upd_ne (fun y => by rw [y, h0] at z; cases z)]
    exact s2.fr b o z
  · obtain ⟨p, xs, w1, w2, w3, w4, w5⟩ := s2.ow l ls z
    exact ⟨p, xs, w1, w2, w3, by rw [upd_ne (fun y => by rw [y, hd2] at w4; cases w4)]; exact w4, w5⟩
/-- return d -/
theorem dd_ret (hi : i < δ.length) : DoesDR i (tRet (tFrz (tVar i))) δ kvs (kD kvs) := fun H0 Hb H σ D d s hd hb h0 tk => by
  obtain ⟨x, q1, q2⟩ := s.sh i (kE (.ref d)) (List.getElem?_set_self hi)
  have q2 : x = .ref d := q2
  subst q2
  refine ⟨.ref d, q1, d, _, rfl, hd, True.intro, fun od => ?_⟩
  refine tk (upd Hb d (.frz od (.dT kvs))) _ (.ref d) (Gr.new h0 hb) (fun b o z => ?_) (fun b o z => ?_) ⟨d, od, rfl, upd_same⟩
  · by_cases e : b = d
    · subst e
      rw [upd_same] at z ⊢
      exact z
    · rw [upd_ne e] at z ⊢
      exact s.ex b o z
  · rw [upd_ne (fun y => by rw [y, h0] at z; cases z)]
    exact s.fr b o z
/-! ### loops -/
inductive ForRunD (i : Nat) (g : TG) (tb : TS) : List Kd → List Sl → DK → List Sl → DK → Prop where
  | nil {δ : List Sl} {kvs : DK} : ForRunD i g tb [] δ kvs δ kvs
  | cons {k : Kd} {ys : List Kd} {δ δ1 δ2 δ3 : List Sl} {kvs kvs2 kvs3 : DK} {ws : List Nat} (hb : ∀ d, Bnd g ws k (dAt δ i d) (dAt δ1 i d)) (h : DoesD i tb δ1 kvs δ2 kvs2) (r : ForRunD i g tb ys δ2 kvs2 δ3 kvs3) : ForRunD i g tb (k :: ys) δ kvs δ3 kvs3
theorem dd_for {tb : TS} (hs : ∀ d, Src wi (dAt δ i d) ys) (r : ForRunD i g tb ys δ kvs δ1 kvs1) : DoesD i (tFor wi g tb) δ kvs δ1 kvs1 := fun H0 Hb H σ D d s hd hb h0 tk => by
  have sf := s.frame hd h0 (s.noOwnD hd)
  refine hs d _ Hb H σ sf _ fun Hb1 H1 J a1 s1 wk => ?_
  have hd1 : H1 d = some (.dT kvs) := s1.fr d _ upd_same
  have hb1 : Hb1 d = none := a1.2 d (by rw [upd_same]; exact nt_dT) hb
  have a1' := a1.mono (same_upd (o := .dT kvs) h0)
  refine ⟨fun n m σ2 H2 => m = ys.length - n ∧ n ≤ ys.length ∧ ∃ (Hb2 : Hp) (δ2 : List Sl) (kvs2 : DK), Gr H0 Hb1 Hb2 ∧ Sg H0 Hb2 H2 σ2 (dAt δ2 i d) ∧ H2 d = some (.dT kvs2) ∧ Hb2 d = none ∧ ForRunD i g tb (ys.drop n) δ2 kvs2 δ1 kvs1,
    ⟨ys.length, by simp, Nat.zero_le _, Hb1, δ, kvs, Gr.refl _ _, s1.unframe h0, hd1, hb1, r⟩, ?_⟩
  rintro n m σ2 H2 ⟨rfl, hn, Hb2, δ2, kvs2, a2, s2, hd2, hb2, r2⟩
  have w2 := wk.up a2.1
  by_cases hlt : n < ys.length
  · refine .inr ⟨w2.goes n H2 hlt s2.ex, fun σ' H' => ∃ (Hb2 : Hp) (δ2 : List Sl) (kvs2 : DK), Gr H0 Hb1 Hb2 ∧ Sg H0 Hb2 H' σ' (dAt δ2 i d) ∧ H' d = some (.dT kvs2) ∧ Hb2 d = none ∧ ForRunD i g tb (ys.drop (n + 1)) δ2 kvs2 δ1 kvs1,
      fun σ' H' z => ⟨ys.length - (n + 1), by omega, rfl, hlt, z⟩, fun x H' y => ?_⟩
    have hk : ys[n]? = some ys[n] := List.getElem?_eq_getElem hlt
    obtain ⟨Hb3, a3, s3, hd3, hb3, hx3⟩ : ∃ Hb3, Gr H0 Hb2 Hb3 ∧ Sg H0 Hb3 H' σ2 (dAt δ2 i d) ∧ H' d = some (.dT kvs2) ∧ Hb3 d = none ∧ ys[n].p x Hb3 := by
      rcases w2.yields n H2 x H' ys[n] hk s2.ex y with ⟨h1, h2⟩ | ⟨T, xs, ls, K, h1, h2, h3, h4, h5⟩ | ⟨T, xs, ls, h1, h2, h3, h4, h5⟩
      · subst h1
        exact ⟨Hb2, Gr.refl _ _, s2, hd2, hb2, h2⟩
      · subst h3
        have ne : d ≠ T := fun z => by rw [z, h2] at hd2; cases hd2
        exact ⟨upd Hb2 T (.tup xs), s2.gr h2, s2.alloc h2, by rw [upd_ne ne]; exact hd2, by rw [upd_ne ne]; exact hb2, h5 _ _ ⟨T, xs, h1, SqT.of upd_same, h4.up (same_upd (s2.hb h2))⟩⟩
      · subst h3
        obtain ⟨Hb3, c1, c2, c3⟩ := (s2.frame hd2 h0 (s2.noOwnD hd2)).cap h2
        exact ⟨Hb3, c1.mono (same_upd h0), c2.unframe h0, hd2, c1.2 d (by rw [upd_same]; exact nt_dT) hb2, h5 _ _ ⟨T, xs, h1, c3, h4.up c1.1⟩⟩
    have hdr : ys.drop n = ys[n] :: ys.drop (n + 1) := List.drop_eq_getElem_cons hlt
    rw [hdr] at r2
    generalize hyi : ys[n] = yi at r2 hx3
    cases r2 with
    | cons hbd h r3 =>
      have sf3 := s3.frame hd3 h0 (s3.noOwnD hd3)
      refine (hbd d).2 H0 Hb3 H' σ2 x s3 hx3 _ fun σ3 s4 _ _ => h H0 Hb3 H' σ3 _ d s4 hd3 hb3 h0 fun Hb4 H4 σ4 a4 s5 hd5 hb5 => ?_
      exact ⟨Hb4, _, _, (a2.trans a3).trans a4, s5, hd5, hb5, r3⟩
  · have e : n = ys.length := by omega
    subst e
    rw [List.drop_length] at r2
    cases r2
    exact .inl ⟨w2.stops H2 s2.ex, tk Hb2 H2 σ2 (a1'.trans a2) s2 hd2 hb2⟩
inductive WhRunD (i : Nat) (c : TT) (tb : TS) : Nat → List Sl → DK → List Sl → DK → Prop where
  | stop {δ : List Sl} {kvs : DK} (hc : ∀ d, EvT c (dAt δ i d) false) : WhRunD i c tb 0 δ kvs δ kvs
  | turn {n : Nat} {δ δ1 δ2 : List Sl} {kvs kvs1 kvs2 : DK} (hc : ∀ d, EvT c (dAt δ i d) true) (h : DoesD i tb δ kvs δ1 kvs1) (r : WhRunD i c tb n δ1 kvs1 δ2 kvs2) : WhRunD i c tb (n + 1) δ kvs δ2 kvs2
theorem dd_while {tb : TS} {n : Nat} (r : WhRunD i c tb n δ kvs δ1 kvs1) : DoesD i (tWhile c tb) δ kvs δ1 kvs1 := fun H0 Hb H σ D d s hd hb h0 tk => by
  refine ⟨fun m σ2 H2 => ∃ (Hb2 : Hp) (δ2 : List Sl) (kvs2 : DK), Gr H0 Hb Hb2 ∧ Sg H0 Hb2 H2 σ2 (dAt δ2 i d) ∧ H2 d = some (.dT kvs2) ∧ Hb2 d = none ∧ WhRunD i c tb m δ2 kvs2 δ1 kvs1, ⟨n, Hb, δ, kvs, Gr.refl _ _, s, hd, hb, r⟩, ?_⟩
  rintro m σ2 H2 ⟨Hb2, δ2, kvs2, a2, s2, hd2, hb2, r2⟩
  have sf := s2.frame hd2 h0 (s2.noOwnD hd2)
  cases r2 with
  | stop hc =>
    refine hc d _ Hb2 H2 σ2 sf _ fun Hb3 H3 a3 s3 => iteF (tk Hb3 H3 σ2 (a2.trans (a3.mono (same_upd h0))) (s3.unframe h0) (s3.fr d _ upd_same) (a3.2 d (by rw [upd_same]; exact nt_dT) hb2))
  | @turn n _ δ4 _ _ kvs4 _ hc h r3 =>
    refine hc d _ Hb2 H2 σ2 sf _ fun Hb3 H3 a3 s3 => iteT ⟨fun σ' H' => ∃ (Hb4 : Hp), Gr H0 Hb Hb4 ∧ Sg H0 Hb4 H' σ' (dAt δ4 i d) ∧ H' d = some (.dT kvs4) ∧ Hb4 d = none, fun σ' H' ⟨Hb4, z1, z2, z3, z4⟩ => ⟨n, Nat.lt_succ_self n, Hb4, δ4, kvs4, z1, z2, z3, z4, r3⟩, ?_⟩
    exact h H0 Hb3 H3 σ2 _ d (s3.unframe h0) (s3.fr d _ upd_same) (a3.2 d (by rw [upd_same]; exact nt_dT) hb2) h0 fun Hb4 H4 σ4 a4 s4 hd4 hb4 => ⟨Hb4, (a2.trans (a3.mono (same_upd h0))).trans a4, s4, hd4, hb4⟩
end
end Dx

namespace Dx
open PySem PySem.Spec PyProof.Rows L2
section
variable {δ : List Sl} {k : List Key} {x y : V} {i j l b : Nat} {u : TS} {kd : Kd}
/-- d, line, n = {t: x}, [t], y -/
theorem dd_start (hb : δ[b]? = some (.sh (kTr (k.map kK)))) (hij : i ≠ j) (hil : i ≠ l) (h : DoesDR i u ((δ.set j (.sh (kL [kTr (k.map kK)]))).set l (.sh (kE y))) [(k, x)] kd) :
    Does (tSeq (tPar3 i j l (tCons (tDisp1 (tVar b) (tC x)) (tCons (tLst (tCons (tVar b) tNil)) (tCons (tC y) tNil)))) u) δ (.rt kd) := fun H0 Hb H σ D s tk => by
  obtain ⟨vb, e1, e2⟩ := s.sh b _ hb
  obtain ⟨n, e3, e4⟩ := key_tr e2
  intro p hp
  have hn : H n = some (.tup (k.map kV)) := s.ex _ _ e4
  have hnp : n ≠ p := ne_of_none hn hp
  refine ⟨vb, e1, upd_same, n, k, e3, by rw [upd_ne hnp]; exact hn, vb, e1, Nat.le_of_lt (small1000 (n := 1) (Nat.le_of_ble_eq_true rfl)), fun q hq => ⟨.ref p, .ref q, y, rfl, ?_⟩⟩
  rw [upd_twice] at hq ⊢
  have s1 := s.drop (o := .dT [(k, x)]) hp
  have s2 := s1.alloc (o := .lst [vb]) hq
  have hqp : p ≠ q := fun z => by rw [← z, upd_same] at hq; cases hq
  have s3 := ((s2.set (i := i) (v := .ref p) (k := kE (.ref p)) rfl).set (i := j) (v := .ref q) (k := kL [kTr (k.map kK)]) ⟨q, [vb], rfl, upd_same, .cons ((kTr (k.map kK)).up (same_upd (s1.hb hq)) e2) .nil⟩).set (i := l) (v := y) (k := kE y) rfl
  have e5 : ((δ.set i (.sh (kE (.ref p)))).set j (.sh (kL [kTr (k.map kK)]))).set l (.sh (kE y)) = dAt ((δ.set j (.sh (kL [kTr (k.map kK)]))).set l (.sh (kE y))) i p := by
    show _ = List.set _ i _
    rw [List.set_comm _ _ hij, List.set_comm _ _ hil]
  rw [e5] at s3
  exact h H0 _ _ _ D p s3 (by rw [upd_ne hqp]; exact upd_same) (by rw [upd_ne hqp]; exact s.hb hp) (s.h0 hp) fun Hb' H' v a => tk Hb' H' v ((s1.gr hq).trans a)
theorem forRunD_fold {g : TG} {tb : TS} {α σ : Type} {f : α → Kd} {ok : σ → α → Prop} {step : σ → α → σ} {S : σ → List Sl} {T : σ → DK} {P : σ → List α → Prop} (h : ∀ s a l, P s (a :: l) → P (step s a) l ∧ ∃ ws δ1, (∀ d, Bnd g ws (f a) (dAt (S s) i d) (dAt δ1 i d)) ∧ DoesD i tb δ1 (T s) (S (step s a)) (T (step s a))) :
    ∀ (l : List α) (s : σ), P s l → ForRunD i g tb (l.map f) (S s) (T s) (S (l.foldl step s)) (T (l.foldl step s)) ∧ P (l.foldl step s) []
  | [], s, q => ⟨.nil, q⟩
  | a :: l, s, q => by
    obtain ⟨q2, ws, δ1, h1, h2⟩ := h s a l q
    obtain ⟨r, q3⟩ := forRunD_fold (ok := ok) h l (step s a) q2
    exact ⟨.cons h1 h2 r, q3⟩
end
end Dx

namespace Dx
open PySem PySem.Spec PyProof.Rows L2
/-! ## sorted(t), t a tuple of whole numbers -/
section
variable {prog : Program} {w : World} {A : Around} {E : Value → Shared → Prop} {s : Shared}
theorem collect_tup {t : Addr} {us : List Value} {Q : List Value → Shared → Prop} (ht : IsTup s.heap t us.toArray) (hz : us.length ≤ sizeLine)
    (h : Q us { s with heap := (s.heap.push (seqObj "list" #[] 0)).update s.heap.objs.size (Obj.mapSeq (· ++ us.toArray)) }) : wpAny (model prog w) A (collect (.ref t)) Q E s := by
  obtain ⟨ob, hob, hcl, n, hda⟩ := id ht
  have hob' : (s.heap.push (seqObj "list" #[] 0)).get? t = some ob := Heap.get?_push_of_some _ hob
  unfold collect; refine wpAny_bind (wpAny_runValue (codeAny_builtin entry_proto_collect' ?_))
  show wpAny _ _ (do again (.builtin "list.__iadd__" ⟨[← newList [], .ref t], []⟩)) _ _ s
  refine (wpAny_bind (wpAny_newList (wpAny_pure ⟨Code.quiet_builtin _ (by decide +kernel), codeAny_builtin entry_list_iadd' ?_⟩)))
  show wpAny _ _ (Builtin.List.listExtendWith (.ref s.heap.objs.size) (.ref t) (.ref s.heap.objs.size)) _ _ { s with heap := s.heap.push (seqObj "list" #[] 0) }
  unfold Builtin.List.listExtendWith; refine wpAny_bind (wpAny_typeOf (T := "tuple") ⟨ob, hob', hcl⟩ ?_)
  rw [if_pos (by rw [show (Value.type "tuple" == Value.type "tuple") = true from rfl, Bool.or_true])]
  refine wpAny_bind (listItems_at hob' hda ?_)
  refine wpAny_bind ((listItems_at (xs := #[]) (n := 0) (Heap.get?_push_size _ rfl) rfl ?_))
  rw [if_neg (by simp)]; refine wpAny_bind (listUpdate_at (xs := #[]) (n := 0) (Heap.get?_push_size _ rfl) rfl ?_ (Nat.zero_le _) (by show (#[] ++ us.toArray).size ≤ sizeLine + 1; simp only [Array.size_append, List.size_toArray, List.length_nil]; omega))
  refine wpAny_pure (?_ : wpAny (model prog w) A (do
      let o ← load s.heap.objs.size
      match o.data with
      | .seq xs _ => pure xs.toList
      | _ => unsupported "internal:collect") Q E { s with heap := (s.heap.push (seqObj "list" #[] 0)).update s.heap.objs.size (Obj.mapSeq (· ++ us.toArray)) })
  refine wpAny_bind (wpAny_load (get?_update_seq (Heap.get?_push_size s.heap rfl) _) ?_)
  show wpAny _ _ (pure ((#[] : Array Value) ++ us.toArray).toList) Q E _
  have e : ((#[] : Array Value) ++ us.toArray).toList = us := by simp
  rw [e]; exact wpAny_pure h
theorem sorted_tup {t : Addr} {us : List Value} {ltv : Value → Value → Bool} {Q : Value → Shared → Prop} (O : SrtO.Swo ltv) (ht : IsTup s.heap t us.toArray) (hz : us.length ≤ sizeLine)
    (hS : 2 ≤ us.length → ∀ (h₁ : Heap) (a : Addr), h₁.get? a = some (seqObj "list" us.toArray 0) → SrtO.SortableO prog w A.in1.in1 { s with heap := h₁ } a us ltv)
    (h : ∀ out : List Value, SrtO.Srtd ltv out → SrtO.Stb ltv out us → Q (.ref (s.heap.objs.size + 1)) { s with heap := sortedAll s.heap us out.toArray }) :
    wpAny (model prog w) A (call (.builtin "sorted") [.ref t]) Q E s := by
  refine (Calls.call_function_entry kind_sorted plain_sorted entry_sorted (args_sorted1 _) ?_)
  unfold Builtin.«sorted»; refine wpAny_bind (m := checkCount "sorted" 1 1 _) (wpAny_pure ?_)
  refine wpAny_bind (collect_tup ht hz (wpAny_bind (wpAny_newList ?_ hz)))
  have hn : ((s.heap.push (seqObj "list" #[] 0)).update s.heap.objs.size (Obj.mapSeq (· ++ us.toArray))).objs.size = s.heap.objs.size + 1 := by rw [Heap.size_update, size_push']
  have hnew : (((s.heap.push (seqObj "list" #[] 0)).update s.heap.objs.size (Obj.mapSeq (· ++ us.toArray))).push (seqObj "list" us.toArray 0)).get? (s.heap.objs.size + 1) = some (seqObj "list" us.toArray 0) := by
    rw [← hn]
    exact Heap.get?_push_size _ rfl
  show wpAny _ _ _ _ _ { s with heap := ((s.heap.push (seqObj "list" #[] 0)).update s.heap.objs.size (Obj.mapSeq (· ++ us.toArray))).push (seqObj "list" us.toArray 0) }
  rw [hn]; refine wpAny_bind (wpAny_holding (wpAny_call_entry slot_list_sort ⟨_, hnew, rfl⟩ entry_list_sort (SrtO.list_sort_ord O hnew hz (fun h2 => hS h2 _ _ hnew) fun out hs hb => ⟨_, rfl, ?_⟩) (args_list_sort _)))
  exact (wpAny_pure ⟨_, rfl, h out hs hb⟩)
end
def rSortedT (K : PySem.W.Frag) : List V → Hp → VK → Prop := fun vs H Q => ∃ (a : Addr) (ns : List Int), vs = [V.ref a] ∧ SqT K H a (ns.map V.int) ∧
  ∀ (ms : List Int) (p : Addr), ms.Perm ns → ms.Pairwise (· ≤ ·) → H p = none → Q (.ref p) (upd H p (.lst (ms.map V.int)))
theorem cr_sortedT {X : Cx} {K : PySem.W.Frag} (hK : X.K = K) : CallR X (.builtin "sorted") (rSortedT K) := by
  subst hK
  intro pins s σ H vs us Q I r h
  obtain ⟨a, ns, rfl, hs, q⟩ := h
  obtain ⟨its, rv, hl, hz⟩ := I.tuple hs
  rw [Vals.ref1 r]
  have hI := rv.ints
  refine sorted_tup SrtO.swo_int hl (by rw [← rv.length]; exact hz) (fun h2 h₁ a' _ => SrtO.ints_sortable hI h2) fun out h1 h2 => ?_
  obtain ⟨g1, g2, g3⟩ := SrtO.ints_out hI h1 h2
  obtain ⟨ep, hep⟩ := PyProof.Rows.sortedAll_at s.heap its out.toArray
  have hlen : ((out.map SrtO.iv).map V.int).length ≤ sizeLine := by
    rw [List.length_map, g2.length_eq]
    rw [List.length_map] at hz
    exact hz
  exact ⟨.ref _, upd H (s.heap.objs.size + 1) (.lst ((out.map SrtO.iv).map V.int)), I.laid (t' := s.toks) (fun _ _ => PyProof.Rows.sortedAll_old) (Nat.le_succ _) ⟨hlen, out, ep, vals_of_ints g1, hep⟩, rfl, q _ _ g2 g3 (I.hok.fresh (Nat.le_succ _))⟩
theorem can_sortT {K : PySem.W.Frag} {ns ms : List Int} (h : ∀ l : List Int, l.Perm ns → l.Pairwise (· ≤ ·) → l = ms) : CaN (rSortedT K) [kT K (ns.map kI)] (ms.map kI) := fun Hb H vs Q ex a q => by
  cases a with
  | cons a t =>
    cases t
    obtain ⟨p, xs, e1, e2, e3⟩ := a
    subst e1
    have := allK_ints e3
    subst this
    refine ⟨p, ns, rfl, Same.sqT ex e2, fun l p' h1 h2 h3 => ?_⟩
    have := h l h1 h2
    subst this
    refine q p' _ h3 ?_
    rw [map_kI]
    exact allK_of_kE _
/-! ## what is walked, a list or a tuple; two readings -/
theorem pi_orr {X : Cx} {tg e : Expr} {t1 t2 : TI} (h1 : PI X tg e t1) (h2 : PI X tg e t2) : PI X tg e (fun σ H R => t1 σ H R ∨ t2 σ H R) := ⟨fun pins s σ H R I h => h.elim (h1.run pins s σ H R I) (h2.run pins s σ H R I)⟩
theorem src_orl {t1 t2 : TI} {δ : List Sl} {ys : List Kd} (h : Src t1 δ ys) : Src (fun σ H R => t1 σ H R ∨ t2 σ H R) δ ys := fun H0 Hb H σ g R q => .inl (h H0 Hb H σ g R q)
theorem src_orr {t1 t2 : TI} {δ : List Sl} {ys : List Kd} (h : Src t2 δ ys) : Src (fun σ H R => t1 σ H R ∨ t2 σ H R) δ ys := fun H0 Hb H σ g R q => .inr (h H0 Hb H σ g R q)
theorem op_catb {K : PySem.W.Frag} {ks ls : List Kd} (hl : ks.length + ls.length ≤ 100000) : OpN rCat (kL ks) (kL ls) (ks ++ ls) := fun Hb H x y Q ex ⟨a, xs, e1, e2, e3⟩ ⟨b, ys, f1, f2, f3⟩ q =>
  ⟨a, b, xs, ys, e1, f1, ex _ _ e2, ex _ _ f2, by rw [e3.len, f3.len, sizeLine_eq]; omega, fun p hp => q p _ hp (e3.app f3)⟩
theorem pe_d0 {X : Cx} {j k : Nat} {x : Str} {sp : Sp} {p pos : Pos} (c : CallD X.prog X.w X.K X.mg X.base k x sp) (hr : Room j X.A) (hk : k ≤ j) (hg : Gl X x := by rfl) (hdb : (x == ("__debug__" : Str)) = false := by decide) : PE X (.Call (.Name x p) [] [] pos) (tCall sp [] E0 tNil) := by
  obtain ⟨f, fd, ps, F, hm, hkp, hb⟩ := c.ex
  exact pe_call0 F (hr.mono hk) hg hm hkp hb .nil passN hdb
/-! ## ends that are told by there being one -/
theorem d_seq_ex {t u : TS} {δ : List Sl} {o : Out} {α : Type} {P : α → Prop} {S : α → List Sl} (h1 : ∃ s, P s ∧ Does t δ (.nx (S s))) (h2 : ∀ s, P s → Does u (S s) o) : Does (tSeq t u) δ o := by
  obtain ⟨s, p, d⟩ := h1
  exact d_seq d (h2 s p)
theorem forRun_ex {g : TG} {tb : TS} {α σ : Type} {f : α → Kd} {S : σ → List Sl} {P : σ → List α → Prop} (h : ∀ s a l, P s (a :: l) → ∃ s', P s' l ∧ ∃ ws δ1, Bnd g ws (f a) (S s) δ1 ∧ Does tb δ1 (.nx (S s'))) : ∀ (l : List α) (s : σ), P s l → ∃ s', P s' [] ∧ ForRun g tb (l.map f) (S s) (S s')
  | [], s, p => ⟨s, p, .nil⟩
  | a :: l, s, p => by
    obtain ⟨s1, p1, ws, δ1, h1, h2⟩ := h s a l p
    obtain ⟨s2, p2, r⟩ := forRun_ex h l s1 p1
    exact ⟨s2, p2, .cons h1 h2 r⟩
end Dx

namespace Dx
open PySem PySem.Spec PyProof.Rows L2
/-! ## functions as values -/
/-- what stands at f may be called with the promise sp, while H is tracked -/
structure Clb (P : Program) (w : World) (K : PySem.W.Frag) (mg : Str → Option Value) (base : Heap) (k : Nat) (H : Hp) (f : Addr) (sp : Sp) : Prop where
  at_ : ∀ h : Heap, K.In h → HOk P w H h → PySem.W.FnAt f h
  run : ∀ (A : Around) (outer : List Env) (s : Shared) (us : List Value) (vs : List V) (Q : VK) (E : XK), Room k A → Env0 P w K mg base A outer s H → Vals vs us → sp vs H Q E → codeAny (model P w) A (.call (.ref f) ⟨us, []⟩) (CR (L2N.CX P w) outer P w H s Q E) s
def kFn (P : Program) (w : World) (K : PySem.W.Frag) (mg : Str → Option Value) (base : Heap) (k : Nat) (A : List Kd → Rs → Prop) : Kd :=
  ⟨fun v H => ∃ f, v = .ref f ∧ ∀ H', Same H H' → Clb P w K mg base k H' f (spR A), fun e ⟨f, h1, h2⟩ => ⟨f, h1, fun H' e' => h2 H' (e.trans e')⟩⟩
section
variable {P : Program} {w : World} {K : PySem.W.Frag} {mg : Str → Option Value} {base : Heap} {k : Nat} {A : List Kd → Rs → Prop}
/-- a def of the module, named -/
theorem clb_def {x : Str} {st : Stmt} {ps : List Str} (D : DefAt K mg x st ps) (c : CallD P w K mg base k x (spR A)) : ∃ f, mg x = some (.ref f) ∧ (kE (.ref f)).le (kFn P w K mg base k A) := by
  obtain ⟨f, fd0, F, hm, _⟩ := D.ex
  obtain ⟨f', fd, ps', G, hm', _, hb⟩ := c.ex
  rw [hm] at hm'
  cases hm'
  obtain ⟨_, _, _, _, _, _, _, _, _, rfl, lk, _⟩ := F.ex
  refine ⟨f, hm, fun v H hv => ⟨f, hv, fun H' _ => ⟨fun h hK _ => ⟨_, _, _, _, hK _ _ lk⟩, fun Ar outer s us vs Q E hr e0 r hs => ?_⟩⟩⟩
  have hl : us.length = ps'.length := by rw [← r.length]; exact G.len _ _ _ _ hs
  have b := hb s us (e0.mod.kin.keeps fun b o e => (e0.bs b o e).1) (by rw [List.append_nil]; exact hl)
  rw [List.append_nil] at b
  exact G.run Ar outer s H' _ us vs Q E hr e0 b r hs
end
/-- a call of the function that slot i holds -/
def tCallF (P : Program) (w : World) (K : PySem.W.Frag) (mg : Str → Option Value) (base : Heap) (k i : Nat) (E : L2.St → XK) (t : TA) : TE := fun σ H Q => ∃ f sp, σ[i]? = some (some (.ref f)) ∧ Clb P w K mg base k H f sp ∧ t σ H fun vs H1 => Clb P w K mg base k H1 f sp ∧ sp vs H1 Q (E σ)
theorem pe_callF {X : Cx} {i j k : Nat} {x : Str} {e : Expr} {es : List Expr} {t : TA} {p pos : Pos} {E : L2.St → XK} (hr : Room j X.A) (hk : k ≤ j) (hN : X.N[i]? = some x) (hv : Vis X.env.scope x) (hx : ∀ σ, PassesAt (L2N.CX X.prog X.w) X σ (E σ)) (ha : PA X (e :: es) t)
    (hdb : (x == ("__debug__" : Str)) = false := by decide) (hcd : (x == ("__classdict__" : Str)) = false := by decide) (he : starEach (e :: es) X.env = (false, eval e X.env) :: starEach es X.env := by rfl) (hpl : (backTo pos (starEach es X.env)).any (·.1) = false := by rfl) :
    PE X (.Call (.Name x p) (e :: es) [] pos) (tCallF X.prog X.w X.K X.mg X.base k i E t) := by
  refine ⟨fun pins s σ H Q I h => ?_⟩
  obtain ⟨f, sp, hs, c0, ht⟩ := h
  have named := (pe_var (pos := p) hN hv hdb hcd).run pins s σ H (fun v H1 => v = .ref f ∧ H = H1) I ⟨.ref f, hs, rfl, rfl⟩
  refine wpAny_Call_Name_kw (thn named fun u s1 ⟨v, H1, I1, r1, ev, eH⟩ => ?_)
  subst ev eH
  cases r1
  refine PySem.W.callWith_F (c0.at_ _ I1.kIn I1.hok) (thn (ha.run pos pins s1 σ H _ I1 ht) fun us s2 ⟨vs, H2, I2, r, c2, q⟩ => ⟨c2.at_ _ I2.kIn I2.hok, ?_⟩) he hpl
  have called := c2.run X.A X.stack s2 us vs Q (E σ) (hr.mono hk) I2.env0 r q
  refine wpAny_call (codeAny_mono called fun rr s3 hq => ?_)
  rcases rr with err | fl
  · exact hx σ pins H2 s2 err s3 I2 hq
  · cases fl with
    | ret u => exact I2.after hq
    | next => exact hq.elim
    | brk => exact hq.elim
    | cont => exact hq.elim
/-- an expression that raises; the store stays -/
def EvX (E : L2.St → XK) (te : TE) (δ : List Sl) (C : Addr) : Prop := ∀ (H0 Hb H : Hp) (σ : L2.St), Sg H0 Hb H σ δ → (∀ Hb' H', Gr H0 Hb Hb' → Sg H0 Hb' H' σ δ → E σ (.ref C) none H') → ∀ Q : VK, te σ H Q
theorem Sg.same {H0 Hb H H' : Hp} {σ : L2.St} {δ : List Sl} (g : Sg H0 Hb H σ δ) (e : Same H H') : Sg H0 Hb H' σ δ :=
  ⟨g.ex.trans e, g.fr.trans e, g.len, g.sh, fun i ks h => by
    obtain ⟨p, xs, h1, h2, h3, h4, h5⟩ := g.ow i ks h
    exact ⟨p, xs, h1, h2, h3, e _ _ h4, h5⟩, g.ne⟩
theorem ex_callF {P : Program} {w : World} {K : PySem.W.Frag} {mg : Str → Option Value} {base : Heap} {k i : Nat} {A : List Kd → Rs → Prop} {E : L2.St → XK} {ar : TA} {δ : List Sl} {ks : List Kd} {C : Addr} (h0 : δ[i]? = some (.sh (kFn P w K mg base k A))) (h : EvA ar δ ks) (ha : A ks (.er C)) :
    EvX E (tCallF P w K mg base k i E ar) δ C := fun H0 Hb H σ g q Q => by
  obtain ⟨v, h1, f, rfl, h2⟩ := g.sh i _ h0
  refine ⟨f, spR A, h1, h2 _ g.ex, h H0 Hb H σ g _ fun Hb1 H1 vs a c e => ⟨h2 _ (a.1.trans c.ex), Hb1, ks, .er C, ha, c.ex, e, fun H' z => q Hb1 H' a (c.same z)⟩⟩
/-! ## lambdas -/
def LamO (f : Addr) (F : NdefX.NF) (body : Expr) : HO := .ext fun h => ∃ (pm ctv : Value), h.get? f = some (PySem.W.kla_obj "<lambda>" F.qual F.params body F.scope F.cl pm F.c ctv)
theorem lam_at {P : Program} {w : World} {H : Hp} {h : Heap} {f : Addr} {F : NdefX.NF} {body : Expr} (ok : HOk P w H h) (e : H f = some (LamO f F body)) : ∃ (pm ctv : Value), h.get? f = some (PySem.W.kla_obj "<lambda>" F.qual F.params body F.scope F.cl pm F.c ctv) := (ok f _ e).1
section
variable {P : Program} {w : World} {K : PySem.W.Frag} {mg : Str → Option Value} {base : Heap} {k : Nat} {A : List Kd → Rs → Prop} {N ps : List Str} {F : NdefX.NF} {body : Expr} {H : Hp} {f : Addr}
theorem lam_clb (S : NdefX.NScope N ps [] F.scope) (hcl : F.cl = []) (hbind : ∀ (pm cv ctv : Value) (us : List Value), us.length = ps.length → bindArgs (PySem.W.kla_fn "<lambda>" F.qual F.params body F.scope F.cl pm cv ctv) ⟨us, []⟩ = pure (ps.zip us)) (len : ∀ ks r, A ks r → ks.length = ps.length)
    (hbody : ∀ (Ar : Around) (outer : List Env) (s : Shared) (H : Hp) (E : XK), Room k (Ar.deeper (NdefX.envF F f s.heap.objs.size)) → ∃ te, PE (NdefX.ncx (L2N.CX P w) P w K mg base N F f Ar outer s H E) body te ∧ ∀ ks r, A ks r → ∃ C, r = .er C ∧ EvE E te (argsδ ks N.length) C)
    (hf : H f = some (LamO f F body)) (hc : H F.c = some (LamX.CodeO F.c F.qual)) : Clb P w K mg base (k + 1) H f (spR A) := by
  refine ⟨fun h _ ok => ?_, fun Ar outer s us vs Q E hr e0 r hsp => ?_⟩
  · obtain ⟨pm, ctv, ho⟩ := lam_at ok hf
    exact ⟨_, _, _, _, ho⟩
  · obtain ⟨Hb, ks, rr, hA, hs, hv, fin⟩ := hsp
    have hl : vs.length = ps.length := by rw [hv.len]; exact len _ _ hA
    have nolim : s.heap.NoLimit := e0.mod.nolimit.keeps fun b o e => (e0.bs b o e).1
    obtain ⟨pm, ctv, ho⟩ := lam_at e0.hok hf
    refine PySem.W.kla_callFunE hr.depth ho rfl S.co S.gen rfl (NdefX.codeO_at e0.hok hc) ?_
    rw [hbind pm _ ctv us (by rw [← r.length]; exact hl)]
    refine wpAny_pure (wpAny_newFunctionEnv S.nocell (fun y hy => S.par y.1 (List.of_mem_zip hy).1) (fun h1 ns sb => ⟨nolim.fresh _ sb, ?_⟩) S.kind)
    obtain ⟨te, pe, hd⟩ := hbody Ar outer s H E (hr.deeper _)
    have old : ∀ b o, s.heap.get? b = some o → h1.get? b = some o := fun b o e => sb.extBut b o (Nat.ne_of_lt (Heap.lt_size e)) (Heap.get?_push_of_some _ e)
    have cells : NdefX.CellsAt F.cl [] [] s.heap H := by
      rw [hcl]
      exact ⟨rfl, fun _ _ z => (nomatch z), fun _ _ _ z => (nomatch z), fun _ _ z => (nomatch z)⟩
    have I : Inv (NdefX.ncx (L2N.CX P w) P w K mg base N F f Ar outer s H E) [] (NdefX.startF N vs []) H { s with heap := h1, toks := s.toks + (ps.zip us).length } := NdefX.inv_startN S hr.hd e0 hl r cells ns old
    have e1 : NdefX.startF N vs [] = L2.start N vs := by unfold NdefX.startF L2.start; simp
    rw [e1] at I
    obtain ⟨C, rfl, hE⟩ := hd _ _ hA
    have runs := pe.run [] _ (L2.start N vs) H Q I (hE H Hb H _ (start_sg hs hv) fin Q)
    refine PySem.W.kla_codeExpr (wpAny_mono runs (fun u s' hq => ?_) fun _ _ z => z)
    obtain ⟨v, H', J, rv, q⟩ := hq
    exact ⟨v, H', J.os, J.bare, J.base, J.hok, rv, q⟩
end
/-- the making of a lambda that captures nothing: its code object new in the table at T, or found there -/
def tLam1 (T : Addr) (q : Str) (mk : Addr → NdefX.NF) (body : Expr) : TE := fun σ H Q => ∃ ps : Array Value, H T = some (.tbl ps) ∧ TriplesOk ps.toList ∧ (∀ (pos : Pos) (cv : Value), codeAmong pos ps.toList = some cv → ∃ c, cv = .ref c ∧ H c = some (LamX.CodeO c q)) ∧
  (∀ (pos : Pos) (c f : Addr), H c = none → H f = none → c ≠ f → Q (.ref f) (upd (upd (upd H T (.tbl (ps ++ #[rawInt pos.line, rawInt pos.col, .ref c]))) c (LamX.CodeO c q)) f (LamO f (mk c) body))) ∧
  ∀ (pos : Pos) (c f : Addr), codeAmong pos ps.toList = some (.ref c) → H f = none → Q (.ref f) (upd H f (LamO f (mk c) body))
theorem clo_nil {cells : List (Str × Addr)} : ∀ {names : List (Str × NameKind)}, (∀ y ∈ names, y.2 ≠ .free) → cloFrom cells names [] = []
  | [], _ => rfl
  | (n, k) :: r, h => by
    unfold cloFrom
    have hk : (k == NameKind.free) = false := by
      have := h _ List.mem_cons_self
      cases k <;> first | rfl | exact absurd rfl this
    rw [hk]
    exact clo_nil fun y hy => h y (List.mem_cons_of_mem _ hy)
theorem inv_lam {X : Cx} {pins : List (Addr × Obj)} {σ : L2.St} {H : Hp} {s : Shared} {F : NdefX.NF} {body : Expr} {tk : Nat} {pm ctv : Value} (I : Inv X pins σ H s) :
    Inv X pins σ (upd H s.heap.objs.size (LamO s.heap.objs.size F body)) { s with heap := s.heap.push (PySem.W.kla_obj "<lambda>" F.qual F.params body F.scope F.cl pm F.c ctv), toks := tk } := by
  have there := Heap.get?_push_size s.heap (o := PySem.W.kla_obj "<lambda>" F.qual F.params body F.scope F.cl pm F.c ctv) rfl
  exact I.laid (fun _ _ e => Heap.get?_push_of_some _ e) (Nat.le_refl _) ⟨⟨pm, ctv, there⟩, ⟨_, there⟩, fun _ _ ⟨p, t, z⟩ st => ⟨p, t, st _ z⟩⟩
theorem pe_lam1 {X : Cx} {c T : Addr} {q : Str} {params : Arguments} {body : Expr} {scope : Scope} {pos : Pos} (TB : LamX.TabB X.base X.mg c T) (hcode : X.env.code = .ref c) (hq : X.env.qual ++ "<lambda>" = q) (hfree : ∀ y ∈ scope.names, y.2 ≠ .free) (hdef : defaultsOf params X.env = ([], [])) :
    PE X (.Lambda params body scope pos) (tLam1 T q (fun c' => ⟨"<lambda>", q, params, [], scope, [], c'⟩) body) := by
  subst hq
  refine ⟨fun pins s σ H Q I h => ?_⟩
  obtain ⟨ps, hT, tri, among, new, old⟩ := h
  have clo : closureFor scope X.env = pure [] := by
    rw [closure_ok fun y hy e => absurd e (hfree y hy), clo_nil hfree]
  have atT : s.heap.get? T = some (PySem.W.tabObj ps) := I.hok T _ hT
  have C := TB.code.keeps I.bk
  have G := I.mod.glob.keeps I.bk
  have bm := TB.bm.keeps I.bk
  refine PySem.W.kla_eval hdef ?_
  rcases hc : codeAmong pos ps.toList with _ | cv
  · refine PySem.W.kla_makeFunction clo I.ok.glob G hcode C atT tri hc TB.gP bm fun c' ctv h' tk kept ge lt rec tab => ?_
    obtain ⟨c2, oc, vs, t, ec, r1, r2, r3⟩ := rec
    cases ec
    have I1 := LamX.inv_table (t' := tk) (more := #[rawInt pos.line, rawInt pos.col, .ref c']) I hT (fun b o n e => kept b o n e) tab ge ⟨oc, vs, t, r1, r2, r3⟩
    exact ⟨.ref h'.objs.size, _, inv_lam (F := ⟨"<lambda>", X.env.qual ++ "<lambda>", params, [], scope, [], c'⟩) I1, rfl, new pos c' _ (I.hok.fresh ge) (I.hok.fresh (Nat.le_trans ge (Nat.le_of_lt lt))) (Nat.ne_of_lt lt)⟩
  · obtain ⟨c', rfl, hco⟩ := among pos cv hc
    refine PySem.W.kla_makeFunctionHit clo I.ok.glob G hcode C atT tri hc bm fun ctv h' tk kept ge => ?_
    have I1 : Inv X pins σ H { s with heap := h', toks := tk } := I.kept kept
    exact ⟨.ref h'.objs.size, _, inv_lam (F := ⟨"<lambda>", X.env.qual ++ "<lambda>", params, [], scope, [], c'⟩) I1, rfl, old pos c' _ hc (I.hok.fresh ge)⟩
end Dx

namespace Dx
open PySem PySem.Spec PyProof.Rows L2
/-! ## a comprehension over range within an except suite -/
/-- a pin of the context is one of the block's -/
theorem Inv.blkPin {X : Cx} {s : Shared} {H : Hp} {scope : Scope} {ce : Env} {fp : List Addr} {σ' : L2.St} {H' : Hp} {s' : Shared} (I : Inv (X.blk s H scope ce fp) [] σ' H' s') {p : Addr × Obj} (h1 : s'.heap.get? p.1 = some p.2) (h2 : H' p.1 = none) (h3 : p.1 ≠ ce.locals) (h4 : p.1 ∉ frs X.stack) (h5 : ∀ v, p.2.data ≠ .cell v) :
    Inv ((X.blk s H scope ce fp).tr [p] (fun _ _ => False)) [] σ' H' s' :=
  ⟨I.ok.toTry _ _, I.os, I.bare, I.base, I.loc, I.cell, I.free, I.freeC, fun r hr => by
    have e : r = p := by simpa using hr
    subst e
    exact ⟨h1, h2, h3, h4, h5⟩, I.hok, I.len⟩
theorem Inv.blkBack {X : Cx} {s : Shared} {H : Hp} {scope : Scope} {ce : Env} {fp : List Addr} {pn : List (Addr × Obj)} {σ' : L2.St} {H' : Hp} {s' : Shared} (I : Inv ((X.blk s H scope ce fp).tr pn (fun _ _ => False)) [] σ' H' s') : Inv (X.blk s H scope ce fp) [] σ' H' s' :=
  ⟨I.ok.ofTry, I.os, I.bare, I.base, I.loc, I.cell, I.free, I.freeC, fun r hr => absurd (show r ∈ ([] : List (Addr × Obj)) ++ [] from hr) (by simp), I.hok, I.len⟩
section
variable {X : Cx}
theorem pe_lcH {elt tg iter : Expr} {scope : Scope} {own : List (Str × Nat)} {pos : Pos} {wi : TI} {g : TG} {te : TE} (hc : L2H.HotC X) (hN : X.N.Nodup) (hi : L2H.PIH X tg iter wi) (ok : BlkOk X.N X.env.scope scope own)
    (hg : ∀ (s : Shared) (H : Hp) (C : Addr) (cl : List (Str × Addr)) (fp : List Addr) (pn : List (Addr × Obj)) (xe : Value → Shared → Prop), PG ((X.blk s H scope (compEnvC scope cl C X.env) fp).tr pn xe) tg g)
    (he : ∀ (s : Shared) (H : Hp) (C : Addr) (cl : List (Str × Addr)) (fp : List Addr) (pn : List (Addr × Obj)) (xe : Value → Shared → Prop), PE ((X.blk s H scope (compEnvC scope cl C X.env) fp).tr pn xe) elt te) (hs : ∀ x, foldedSetIterable iter X.env x = pure x := by intro _; rfl) :
    PE X (.ListComp elt [⟨tg, iter, [], 0⟩] scope pos) (tLc wi g tYes te (own.map (·.2))) := by
  refine ⟨fun pins s σ H Q I h => ?_⟩
  obtain ⟨p, hp1, hp2⟩ := hc
  have cells : ∀ y ∈ scope.names, y.2 = .free → ∃ c, X.env.cells.lookup y.1 = some c := fun y hy e => (ok.free y hy e).elim (fun k => I.ok.has _ (.inl k)) fun k => I.ok.has _ (.inr k)
  rw [eval_ListComp]
  refine wpAny_comprehension_free (use := none) rfl hs (closure_ok cells) ok.kind (fun y hy e => by rw [ok.uniq y hy, e]) (thn (hi.run pins s σ H _ I h) fun xv s1 hx => thn hx fun itv s2 h2 => ?_)
  obtain ⟨it, fp, tn, J, H2, rfl, I2, T, st2, f2, q⟩ := h2
  refine wpAny_newObj_type (newEnv_comp ?_) (Nat.zero_le _)
  -- the list
  obtain ⟨D, hD⟩ : ∃ D, s2.heap.objs.size = D := ⟨_, rfl⟩
  have hDn : H2 D = none := I2.hok.fresh (Nat.le_of_eq hD)
  obtain ⟨W, ⟨m0, w0⟩, turn⟩ := q D hDn
  obtain ⟨s3, hs3⟩ : ∃ s3 : Shared, ({ s2 with heap := s2.heap.push { cls := .type "list", data := .seq ([] : List Value).toArray } } : Shared) = s3 := ⟨_, rfl⟩
  have heap3 : s3.heap = s2.heap.push { cls := .type "list", data := .seq ([] : List Value).toArray } := by rw [← hs3]
  obtain ⟨H3, hH3⟩ : ∃ H3, upd H2 D (.lst []) = H3 := ⟨_, rfl⟩
  have I3 : Inv X pins σ H3 s3 := by
    rw [← hH3, ← hs3]
    refine I2.laid (t' := s2.toks) (fun b o e => Heap.get?_push_of_some _ e) (Nat.le_of_eq hD) ⟨Nat.zero_le _, [], 0, .nil, ?_⟩
    rw [← hD]
    exact Heap.get?_push_size _ rfl
  have lt2 : ∀ b ∈ fp, b < s2.heap.objs.size := fun b hb => let ⟨_, e, _⟩ := T.obj _ _ st2 b hb; Heap.lt_size e
  have f3 : ∀ b ∈ fp, FpOk X pins H3 b ∧ b < s3.heap.objs.size := fun b hb => by
    refine ⟨⟨?_, (f2 b hb).2⟩, by rw [heap3, Heap.size_push]; exact Nat.lt_succ_of_lt (lt2 b hb)⟩
    rw [← hH3, upd_ne (by rw [← hD]; exact Nat.ne_of_lt (lt2 b hb))]
    exact (f2 b hb).1
  have st3 : tn 0 s3.heap := T.keep _ _ _ st2 fun b _ o e => by rw [heap3]; exact Heap.get?_push_of_some _ e
  have P3 := I3.pin p (List.mem_append_left _ hp2)
  have I4 := block_start I3 ok hN f3
  obtain ⟨ce, hce⟩ : ∃ ce, compEnvC scope (cellsFrom (s3.heap.objs.size + 1) scope.names (cloFrom X.env.cells scope.names [])) s3.heap.objs.size X.env = ce := ⟨_, rfl⟩
  have cL : ce.locals = s3.heap.objs.size := by rw [← hce]; rfl
  have pg := hg s3 H3 s3.heap.objs.size (cellsFrom (s3.heap.objs.size + 1) scope.names (cloFrom X.env.cells scope.names [])) fp [p] (fun _ _ => False)
  have pe := he s3 H3 s3.heap.objs.size (cellsFrom (s3.heap.objs.size + 1) scope.names (cloFrom X.env.cells scope.names [])) fp [p] (fun _ _ => False)
  rw [hce] at I4 pg pe
  rw [hs3]
  show codeAny _ _ (.compStart (.ListComp elt [⟨tg, iter, [], 0⟩] scope pos) 0 (.ref it) (.ref s2.heap.objs.size) (compEnvC scope (cellsFrom (s3.heap.objs.size + 1) scope.names (cloFrom X.env.cells scope.names [])) s3.heap.objs.size X.env)) (compPost (model X.prog X.w) X.A X.xe none _ (.ref s2.heap.objs.size) s3.heap.objs.size) { s3 with heap := pushCells (s3.heap.push { cls := .type "dict", data := .dict #[] }) scope.names }
  rw [hce, hD]
  obtain ⟨s4, hs4⟩ : ∃ s4 : Shared, ({ s3 with heap := pushCells (s3.heap.push { cls := .type "dict", data := .dict #[] }) scope.names } : Shared) = s4 := ⟨_, rfl⟩
  rw [hs4] at I4 ⊢
  have up4 : ∀ b o, s3.heap.get? b = some o → s4.heap.get? b = some o := fun b o e => by rw [← hs4]; exact pushCells_keeps _ _ _ _ (Heap.get?_push_of_some _ e)
  have st4 : tn 0 s4.heap := T.keep _ _ _ st3 fun b _ o e => up4 b o e
  have notSt : p.1 ∉ frs X.stack := fun hm => (List.mem_cons.mp (I3.stkSub _ hm)).elim P3.2.2.1 P3.2.2.2.1
  have J4 := Inv.blkPin I4 (p := p) (up4 _ _ P3.1) P3.2.1 (by rw [cL]; exact Nat.ne_of_lt (Heap.lt_size P3.1)) notSt P3.2.2.2.2
  have hot : L2H.HotC ((X.blk s3 H3 scope ce fp).tr [p] (fun _ _ => False)) := ⟨p, hp1, List.mem_singleton.mpr rfl⟩
  have nfp : ∀ b ∈ fp, H3 b = none := fun b hb => (f3 b hb).1.1
  have notP : ∀ b ∈ fp, p.1 ≠ b := fun b hb => (f3 b hb).1.2.2.2.2.2 p (List.mem_append_left _ hp2)
  have stat : ∀ {σ' : L2.St} {H' : Hp} {s' : Shared}, Inv ((X.blk s3 H3 scope ce fp).tr [p] (fun _ _ => False)) [] σ' H' s' → (∀ b ∈ fp, H' b = none) → ∀ b ∈ fp, FpOk ((X.blk s3 H3 scope ce fp).tr [p] (fun _ _ => False)) [] H' b := fun {σ' H' s'} I' hn b hb =>
    ⟨hn b hb, (I'.ok.exf b hb).1, I'.ok.exfs b hb, .inl hb, fun x c e => (I'.ok.exf b hb).2 x c e, fun r hr => by
      have e : r = p := by simpa using hr
      rw [e]
      exact notP b hb⟩
  have loop : codeAny (model X.prog X.w) X.A (.compLoop (.ListComp elt [⟨tg, iter, [], 0⟩] scope pos) 0 (.ref it) (.ref D) ce) (compPost (model X.prog X.w) X.A X.xe none (EP X pins σ Q) (.ref D) s3.heap.objs.size) s4 := by
    refine compLoop_any (fun n s' => ∃ i H', Inv ((X.blk s3 H3 scope ce fp).tr [p] (fun _ _ => False)) [] (wipe σ (own.map (·.2))) H' s' ∧ tn i s'.heap ∧ (∀ b ∈ fp, H' b = none) ∧ W i n H') ?_ m0 ⟨0, H3, J4, st4, nfp, by rw [← hH3]; exact w0⟩
    rintro n s5 ⟨i, H5, I5, st5, n5, w5⟩
    rcases turn i n H5 w5 with ⟨stop, qq⟩ | ⟨go, Nx, hNx, step⟩
    · refine thnF (T.done ((X.blk s3 H3 scope ce fp).tr [p] (fun _ _ => False)) rfl rfl rfl hot i [] s5 _ H5 (fun _ _ => False) I5 (stat I5 n5) st5 stop) fun r s6 ⟨hr, I6'⟩ => ?_
      subst hr
      have I6 := Inv.blkBack I6'
      have I7 : Inv X pins σ H5 s6 := I3.call' (ch := fp) I6.os I6.base I6.hok I6.bare fun b hb => ⟨(f3 b hb).1.2.2.2.1, (f3 b hb).1.2.1, (f3 b hb).1.2.2.2.2.1, (f3 b hb).1.2.2.2.2.2⟩
      have nC : H5 s3.heap.objs.size = none := by rw [← cL]; exact I6.free
      obtain ⟨m, hn, _⟩ := I6.loc
      have hn : s6.heap.Ns ce.locals m := hn
      rw [cL] at hn
      obtain ⟨f0, f1, f2', f3', f4, f5⟩ := I3.fpOk (Nat.le_refl _) nC
      exact ⟨m, hn, fun h'' sb => ⟨.ref D, H5, I7.turned (t' := s6.toks) (fun b o hb e => (sb.2 b hb).trans e) f0 f1 f3' f4 f5, rfl, qq⟩⟩
    · refine thnF (T.item ((X.blk s3 H3 scope ce fp).tr [p] (fun _ _ => False)) rfl rfl rfl hot i [] s5 _ H5 (fun _ _ => False) I5 (stat I5 n5) st5 go) fun r s6 ⟨u, hr, h6⟩ => ?_
      subst hr
      refine thnF h6 fun _ s7 ⟨x, H7, I7, r7, y7, st7, n7⟩ => ?_
      have I7' := I7.pinned (stat I7 n7) (T.obj _ _ st7)
      refine thnF (pg.run _ s7 _ H7 x u _ I7' r7 (step x H7 y7)) fun _ s8 ⟨σ8, H8, I8, hw8, q8⟩ => ?_
      refine thnF ((pts_nil (X := (X.blk s3 H3 scope ce fp).tr [p] (fun _ _ => False))).run _ s8 σ8 H8 _ I8 q8) fun b s9 ⟨H9, I9, q9⟩ => ?_
      have fin : ∀ {s' : Shared} {H' : Hp}, Inv ((X.blk s3 H3 scope ce fp).tr [p] (fun _ _ => False)) ([] ++ pinsAt fp s7.heap) σ8 H' s' → Nx H' → ∃ m, m < n ∧ ∃ i H', Inv ((X.blk s3 H3 scope ce fp).tr [p] (fun _ _ => False)) [] (wipe σ (own.map (·.2))) H' s' ∧ tn i s'.heap ∧ (∀ b ∈ fp, H' b = none) ∧ W i m H' := fun {s' H'} I' nx => by
        obtain ⟨m', hm, w'⟩ := hNx H' nx
        have kept : ∀ b ∈ fp, ∀ o, s7.heap.get? b = some o → s'.heap.get? b = some o ∧ H' b = none := fun b hb o e =>
          let z := I'.pin (b, o) (List.mem_append_right _ (List.mem_append_right _ (mem_pinsAt hb e)))
          ⟨z.1, z.2.1⟩
        have hl : (wipe σ (own.map (·.2))).length = σ8.length := by rw [← hw8, wipe_length]
        refine ⟨m', hm, i + 1, H', (I'.unpinned (pins := [])).weak hl (fun j v e => ?_), T.keep _ _ _ st7 fun b hb o e => (kept b hb o e).1, fun b hb => ?_, w'⟩
        · rw [← hw8] at e
          exact (wipe_some e).1
        · obtain ⟨o, e, _⟩ := T.obj _ _ st7 b hb
          exact (kept b hb o e).2
      cases b with
      | false =>
        simp only [Bool.false_eq_true, if_false] at q9 ⊢
        exact fin I9 q9
      | true =>
        simp only [if_true] at q9 ⊢
        refine thnF (pe.run _ s9 σ8 H9 _ I9 q9) fun z s10 ⟨yv, H10, I10, r10, acc, hD10, hz10, nx⟩ => ?_
        exact app_ok (X := (X.blk s3 H3 scope ce fp).tr [p] (fun _ _ => False)) I10 hD10 hz10 r10 fun s11 I11 => fin I11 nx
  exact codeAny_compStart_list loop (T.self X.A 0 _ _ _ st4 loop)
end
/-! ## try: .. except X as e: .. where the body raises -/
/-- a statement that raises; the store stays -/
def DoesX (W : WX) (t : TS) (δ : List Sl) (C : Addr) : Prop := ∀ (H0 Hb H : Hp) (σ : L2.St) (D : Ends), Sg H0 Hb H σ δ → (∀ Hb' H', Gr H0 Hb Hb' → Sg H0 Hb' H' σ δ → W (.ref C) none σ H') → t D σ H
theorem dx_drop {W : WX} {te : TE} {δ : List Sl} {C : Addr} (h : EvX (WE W) te δ C) : DoesX W (tDrop te) δ C := fun H0 Hb H σ D g q => h H0 Hb H σ g (fun Hb' H' a b => q Hb' H' a b) _
theorem d_tryAs {K : PySem.W.Frag} {c : Value} {C : Addr} {i : Nat} {tb : WX → TS} {ts : Addr → Value → Option Addr → TS} {Wout : WX} {δ : List Sl} {k : Kd} (hb : ∀ W, DoesX W (tb W) δ C) (hm : PySem.W.exmOne K (.ref C) c = some true)
    (hs : ∀ a, Does (ts a (.ref C) none) (δ.set i (.sh (kE (.ref a)))) (.rt k)) : Does (fun D σ H => tb (wAs K c i ts Wout D) D σ H) δ (.rt k) := fun H0 Hb H σ D g tk =>
  hb _ H0 Hb H σ D g fun Hb' H' a g' => ⟨true, hm, fun _ ad _ => hs ad H0 Hb' H' _ _ (g'.set rfl) fun Hb2 H2 v b e1 e2 q => tk Hb2 H2 v (a.trans b) e1 e2 q, fun z => nomatch z⟩
/-- isinstance(e, c) of the error -/
theorem ca_isE {K : PySem.W.Frag} {D a : Addr} {c : V} {cv : Value} {b : Bool} (hcv : ∀ u, RelV c u → u = cv) (h : PySem.W.kitOne K (.ref D) cv = some b) : Ca (rIsE K D a) [kE (.ref a), kE c] (kB b) := fun Hb H vs Q _ hv q => by
  have := allK_kE (xs := [V.ref a, c]) hv
  subst this
  exact ⟨c, cv, b, rfl, hcv, h, q _ rfl⟩
end Dx

namespace Dx
open PySem PySem.Spec PyProof.Rows L2
/-! ## an owned list is written anew -/
section
variable {H0 Hb H : Hp} {σ : L2.St} {δ : List Sl} {p : Addr} {i : Nat} {ks ls : List Kd} {zs : List V}
theorem Sg.renew (g : Sg H0 Hb H σ δ) (h : δ[i]? = some (.ow ks)) (h1 : σ[i]? = some (some (.ref p))) (hz : AllK Hb zs ls) : Sg H0 Hb (upd H p (.lst zs)) σ (δ.set i (.ow ls)) := by
  obtain ⟨p', xs', r1, r2, r3, r4, r5⟩ := g.ow i ks h
  rw [h1] at r1
  cases r1
  have e1 := g.set (i := i) (v := .non) (k := kAny) trivial
  have e2 : Sg H0 Hb (upd H p (.lst zs)) (σ.set i (some .non)) (δ.set i (.sh kAny)) := by
    refine ⟨fun b o z => ?_, fun b o z => ?_, e1.len, e1.sh, fun l ls z => ?_, e1.ne⟩
    · rw [upd_ne (fun y => by rw [y, r2] at z; cases z)]
      exact e1.ex b o z
    · rw [upd_ne (fun y => by rw [y, r3] at z; cases z)]
      exact e1.fr b o z
    · obtain ⟨p2, ys, w1, w2, w3, w4, w5⟩ := e1.ow l ls z
      have hne : p2 ≠ p := fun y => by
        subst y
        by_cases hj : i = l
        · subst hj
          have hh := (List.getElem?_eq_some_iff.mp z).1
          rw [List.getElem?_set_self (by rw [List.length_set] at hh; exact hh)] at z
          cases z
        · rw [List.getElem?_set_ne hj] at z w1
          exact hj (g.ne i l ks ls p2 h z h1 w1)
      exact ⟨p2, ys, w1, w2, w3, by rw [upd_ne hne]; exact w4, w5⟩
  have e3 := e2.setO (i := i) (p := p) (xs := zs) (ks := ls) r2 r3 upd_same hz fun l ls z1 z2 => by
    by_cases hj : i = l
    · exact hj.symm
    · rw [List.getElem?_set_ne hj] at z1 z2
      exact (g.ne i l ks ls p h z1 h1 z2).symm
  rw [show (σ.set i (some V.non)).set i (some (V.ref p)) = σ by rw [List.set_set]; exact set_same h1, show (δ.set i (Sl.sh kAny)).set i (Sl.ow ls) = δ.set i (.ow ls) from List.set_set ..] at e3
  exact e3
end
/-- found.extend([..]) -/
theorem d_extend {K : PySem.W.Frag} {δ : List Sl} {te : TE} {i : Nat} {ks ls : List Kd} (h : δ[i]? = some (.ow ks)) (he : EvN te δ ls) (hl : ks.length + ls.length ≤ 100000) : Does (tDrop (tBM K "list" rExtend (tVar i) (tCons te tNil))) δ (.nx (δ.set i (.ow (ks ++ ls)))) := fun H0 Hb H σ D s tk => by
  obtain ⟨p, xs, h1, h2, h3, h4, h5⟩ := s.ow i ks h
  refine ⟨.ref p, h1, .inl ⟨rfl, xs, SqL.of h4⟩, he H0 Hb H σ s _ fun Hb1 H1 p2 ys a e q0 q1 q2 q3 hn => ?_⟩
  obtain ⟨p', xs', r1, r2, r3, r4, r5⟩ := e.ow i ks h
  rw [h1] at r1
  cases r1
  exact ⟨p, p2, xs', ys, rfl, rfl, r4, q2, by rw [r5.len, q3.len, sizeLine_eq]; omega, tk Hb1 _ σ a (e.renew h h1 (r5.app q3))⟩
/-! ## where lambdas are made: the code object's table at T grows -/
structure SgT (T : Addr) (q : Str) (H0 Hb H : Hp) (σ : L2.St) (δ : List Sl) : Prop where
  sg : Sg H0 Hb H σ δ
  n0 : H0 T = none
  nb : Hb T = none
  tab : ∃ ps : Array Value, H T = some (.tbl ps) ∧ TriplesOk ps.toList ∧ ∀ (pos : Pos) (cv : Value), codeAmong pos ps.toList = some cv → ∃ c, cv = .ref c ∧ Hb c = some (LamX.CodeO c q)
section
variable {T : Addr} {q : Str} {H0 Hb H Hb' H' : Hp} {σ σ' : L2.St} {δ δ' δ1 δ2 : List Sl} {p : Addr} {o : HO}
theorem SgT.neT (g : SgT T q H0 Hb H σ δ) (h : H p = none) : T ≠ p := fun z => by
  obtain ⟨ps, e, _⟩ := g.tab
  rw [z, h] at e
  cases e
theorem SgT.fz (g : SgT T q H0 Hb H σ δ) : ∃ ps : Array Value, Sg (upd H0 T (.tbl ps)) Hb H σ δ ∧ ∀ Hb' H' σ' δ', Gr (upd H0 T (.tbl ps)) Hb Hb' → Sg (upd H0 T (.tbl ps)) Hb' H' σ' δ' → Gr H0 Hb Hb' ∧ SgT T q H0 Hb' H' σ' δ' := by
  obtain ⟨ps, e1, e2, e3⟩ := g.tab
  have no : ¬ Owns σ δ T := by
    rintro ⟨i, ks, h1, h2⟩
    obtain ⟨p, xs, r1, _, _, r4, _⟩ := g.sg.ow i ks h1
    rw [h2] at r1
    cases r1
    rw [e1] at r4
    cases r4
  refine ⟨ps, g.sg.frame e1 g.n0 no, fun Hb' H' σ' δ' gr s => ⟨gr.mono (same_upd g.n0), s.unframe g.n0, g.n0, gr.2 T ?_ g.nb, ps, s.fr T _ upd_same, e2, fun pos cv h => ?_⟩⟩
  · rw [upd_same]
    exact ⟨fun z => (nomatch z), fun _ z => (nomatch z)⟩
  · obtain ⟨c, h1, h2⟩ := e3 pos cv h
    exact ⟨c, h1, gr.1 _ _ h2⟩
theorem SgT.alloc (g : SgT T q H0 Hb H σ δ) (h : H p = none) : SgT T q H0 (upd Hb p o) (upd H p o) σ δ := by
  have hn := g.neT h
  obtain ⟨ps, e1, e2, e3⟩ := g.tab
  refine ⟨g.sg.alloc h, g.n0, by rw [upd_ne hn]; exact g.nb, ps, by rw [upd_ne hn]; exact e1, e2, fun pos cv k => ?_⟩
  obtain ⟨c, h1, h2⟩ := e3 pos cv k
  exact ⟨c, h1, same_upd (g.sg.hb h) _ _ h2⟩
theorem SgT.drop (g : SgT T q H0 Hb H σ δ) (h : H p = none) : SgT T q H0 Hb (upd H p o) σ δ := by
  have hn := g.neT h
  obtain ⟨ps, e1, e2, e3⟩ := g.tab
  exact ⟨g.sg.drop h, g.n0, g.nb, ps, by rw [upd_ne hn]; exact e1, e2, e3⟩
theorem SgT.know {xs : List V} (g : SgT T q H0 Hb H σ δ) (hb : Hb p = none) (h : H p = some (.lst xs)) (hn : ¬ Owns σ δ p) : SgT T q H0 (upd Hb p (.lst xs)) H σ δ := by
  obtain ⟨ps, e1, e2, e3⟩ := g.tab
  have ne : T ≠ p := fun z => by
    rw [z, h] at e1
    cases e1
  refine ⟨g.sg.know hb h hn, g.n0, by rw [upd_ne ne]; exact g.nb, ps, e1, e2, fun pos cv k => ?_⟩
  obtain ⟨c, h1, h2⟩ := e3 pos cv k
  exact ⟨c, h1, same_upd hb _ _ h2⟩
theorem SgT.set {i : Nat} {v : V} {k : Kd} (g : SgT T q H0 Hb H σ δ) (h : k.p v Hb) : SgT T q H0 Hb H (σ.set i (some v)) (δ.set i (.sh k)) := ⟨g.sg.set h, g.n0, g.nb, g.tab⟩
theorem SgT.weak (g : SgT T q H0 Hb H σ δ) (w : Paired Sl.le δ δ') : SgT T q H0 Hb H σ δ' := ⟨g.sg.weak w, g.n0, g.nb, g.tab⟩
theorem SgT.behind (g : SgT T q H0 Hb H σ δ) (gr : Gr H Hb Hb') (e : Same Hb' H') (f : Same H H') : SgT T q H0 Hb' H' σ δ := by
  obtain ⟨ps, e1, e2, e3⟩ := g.tab
  refine ⟨g.sg.behind gr e f, g.n0, gr.2 T (by rw [e1]; exact ⟨fun z => (nomatch z), fun _ z => (nomatch z)⟩) g.nb, ps, f _ _ e1, e2, fun pos cv k => ?_⟩
  obtain ⟨c, h1, h2⟩ := e3 pos cv k
  exact ⟨c, h1, gr.1 _ _ h2⟩
end
def EvDT (T : Addr) (q : Str) (te : TE) (δ : List Sl) (k : Kd) : Prop := ∀ (H0 Hb H : Hp) (σ : L2.St), SgT T q H0 Hb H σ δ → ∀ Q : VK, (∀ Hb' H' v, Gr H0 Hb Hb' → SgT T q H0 Hb' H' σ δ → k.p v Hb' → Q v H') → te σ H Q
def EvNT (T : Addr) (q : Str) (te : TE) (δ : List Sl) (ks : List Kd) : Prop := ∀ (H0 Hb H : Hp) (σ : L2.St), SgT T q H0 Hb H σ δ → ∀ Q : VK,
  (∀ Hb' H' p xs, Gr H0 Hb Hb' → SgT T q H0 Hb' H' σ δ → Hb' p = none → H0 p = none → H' p = some (.lst xs) → AllK Hb' xs ks → ¬ Owns σ δ p → Q (.ref p) H') → te σ H Q
def EvTT (T : Addr) (q : Str) (tt : TT) (δ : List Sl) (b : Bool) : Prop := ∀ (H0 Hb H : Hp) (σ : L2.St), SgT T q H0 Hb H σ δ → ∀ Q : Bool → Hp → Prop, (∀ Hb' H', Gr H0 Hb Hb' → SgT T q H0 Hb' H' σ δ → Q b H') → tt σ H Q
def EvAT (T : Addr) (q : Str) (ta : TA) (δ : List Sl) (ks : List Kd) : Prop := ∀ (H0 Hb H : Hp) (σ : L2.St), SgT T q H0 Hb H σ δ → ∀ Q : List V → Hp → Prop, (∀ Hb' H' vs, Gr H0 Hb Hb' → SgT T q H0 Hb' H' σ δ → AllK Hb' vs ks → Q vs H') → ta σ H Q
def DoesT (T : Addr) (q : Str) (t : TS) (δ δ1 : List Sl) : Prop := ∀ (H0 Hb H : Hp) (σ : L2.St) (D : Ends), SgT T q H0 Hb H σ δ → (∀ Hb' H' σ', Gr H0 Hb Hb' → SgT T q H0 Hb' H' σ' δ1 → D.nx σ' H') → t D σ H
def DoesTR (T : Addr) (q : Str) (t : TS) (δ : List Sl) (k : Kd) : Prop := ∀ (H0 Hb H : Hp) (σ : L2.St) (D : Ends), SgT T q H0 Hb H σ δ → (∀ Hb' H' v, k.p v Hb' → D.rt v H') → t D σ H
section
variable {T : Addr} {q : Str} {K : PySem.W.Frag} {δ δ' δ1 δ2 : List Sl} {te ta tb : TE} {k k1 k2 : Kd} {ks ls : List Kd} {b : Bool} {ar : TA} {c : TT} {t u : TS} {E : XK} {A : List Kd → Rs → Prop} {r : R2}
theorem evt_of (h : EvD te δ k) : EvDT T q te δ k := fun H0 Hb H σ g Q w => by
  obtain ⟨ps, s, back⟩ := g.fz
  exact h _ Hb H σ s Q fun Hb' H' v a e z => w Hb' H' v (back _ _ _ _ a e).1 (back _ _ _ _ a e).2 z
theorem ett_of (h : EvT c δ b) : EvTT T q c δ b := fun H0 Hb H σ g Q w => by
  obtain ⟨ps, s, back⟩ := g.fz
  exact h _ Hb H σ s Q fun Hb' H' a e => w Hb' H' (back _ _ _ _ a e).1 (back _ _ _ _ a e).2
theorem ent_of (h : EvN te δ ks) : EvNT T q te δ ks := fun H0 Hb H σ g Q w => by
  obtain ⟨ps, s, back⟩ := g.fz
  refine h _ Hb H σ s Q fun Hb' H' p xs a e h1 h2 h3 h4 h5 => w Hb' H' p xs (back _ _ _ _ a e).1 (back _ _ _ _ a e).2 h1 ?_ h3 h4 h5
  have hp : p ≠ T := fun z => by
    rw [z, upd_same] at h2
    cases h2
  rw [upd_ne hp] at h2
  exact h2
theorem evt_ofN (h : EvNT T q te δ ks) : EvDT T q te δ (kL ks) := fun H0 Hb H σ g Q w => h H0 Hb H σ g Q fun Hb' H' p xs a e h1 h2 h3 h4 h5 =>
  w _ H' _ (a.trans (Gr.new h2 h1)) (e.know h1 h3 h5) ⟨p, xs, rfl, upd_same, h4.up (same_upd h1)⟩
theorem evt_le (h : EvDT T q te δ k) (e : k.le k1) : EvDT T q te δ k1 := fun H0 Hb H σ g Q w => h H0 Hb H σ g Q fun Hb' H' v a b c => w Hb' H' v a b (e _ _ c)
theorem eat_nil : EvAT T q tNil δ [] := fun H0 Hb H σ g Q w => w Hb H [] (Gr.refl _ _) g .nil
theorem eat_cons (h : EvDT T q te δ k) (s : EvAT T q ar δ ks) : EvAT T q (tCons te ar) δ (k :: ks) := fun H0 Hb H σ g Q w =>
  h H0 Hb H σ g _ fun Hb1 H1 v a b c => s H0 Hb1 H1 σ b _ fun Hb2 H2 vs a2 b2 c2 => w Hb2 H2 (v :: vs) (a.trans a2) b2 (.cons (k.up a2.1 c) c2)
theorem ent_lst (h : EvAT T q ar δ ks) (hl : ks.length ≤ 1000) : EvNT T q (tLst ar) δ ks := fun H0 Hb H σ g Q w =>
  h H0 Hb H σ g _ fun Hb1 H1 vs a b c => ⟨by rw [c.len]; exact Nat.le_of_lt (small1000 hl), fun p hp => w _ _ _ vs a (b.drop hp) (b.sg.hb hp) (b.sg.h0 hp) upd_same c (b.sg.notOwn hp)⟩
theorem ent_op (h1 : EvDT T q ta δ k1) (h2 : EvDT T q tb δ k2) (o : OpN r k1 k2 ks) : EvNT T q (tOp r ta tb) δ ks := fun H0 Hb H σ g Q w =>
  h1 H0 Hb H σ g _ fun Hb1 H1 v a b c => h2 H0 Hb1 H1 σ b _ fun Hb2 H2 u a2 b2 c2 => o Hb2 H2 v u Q b2.sg.ex (k1.up a2.1 c) c2 fun p xs hp hx =>
    w Hb2 _ p xs (a.trans a2) (b2.drop hp) (b2.sg.hb hp) (b2.sg.h0 hp) upd_same hx (b2.sg.notOwn hp)
theorem evt_call (h : EvAT T q ar δ ks) (ha : A ks (.v k)) : EvDT T q (tCall (spR A) [] E ar) δ k := fun H0 Hb H σ g Q w =>
  h H0 Hb H σ g _ fun Hb1 H1 vs a c e => by
    rw [app_nil']
    exact ⟨Hb1, ks, .v k, ha, c.sg.ex, e, fun Hb' H' v gr e1 e2 hv => w Hb' H' v (a.trans (c.sg.gr' gr)) (c.behind gr e1 e2) hv⟩
theorem ett_b (h : EvDT T q te δ (kB b)) : EvTT T q (tB te) δ b := fun H0 Hb H σ g Q w => h H0 Hb H σ g _ fun Hb1 H1 v a b' (c : v = .bl b) => ⟨b, c, w Hb1 H1 a b'⟩
theorem ett_not (h : EvTT T q c δ b) : EvTT T q (tNot c) δ (!b) := fun H0 Hb H σ g Q w => h H0 Hb H σ g _ fun Hb1 H1 a b' => w Hb1 H1 a b'
/-- the making of a lambda -/
theorem evt_lam {P : Program} {w : World} {mg : Str → Option Value} {base : Heap} {j : Nat} {mk : Addr → NdefX.NF} {body : Expr} (hc : ∀ (H : Hp) (f c : Addr), H f = some (LamO f (mk c) body) → H c = some (LamX.CodeO c q) → Clb P w K mg base j H f (spR A)) :
    EvDT T q (tLam1 T q mk body) δ (kFn P w K mg base j A) := fun H0 Hb H σ g Q z => by
  obtain ⟨ps, e1, e2, e3⟩ := g.tab
  refine ⟨ps, e1, e2, fun pos cv h => ?_, fun pos c f h1 h2 ne => ?_, fun pos c f h1 h2 => ?_⟩
  · obtain ⟨c, r1, r2⟩ := e3 pos cv h
    exact ⟨c, r1, g.sg.ex _ _ r2⟩
  · -- the table written, the code object and the function known
    have nTc := g.neT h1
    have nTf := g.neT h2
    have no : ∀ (i : Nat) (ks : List Kd), δ[i]? = some (Sl.ow ks) → σ[i]? ≠ some (some (V.ref T)) := fun i ks r1 r2 => by
      obtain ⟨p, xs, w1, _, _, w4, _⟩ := g.sg.ow i ks r1
      rw [r2] at w1
      cases w1
      rw [e1] at w4
      cases w4
    have s1 : Sg H0 Hb (upd H T (.tbl (ps ++ #[rawInt pos.line, rawInt pos.col, .ref c]))) σ δ := by
      refine ⟨fun b o r => ?_, fun b o r => ?_, g.sg.len, g.sg.sh, fun i ks r => ?_, g.sg.ne⟩
      · rw [upd_ne (fun y => by rw [y, g.nb] at r; cases r)]
        exact g.sg.ex b o r
      · rw [upd_ne (fun y => by rw [y, g.n0] at r; cases r)]
        exact g.sg.fr b o r
      · obtain ⟨p, xs, w1, w2, w3, w4, w5⟩ := g.sg.ow i ks r
        exact ⟨p, xs, w1, w2, w3, (upd_ne (fun y => no i ks r (by rw [← y]; exact w1))).trans w4, w5⟩
    have hc1 : upd H T (.tbl (ps ++ #[rawInt pos.line, rawInt pos.col, .ref c])) c = none := by rw [upd_ne (Ne.symm nTc)]; exact h1
    have s2 := s1.alloc (o := LamX.CodeO c q) hc1
    have gr2 := s1.gr (o := LamX.CodeO c q) hc1
    have hf1 : upd (upd H T (.tbl (ps ++ #[rawInt pos.line, rawInt pos.col, .ref c]))) c (LamX.CodeO c q) f = none := by rw [upd_ne (Ne.symm ne), upd_ne (Ne.symm nTf)]; exact h2
    have eL : (ps ++ #[rawInt pos.line, rawInt pos.col, Value.ref c]).toList = ps.toList ++ [rawInt pos.line, rawInt pos.col, Value.ref c] := by simp
    have s3 : SgT T q H0 (upd Hb c (LamX.CodeO c q)) (upd (upd H T (.tbl (ps ++ #[rawInt pos.line, rawInt pos.col, .ref c]))) c (LamX.CodeO c q)) σ δ := by
      refine ⟨s2, g.n0, by rw [upd_ne nTc]; exact g.nb, _, by rw [upd_ne nTc, upd_same], by rw [eL]; exact PySem.TriplesOk_snoc _ _ _ _ e2, fun pos' cv h => ?_⟩
      rw [eL] at h
      rcases LamX.among_app _ e2 h with h | h
      · obtain ⟨c0, r1, r2⟩ := e3 pos' cv h
        exact ⟨c0, r1, gr2.1 _ _ r2⟩
      · exact ⟨c, h, upd_same⟩
    have s4 := s3.alloc (o := LamO f (mk c) body) hf1
    refine z _ _ _ (gr2.trans (s2.gr hf1)) s4 ⟨f, rfl, fun H' e => hc H' f c (e _ _ upd_same) (e _ _ ?_)⟩
    rw [upd_ne ne]
    exact upd_same
  · obtain ⟨c0, r1, r2⟩ := e3 pos _ h1
    cases r1
    have hcf : c ≠ f := ne_of_none (g.sg.ex _ _ r2) h2
    have s3 := g.alloc (o := LamO f (mk c) body) h2
    refine z _ _ _ (g.sg.gr h2) s3 ⟨f, rfl, fun H' e => hc H' f c (e _ _ upd_same) (e _ _ ?_)⟩
    rw [upd_ne hcf]
    exact r2
theorem dt_of (h : Does t δ (.nx δ1)) : DoesT T q t δ δ1 := fun H0 Hb H σ D g w => by
  obtain ⟨ps, s, back⟩ := g.fz
  exact h _ Hb H σ D s fun Hb' H' σ' a e => w Hb' H' σ' (back _ _ _ _ a e).1 (back _ _ _ _ a e).2
theorem dtr_of (h : Does t δ (.rt k)) : DoesTR T q t δ k := fun H0 Hb H σ D g w => by
  obtain ⟨ps, s, back⟩ := g.fz
  exact h _ Hb H σ D s fun Hb' H' v _ _ _ z => w Hb' H' v z
theorem dt_seq (h1 : DoesT T q t δ δ1) (h2 : DoesT T q u δ1 δ2) : DoesT T q (tSeq t u) δ δ2 := fun H0 Hb H σ D g w =>
  h1 H0 Hb H σ _ g fun Hb' H' σ' a b => h2 H0 Hb' H' σ' D b fun Hc Hd σ2 a2 b2 => w Hc Hd σ2 (a.trans a2) b2
theorem dtr_seq (h1 : DoesT T q t δ δ1) (h2 : DoesTR T q u δ1 k) : DoesTR T q (tSeq t u) δ k := fun H0 Hb H σ D g w =>
  h1 H0 Hb H σ _ g fun Hb' H' σ' a b => h2 H0 Hb' H' σ' D b w
theorem dt_weak (h : DoesT T q t δ δ1) (w : Paired Sl.le δ1 δ2) : DoesT T q t δ δ2 := fun H0 Hb H σ D g z => h H0 Hb H σ D g fun Hb' H' σ' a b => z Hb' H' σ' a (b.weak w)
theorem dt_asg {i : Nat} (h : EvDT T q te δ k) : DoesT T q (tAsg te (gName i)) δ (δ.set i (.sh k)) := fun H0 Hb H σ D g w => h H0 Hb H σ g _ fun Hb1 H1 v a e z => w Hb1 H1 _ a (e.set z)
/-- the test's answer is no -/
theorem dt_skip (h : EvTT T q c δ b) (e : b = false) (h2 : DoesT T q u δ δ1) : DoesT T q (tSeq (tIfS c t tNext) u) δ δ1 := fun H0 Hb H σ D g w => h H0 Hb H σ g _ fun Hb1 H1 a s => by
  subst e
  exact iteF (h2 H0 Hb1 H1 σ D s fun Hb' H' σ' a2 => w Hb' H' σ' (a.trans a2))
theorem dt_skip1 (h : EvTT T q c δ b) (e : b = false) : DoesT T q (tIfS c t tNext) δ δ := fun H0 Hb H σ D g w => h H0 Hb H σ g _ fun Hb1 H1 a s => by
  subst e
  exact iteF (w Hb1 H1 σ a s)
/-- a loop whose turns leave the store as they found it -/
theorem dt_for {wi : TI} {g : TG} {tb : TS} {ys : List Kd} (hs : Src wi δ ys) (h : ∀ k, k ∈ ys → ∃ ws δ1, Bnd g ws k δ δ1 ∧ DoesT T q tb δ1 δ) : DoesT T q (tFor wi g tb) δ δ := fun H0 Hb H σ D s0 w => by
  obtain ⟨ps, s, back⟩ := s0.fz
  refine hs _ Hb H σ s _ fun Hb1 H1 J a1 s1 wk => ?_
  obtain ⟨g1, t1⟩ := back _ _ _ _ a1 s1
  refine ⟨fun i m σ2 H2 => m = ys.length - i ∧ i ≤ ys.length ∧ ∃ Hb2, Gr H0 Hb1 Hb2 ∧ SgT T q H0 Hb2 H2 σ2 δ, ⟨ys.length, by simp, Nat.zero_le _, Hb1, Gr.refl _ _, t1⟩, ?_⟩
  rintro i m σ2 H2 ⟨rfl, hi, Hb2, a2, t2⟩
  have w2 := wk.up a2.1
  by_cases hlt : i < ys.length
  · refine .inr ⟨w2.goes i H2 hlt t2.sg.ex, fun σ' H' => ∃ Hb2, Gr H0 Hb1 Hb2 ∧ SgT T q H0 Hb2 H' σ' δ, fun σ' H' z => ⟨ys.length - (i + 1), by omega, rfl, hlt, z⟩, fun x H' y => ?_⟩
    have hk : ys[i]? = some ys[i] := List.getElem?_eq_getElem hlt
    obtain ⟨Hb3, a3, t3, hx⟩ : ∃ Hb3, Gr H0 Hb2 Hb3 ∧ SgT T q H0 Hb3 H' σ2 δ ∧ ys[i].p x Hb3 := by
      obtain ⟨ps2, s2, back2⟩ := t2.fz
      rcases w2.yields i H2 x H' ys[i] hk t2.sg.ex y with ⟨h1, h2⟩ | ⟨B, xs, ls, K, h1, h2, h3, h4, h5⟩ | ⟨B, xs, ls, h1, h2, h3, h4, h5⟩
      · subst h1
        exact ⟨Hb2, Gr.refl _ _, t2, h2⟩
      · subst h3
        exact ⟨upd Hb2 B (.tup xs), t2.sg.gr h2, t2.alloc h2, h5 _ _ ⟨B, xs, h1, SqT.of upd_same, h4.up (same_upd (t2.sg.hb h2))⟩⟩
      · subst h3
        obtain ⟨Hb3, c1, c2, c3⟩ := s2.cap h2
        obtain ⟨b1, b2⟩ := back2 _ _ _ _ c1 c2
        exact ⟨Hb3, b1, b2, h5 _ _ ⟨B, xs, h1, c3, h4.up c1.1⟩⟩
    obtain ⟨ws, δ1, hb, hd⟩ := h _ (List.mem_of_getElem? hk)
    refine hb.2 H0 Hb3 H' σ2 x t3.sg hx _ fun σ3 s4 _ _ => hd H0 Hb3 H' σ3 _ ⟨s4, t3.n0, t3.nb, t3.tab⟩ fun Hb4 H4 σ4 a4 t4 => ⟨Hb4, (a2.trans a3).trans a4, t4⟩
  · have e : i = ys.length := by omega
    subst e
    exact .inl ⟨w2.stops H2 t2.sg.ex, w Hb2 H2 σ2 (g1.trans a2) t2⟩
end
/-! ## an empty dict -/
def kDc : Kd := ⟨fun v H => ∃ a, v = .ref a ∧ H a = some (.dK []), fun e ⟨a, h1, h2⟩ => ⟨a, h1, e _ _ h2⟩⟩
theorem ev_dnew {δ : List Sl} : EvD tDNewK δ kDc := fun H0 Hb H σ g Q q p hp => q _ _ _ (g.gr hp) (g.alloc hp) ⟨p, rfl, upd_same⟩
theorem ty_dct {K : PySem.W.Frag} : TyK K kDc (.type "dict") := fun v H ⟨a, h1, h2⟩ => by
  subst h1
  exact .base (.dK h2)
/-- a loop that goes over things, a state that each turn moves on -/
theorem forRun_go {g : TG} {tb : TS} {α σ : Type} {f : α → Kd} {S : σ → List Sl} {step : σ → α → σ} {G : σ → List α → Prop} (hG : ∀ s a l, G s (a :: l) → G (step s a) l) (h : ∀ s a l, G s (a :: l) → ∃ ws δ1, Bnd g ws (f a) (S s) δ1 ∧ Does tb δ1 (.nx (S (step s a)))) : ∀ (l : List α) (s : σ), G s l → ForRun g tb (l.map f) (S s) (S (l.foldl step s))
  | [], s, _ => .nil
  | a :: l, s, p => by
    obtain ⟨ws, δ1, h1, h2⟩ := h s a l p
    exact .cons h1 h2 (forRun_go hG h l _ (hG s a l p))
end Dx
namespace My
open PySem PySem.Spec PyProof.Rows L2 Dx
def top (i : Nat) : Stmt := PySem.Challenge.pw_kindmeets_k07_refused.main.body.getD i (.Pass ⟨0, 0, 0, 0⟩)
local macro_rules | `(tactic| walk_at "dx shp") => `(tactic| rfl)
local macro_rules | `(tactic| walk_at "dx kit") => `(tactic| first | exact kb_tuple_tuple | exact kb_tuple_list | exact kb_tuple_int | exact kb_tuple_bool | exact kb_tuple_str | exact kb_list_tuple | exact kb_list_list | exact kb_list_int | exact kb_list_bool | exact kb_list_str | exact kb_int_tuple | exact kb_int_list | exact kb_int_int | exact kb_int_bool | exact kb_int_str | exact kb_bool_tuple | exact kb_bool_list | exact kb_bool_int | exact kb_bool_bool | exact kb_bool_str | exact kb_str_tuple | exact kb_str_list | exact kb_str_int | exact kb_str_bool | exact kb_str_str | exact kb_NoneType_tuple | exact kb_NoneType_list | exact kb_NoneType_int | exact kb_NoneType_bool | exact kb_NoneType_str | exact kb_dict_tuple | exact kb_dict_list | exact kb_dict_int | exact kb_dict_bool | exact kb_dict_str)
local macro_rules | `(tactic| walk_at "dx isd") => `(tactic| first
  | exact isd_int | exact isd_bl | exact isd_non | exact isd_str
  | (refine' isd_tup ?x1; (case x1 => walk_at "dx isds")) | (refine' isd_lst ?x1; (case x1 => walk_at "dx isds")) | (refine' isd_seq ?x1; (case x1 => walk_at "dx isds")))
local macro_rules | `(tactic| walk_at "dx isds") => `(tactic| first
  | exact isds_nil
  | exact isds_ints _
  | (refine' isds_cons ?x1 ?x2; (case x1 => walk_at "dx isd"); (case x2 => walk_at "dx isds")))
local macro_rules | `(tactic| walk_at "dx op") => `(tactic| first
  | exact op_I0
  | exact op_ixqT rfl | exact op_ixqL rfl | exact op_ixqS rfl
  | (refine' op_eqk ?x1 ?x2 ?x3 ?x4; (case x1 => walk_at "dx isd"); (case x2 => walk_at "dx isd"); (case x3 => walk_at "dx shp"); (case x4 => walk_at "dx shp"))
  | (refine' op_nek ?x1 ?x2 ?x3 ?x4; (case x1 => walk_at "dx isd"); (case x2 => walk_at "dx isd"); (case x3 => walk_at "dx shp"); (case x4 => walk_at "dx shp"))
  | exact op_inI2
  | (refine' op_notInDTk ?x1 ?x2 ?x3 ?x4; (case x1 => walk_at "dx isd"); (case x2 => walk_at "dx isd"); (case x3 => walk_at "dx shp"); (case x4 => walk_at "dx shp"))
  | (refine' op_notInDk ?x1 ?x2 ?x3 ?x4; (case x1 => walk_at "dx isd"); (case x2 => walk_at "dx isd"); (case x3 => walk_at "dx shp"); (case x4 => walk_at "dx shp"))
  | (refine' op_inDk ?x1 ?x2 ?x3 ?x4; (case x1 => walk_at "dx isd"); (case x2 => walk_at "dx isd"); (case x3 => walk_at "dx shp"); (case x4 => walk_at "dx shp"))
  | exact op_isB
  | (refine' op_I ?x1; (case x1 => first | assumption | exact ⟨by decide, by decide, by decide⟩ | exact ⟨by decide, by decide⟩ | decide | (show (_ : Int) < _; omega))))
local macro_rules | `(tactic| walk_at "dx ty") => `(tactic| first
  | exact ty_int | exact ty_bl | exact ty_str | exact ty_non | exact ty_lst | exact ty_tup)
local macro_rules | `(tactic| walk_at "dx ca") => `(tactic| first
  | (refine' ca_isi (.ty _) ?x1 (kit_ty ?x2); (case x1 => walk_at "dx ty"); (case x2 => walk_at "dx kit"))
  | exact ca_lenT | exact ca_lenL | exact ca_lenS
  | exact ca_sumT (ns := [_, _, _]) | exact ca_sumL | exact ca_sumS | exact ca_abs | exact ca_max2
  | exact ca_all (bs := []) | exact ca_all (bs := [_]) | exact ca_all (bs := [_, _]) | exact ca_all (bs := [_, _, _]))
local macro_rules | `(tactic| walk_at "dx ea") => `(tactic| first
  | exact ea_nil
  | (refine' ea_cons ?x1 ?x2; (case x1 => walk_at "dx ev"); (case x2 => walk_at "dx ea")))
local macro_rules | `(tactic| walk_at "dx ev") => `(tactic| first
  | exact ev_const (by assumption)
  | exact ev_c
  | exact ev_var rfl
  | (refine' ev_op ?x1 ?x2 ?x3; (case x1 => walk_at "dx ev"); (case x2 => walk_at "dx ev"); (case x3 => walk_at "dx op"))
  | (refine' ev_tup (K := ?xK) ?x1 ?x2; (case xK => assumption); (case x1 => walk_at "dx ea"); (case x2 => exact Nat.le_of_ble_eq_true rfl))
  | (refine' ev_tup ?x1 ?x2; (case x1 => walk_at "dx ea"); (case x2 => exact Nat.le_of_ble_eq_true rfl))
  | (refine' ev_cb ?x1 ?x2; (case x1 => walk_at "dx ea"); (case x2 => walk_at "dx ca"))
  | (refine' ev_un ?x1 ?x2; (case x1 => walk_at "dx ev"); (case x2 => exact un_neg1))
  | (refine' ev_and ?x1 fun _ => ?x2; (case x1 => walk_at "dx ev"); (case x2 => walk_at "dx ev"))
  | (refine' ev_or ?x1 fun _ => ?x2; (case x1 => walk_at "dx ev"); (case x2 => walk_at "dx ev"))
  | (refine' ev_not ?x1; (case x1 => walk_at "dx ev"))
  | (refine' ev_ite ?x1 (fun _ => ?x2) (fun _ => ?x3); (case x1 => walk_at "dx et"); (case x2 => walk_at "dx ev"); (case x3 => walk_at "dx ev"))
  | (refine' ev_call ?x1 ?x2; (case x1 => walk_at "dx ea"); (case x2 => walk_at "dx call"))
  | (refine' ev_ofN ?x1; (case x1 => walk_at "dx en")))
local macro_rules | `(tactic| walk_at "dx et") => `(tactic| first
  | exact et_yes
  | (refine' et_test ?x1; (case x1 => walk_at "dx ev"))
  | (refine' et_b ?x1; (case x1 => walk_at "dx ev"))
  | (refine' et_not ?x1; (case x1 => walk_at "dx et"))
  | (refine' et_and ?x1 fun _ => ?x2; (case x1 => walk_at "dx et"); (case x2 => walk_at "dx et"))
  | (refine' et_or ?x1 fun _ => ?x2; (case x1 => walk_at "dx et"); (case x2 => walk_at "dx et")))
local macro_rules | `(tactic| walk_at "dx bnd") => `(tactic| first
  | exact b_name
  | (refine' b_tup ?x1 rfl; (case x1 => walk_at "dx bnds")))
local macro_rules | `(tactic| walk_at "dx bnds") => `(tactic| first
  | exact bs_nil
  | (refine' bs_cons ?x1 ?x2; (case x1 => walk_at "dx bnd"); (case x2 => walk_at "dx bnds")))
local macro_rules | `(tactic| walk_at "dx src") => `(tactic| first
  | (refine' src_enumT ?x1; (case x1 => walk_at "dx ev"))
  | (refine' src_tup ?x1; (case x1 => walk_at "dx ev"))
  | (refine' src_list ?x1; (case x1 => walk_at "dx ev")))
local macro_rules | `(tactic| walk_at "dx lc") => `(tactic| first
  | exact LcRun.nil
  | (refine' LcRun.keep ?x1 ?x2 (et_to ?x3 ?x4) ?x5 ?x6; (case x1 => walk_at "dx bnd"); (case x2 => decide); (case x3 => walk_at "dx et"); (case x4 => rfl); (case x5 => walk_at "dx ev"); (case x6 => walk_at "dx lc"))
  | (refine' LcRun.skip ?x1 ?x2 (et_to ?x3 ?x4) ?x6; (case x1 => walk_at "dx bnd"); (case x2 => decide); (case x3 => walk_at "dx et"); (case x4 => rfl); (case x6 => walk_at "dx lc"))
  | (refine' lc_ite ?x1 ?x2 ?x3 (fun _ => ?x5) ?x6; (case x1 => walk_at "dx bnd"); (case x2 => decide); (case x3 => walk_at "dx et"); (case x5 => walk_at "dx ev"); (case x6 => walk_at "dx lc")))
local macro_rules | `(tactic| walk_at "dx en") => `(tactic| first
  | (refine' en_lst ?x1 ?x2; (case x1 => walk_at "dx ea"); (case x2 => exact Nat.le_of_ble_eq_true rfl))
  | (refine' en_lc ?x1 ?x2 ?x3 ?x4; (case x1 => walk_at "dx src"); (case x2 => walk_at "dx lc"); (case x3 => exact Nat.le_of_ble_eq_true rfl); (case x4 => rfl))
  | (refine' en_upto ?x1 eo_no (eo_some ev_c); (case x1 => walk_at "dx ev"))
  | (refine' en_cb ?x1 can_listK; (case x1 => walk_at "dx ea"))
  | (refine' en_call ?x1 ?x2; (case x1 => walk_at "dx ea"); (case x2 => walk_at "dx call")))
local macro_rules | `(tactic| walk_at "dx weak") => `(tactic| first
  | exact Paired.nil
  | (refine' Paired.cons ?x1 ?x2; (case x1 => first | exact trivial | exact Kd.le.refl _ | exact sl_refl _); (case x2 => walk_at "dx weak")))
abbrev k2 (K : PySem.W.Frag) (i j : Int) : Kd := kT K [kI i, kI j]
abbrev k3 (K : PySem.W.Frag) (a b c : Int) : Kd := kT K [kI a, kI b, kI c]
/-- the beads behind a meeting -/
def metF (a b c i j m : Int) : Int × Int × Int := if i = 0 ∧ j = 1 then (a - 1, b - 1, c + m) else if i = 0 ∧ j = 2 then (a - 1, b + m, c - 1) else (a + m, b - 1, c - 1)
def Pr (i j : Int) : Prop := (i = 0 ∧ j = 1) ∨ (i = 0 ∧ j = 2) ∨ (i = 1 ∧ j = 2)
/-- the meetings that can be -/
def canL (a b c : Int) : List (Int × Int) := (if 0 < a ∧ 0 < b then [(0, 1)] else []) ++ ((if 0 < a ∧ 0 < c then [(0, 2)] else []) ++ (if 0 < b ∧ 0 < c then [(1, 2)] else []))
abbrev kP (K : PySem.W.Frag) (p : Int × Int) : Kd := k2 K p.1 p.2
abbrev k3t (K : PySem.W.Frag) (p : Int × Int × Int) : Kd := k3 K p.1 p.2.1 p.2.2
theorem kE_if {b : Bool} {x y : V} : (kE (if b = true then x else y)) = if b = true then kE x else kE y := by cases b <;> rfl
theorem canL_mem {a b c i j : Int} (h : (i, j) ∈ canL a b c) : (i = 0 ∧ j = 1 ∧ 0 < a ∧ 0 < b) ∨ (i = 0 ∧ j = 2 ∧ 0 < a ∧ 0 < c) ∨ (i = 1 ∧ j = 2 ∧ 0 < b ∧ 0 < c) := by
  unfold canL at h
  rcases List.mem_append.mp h with h | h
  · split at h
    · rename_i q
      have e := List.mem_singleton.mp h
      cases e
      exact .inl ⟨rfl, rfl, q.1, q.2⟩
    · cases h
  · rcases List.mem_append.mp h with h | h
    · split at h
      · rename_i q
        have e := List.mem_singleton.mp h
        cases e
        exact .inr (.inl ⟨rfl, rfl, q.1, q.2⟩)
      · cases h
    · split at h
      · rename_i q
        have e := List.mem_singleton.mp h
        cases e
        exact .inr (.inr ⟨rfl, rfl, q.1, q.2⟩)
      · cases h
theorem canL_pr {a b c i j : Int} (h : (i, j) ∈ canL a b c) : Pr i j := by
  rcases canL_mem h with ⟨h1, h2, _⟩ | ⟨h1, h2, _⟩ | ⟨h1, h2, _⟩
  · exact .inl ⟨h1, h2⟩
  · exact .inr (.inl ⟨h1, h2⟩)
  · exact .inr (.inr ⟨h1, h2⟩)
theorem canL_of {a b c : Int} {x y z : Bool} (hx : x = true ↔ 0 < a ∧ 0 < b) (hy : y = true ↔ 0 < a ∧ 0 < c) (hz : z = true ↔ 0 < b ∧ 0 < c) {K : PySem.W.Frag} :
    (if x = true then k2 K 0 1 :: (if y = true then k2 K 0 2 :: (if z = true then k2 K 1 2 :: [] else []) else (if z = true then k2 K 1 2 :: [] else [])) else (if y = true then k2 K 0 2 :: (if z = true then k2 K 1 2 :: [] else []) else (if z = true then k2 K 1 2 :: [] else []))) = (canL a b c).map (kP K) := by
  unfold canL
  by_cases h1 : 0 < a ∧ 0 < b
  · have e1 : x = true := hx.mpr h1
    by_cases h2 : 0 < a ∧ 0 < c
    · have e2 : y = true := hy.mpr h2
      by_cases h3 : 0 < b ∧ 0 < c
      · have e3 : z = true := hz.mpr h3
        rw [if_pos e1, if_pos e2, if_pos e3, if_pos h1, if_pos h2, if_pos h3]; rfl
      · have e3 : ¬ z = true := fun q => h3 (hz.mp q)
        rw [if_pos e1, if_pos e2, if_neg e3, if_pos h1, if_pos h2, if_neg h3]; rfl
    · have e2 : ¬ y = true := fun q => h2 (hy.mp q)
      by_cases h3 : 0 < b ∧ 0 < c
      · have e3 : z = true := hz.mpr h3
        rw [if_pos e1, if_neg e2, if_pos e3, if_pos h1, if_neg h2, if_pos h3]; rfl
      · have e3 : ¬ z = true := fun q => h3 (hz.mp q)
        rw [if_pos e1, if_neg e2, if_neg e3, if_pos h1, if_neg h2, if_neg h3]; rfl
  · have e1 : ¬ x = true := fun q => h1 (hx.mp q)
    by_cases h2 : 0 < a ∧ 0 < c
    · have e2 : y = true := hy.mpr h2
      by_cases h3 : 0 < b ∧ 0 < c
      · have e3 : z = true := hz.mpr h3
        rw [if_neg e1, if_pos e2, if_pos e3, if_neg h1, if_pos h2, if_pos h3]; rfl
      · have e3 : ¬ z = true := fun q => h3 (hz.mp q)
        rw [if_neg e1, if_pos e2, if_neg e3, if_neg h1, if_pos h2, if_neg h3]; rfl
    · have e2 : ¬ y = true := fun q => h2 (hy.mp q)
      by_cases h3 : 0 < b ∧ 0 < c
      · have e3 : z = true := hz.mpr h3
        rw [if_neg e1, if_neg e2, if_pos e3, if_neg h1, if_neg h2, if_pos h3]; rfl
      · have e3 : ¬ z = true := fun q => h3 (hz.mp q)
        rw [if_neg e1, if_neg e2, if_neg e3, if_neg h1, if_neg h2, if_neg h3]; rfl
theorem and_pos {a b : Int} : (decide (0 < a) && decide (0 < b)) = true ↔ 0 < a ∧ 0 < b := by simp
section
variable {P : Program} {w : World} {K : PySem.W.Frag} {mg : Str → Option Value} {base : Heap}
abbrev s_is_whole : Stmt := top 9
theorem sc_is_whole : FnScope ["thing"] ["thing"] (defScope s_is_whole) := ⟨rfl, rfl, rfl, by decide +kernel, rfl, by decide +kernel, by decide +kernel⟩
/-! ### is_whole -/
def A_is_whole (K : PySem.W.Frag) (ks : List Kd) (r : Rs) : Prop := ∃ (k : Kd) (t : String) (b1 b2 : Bool), ks = [k] ∧ TyK K k (.type t) ∧ kitB t "int" = some b1 ∧ kitB t "bool" = some b2 ∧ r = .v (kB (b1 && !b2))
theorem ok_is_whole (B : Bt mg) (D : DefAt K mg "is_whole" s_is_whole ["thing"]) : CallD P w K mg base 1 "is_whole" (spR (A_is_whole K)) := by
  refine callD_of D sc_is_whole (by rintro ks r ⟨k, t, b1, b2, rfl, _⟩; rfl) fun f cdv Ar outer s H E hr => ⟨_, (pss_one (ps_ret (pe_and (pe_callB (call_isiK (K := K) rfl) (by rfl) B.b_isinstance PyProof.Rows.boot_isinstance (pa_cons (pv 0) (pa_cons (pe_ty (n := "int") (by rfl) B.b_int (by decide +kernel)) pa_nil))) (pe_one (pe_not (pe_callB (call_isiK (K := K) rfl) (by rfl) B.b_isinstance PyProof.Rows.boot_isinstance (pa_cons (pv 0) (pa_cons (pe_ty (n := "bool") (by rfl) B.b_bool (by decide +kernel)) pa_nil)))))))), fun ks r h => ?_⟩
  obtain ⟨k, t, b1, b2, rfl, h1, h2, h3, rfl⟩ := h
  change DoesR _ _ [.sh _] _
  exact .inl (d_ret (ev_and (ev_cb (ea_cons (ev_var rfl) (ea_cons ev_c ea_nil)) (ca_isi (.ty _) h1 (kit_ty h2))) fun _ => ev_not (ev_cb (ea_cons (ev_var rfl) (ea_cons ev_c ea_nil)) (ca_isi (.ty _) h1 (kit_ty h3)))))
theorem is_whole_int {i : Int} : A_is_whole K [kI i] (.v (kB true)) := ⟨_, "int", true, false, rfl, ty_int, by decide +kernel, by decide +kernel, rfl⟩
local macro_rules | `(tactic| walk_at "dx call") => `(tactic| exact is_whole_int)
/-! ### th7 -/
/-- what stands in a list or a tuple that is handed in -/
inductive Et where
  | non | dct
  | int (i : Int)
  | bl (b : Bool)
  | str (s : Str)
  | lst (ns : List Int)
  | tup (ns : List Int)
def kEt (K : PySem.W.Frag) : Et → Kd
  | .non => kN
  | .dct => kDc
  | .int i => kI i
  | .bl b => kB b
  | .str s => kE (.str s)
  | .lst ns => kL (ns.map kI)
  | .tup ns => kT K (ns.map kI)
def Et.ty : Et → String
  | .non => "NoneType"
  | .dct => "dict"
  | .int _ => "int"
  | .bl _ => "bool"
  | .str _ => "str"
  | .lst _ => "list"
  | .tup _ => "tuple"
def Et.whole : Et → Bool
  | .int _ => true
  | _ => false
def Et.ok : Et → Bool
  | .int i => decide (0 ≤ i)
  | _ => false
def Et.isTup : Et → Bool
  | .tup _ => true
  | _ => false
theorem ty_et : ∀ e : Et, TyK K (kEt K e) (.type e.ty)
  | .non => ty_non
  | .dct => ty_dct
  | .int _ => ty_int
  | .bl _ => ty_bl
  | .str _ => ty_str
  | .lst _ => ty_lst
  | .tup _ => ty_tup
theorem is_whole_et : ∀ e : Et, A_is_whole K [kEt K e] (.v (kB e.whole))
  | .non => ⟨_, "NoneType", false, false, rfl, ty_non, by decide +kernel, by decide +kernel, rfl⟩
  | .dct => ⟨_, "dict", false, false, rfl, ty_dct, by decide +kernel, by decide +kernel, rfl⟩
  | .int _ => ⟨_, "int", true, false, rfl, ty_int, by decide +kernel, by decide +kernel, rfl⟩
  | .bl _ => ⟨_, "bool", true, true, rfl, ty_bl, by decide +kernel, by decide +kernel, rfl⟩
  | .str _ => ⟨_, "str", false, false, rfl, ty_str, by decide +kernel, by decide +kernel, rfl⟩
  | .lst _ => ⟨_, "list", false, false, rfl, ty_lst, by decide +kernel, by decide +kernel, rfl⟩
  | .tup _ => ⟨_, "tuple", false, false, rfl, ty_tup, by decide +kernel, by decide +kernel, rfl⟩
theorem kit_tup : ∀ e : Et, e.isTup = false → kitB e.ty "tuple" = some false
  | .non, _ => kb_NoneType_tuple
  | .dct, _ => kb_dict_tuple
  | .int _, _ => kb_int_tuple
  | .bl _, _ => kb_bool_tuple
  | .str _, _ => kb_str_tuple
  | .lst _, _ => kb_list_tuple
  | .tup _, h => (nomatch h)
/-- what is handed in: one of these, or a tuple of them -/
inductive Th where
  | el (e : Et)
  | tp (l : List Et)
def kTh (K : PySem.W.Frag) : Th → Kd
  | .el e => kEt K e
  | .tp l => kT K (l.map (kEt K))
/-- no beads -/
def BadB : Th → Prop
  | .el e => e.isTup = false
  | .tp l => l.length ≠ 3 ∨ (∃ x y z, l = [x, y, z] ∧ (x.ok && (y.ok && z.ok)) = false) ∨ l = [.int 0, .int 0, .int 0]
/-- no meeting of two, three and no beads -/
def BadM : Th → Prop
  | .el e => e.isTup = false
  | .tp l => l.length ≠ 2 ∨ (∃ x y, l = [x, y] ∧ (x.whole && y.whole) = false) ∨ ∃ i j, l = [.int i, .int j] ∧ ¬ (i = 0 ∧ j = 1)
/-- no kind -/
def BadK (e : Et) : Prop := e.whole = false ∨ ∃ i, e = .int i ∧ ¬ (0 ≤ i ∧ i ≤ 2)
section
variable {δ : List Sl} {i : Nat}
theorem et_orT {t u : TT} (h : EvT t δ true) : EvT (tOr t u) δ true := et_or (b2 := true) h fun z => nomatch z
theorem et_orF {t u : TT} {b : Bool} (h : EvT t δ false) (h2 : EvT u δ b) : EvT (tOr t u) δ b := et_or h fun _ => h2
theorem de_yes {c : TT} {t u : TS} {E : XK} {C : Addr} (h : EvT c δ true) (h1 : DoesE E t δ C) : DoesE E (tIfS c t u) δ C := de_if h (fun _ => h1) fun z => nomatch z
theorem ev_isTup {e : Et} (h : δ[i]? = some (.sh (kEt K e))) (ht : e.isTup = false) : EvD (tCB (rIsi K) (tCons (tVar i) (tCons (tC (.ty "tuple")) tNil))) δ (kB false) := ev_cb (ea_cons (ev_var h) (ea_cons ev_c ea_nil)) (ca_isi (.ty _) (ty_et e) (kit_ty (kit_tup e ht)))
theorem ev_isTupT {ks : List Kd} (h : δ[i]? = some (.sh (kT K ks))) : EvD (tCB (rIsi K) (tCons (tVar i) (tCons (tC (.ty "tuple")) tNil))) δ (kB true) := ev_cb (ea_cons (ev_var h) (ea_cons ev_c ea_nil)) (ca_isi (.ty _) ty_tup (kit_ty kb_tuple_tuple))
theorem ev_whole {e : Et} (h : δ[i]? = some (.sh (kEt K e))) : EvD (tCall (spR (A_is_whole K)) [] E0 (tCons (tVar i) tNil)) δ (kB e.whole) := ev_call (ea_cons (ev_var h) ea_nil) (is_whole_et e)
theorem ev_ok {e : Et} (h : δ[i]? = some (.sh (kEt K e))) : EvD (tAndV (tCall (spR (A_is_whole K)) [] E0 (tCons (tVar i) tNil)) (tOp (rI0 fun i j => .bl (decide (i ≥ j))) (tVar i) (tC (.int 0)))) δ (kB e.ok) := by
  have w := ev_whole h
  cases e with
  | int z => exact ev_and w fun _ => ev_op (ev_var h) ev_c (op_I0 (g := fun i j => V.bl (decide (i ≥ j))))
  | _ => exact ev_and (b2 := false) w fun z => (nomatch z)
end
abbrev s_asked_beads : Stmt := top 10
theorem sc_asked_beads : FnScope ["beads", "one"] ["beads"] (defScope s_asked_beads) := ⟨rfl, rfl, rfl, by decide +kernel, rfl, by decide +kernel, by decide +kernel⟩
/-! ### asked_beads7 -/
def A_asked_beads (K : PySem.W.Frag) (C : Addr) (ks : List Kd) (r : Rs) : Prop := (∃ a b c : Int, ks = [k3 K a b c] ∧ 0 ≤ a ∧ 0 ≤ b ∧ 0 ≤ c ∧ 0 < a + b + c ∧ r = .v kN) ∨ ∃ t : Th, ks = [kTh K t] ∧ BadB t ∧ r = .er C
theorem ok_asked_beads {C_BB : Addr} (B : Bt mg) (D : DefAt K mg "asked_beads" s_asked_beads ["beads"]) (e_BadBeads : ErrC K mg "BadBeads" C_BB) (d_is_whole : CallD P w K mg base 1 "is_whole" (spR (A_is_whole K))) : CallD P w K mg base 2 "asked_beads" (spR (A_asked_beads K C_BB)) := by
  refine callD_of D sc_asked_beads (by rintro ks r (⟨a, b, c, rfl, _⟩ | ⟨t, rfl, _⟩) <;> rfl) fun f cdv Ar outer s H E hr => ⟨_, (pss_cons (ps_if (PW.pt (pw_or (pt_not (pt_val (pe_callB (call_isiK (K := K) rfl) (by rfl) B.b_isinstance PyProof.Rows.boot_isinstance (pa_cons (pv 0) (pa_cons (pe_ty (n := "tuple") (by rfl) B.b_tuple (by decide +kernel)) pa_nil))))) (pw_or (pt_cmpR (op_neK (K := K) hr rfl) (pe_callB (call_lenK (K := K) rfl) (by rfl) B.b_len PySem.boot_len (pa_cons (pv 0) pa_nil)) pe_int (nomark _)) (pw_or1 (pt_not (pt_val (pe_callB (cr_allK (K := K) rfl rfl) (by rfl) B.b_all (by decide +kernel) (pa_cons (pe_lc (own := [("one", 1)]) (g := (gName 1)) (tt := tYes) rfl sc_asked_beads.nd (pi_tupK (K := K) (pv 0) rfl) (blkOk_by (own := [("one", 1)]) (N := ["beads", "one"]) (sc := defScope s_asked_beads) (by decide +kernel)) (fun _ _ _ _ _ => (pg_name (i := 1) sc_asked_beads.nd rfl (.inl rfl))) (fun _ _ _ _ _ => pts_nil) (fun _ _ _ _ _ => (pe_and (pe_d d_is_whole hr (by decide) (pa_cons (pv 1) pa_nil)) (pe_one (pe_cmpR op_ge (pv 1) pe_int (nomark _)))))) pa_nil)))))))) (pss_one (L2N.ps_raise rfl (L2N.takes_of rfl rfl rfl rfl) (L2N.pmk_own PySem.F.excBase_ValueError e_BadBeads.xP e_BadBeads.gP e_BadBeads.kP (raises_own e_BadBeads.bP e_BadBeads.tP) rfl))) pss_nil)
      (pss_one (ps_if (pt_cmpR (op_eqK (K := K) hr rfl) (pe_callB (cr_sumTK (K := K) rfl rfl) (by rfl) B.b_sum (by decide +kernel) (pa_cons (pv 0) pa_nil)) pe_int (nomark _)) (pss_one (L2N.ps_raise rfl (L2N.takes_of rfl rfl rfl rfl) (L2N.pmk_own PySem.F.excBase_ValueError e_BadBeads.xP e_BadBeads.gP e_BadBeads.kP (raises_own e_BadBeads.bP e_BadBeads.tP) rfl))) pss_nil))), fun ks r h => ?_⟩
  rcases h with ⟨a, b, c, rfl, ha, hb, hc, hs, rfl⟩ | ⟨t, rfl, bad, rfl⟩
  · change DoesR _ _ [.sh _, .no] _
    refine' .inr ⟨_, d_skip ?t1 ?q1 (d_skip1 ?t2 ?q2), Kd.le.refl _⟩
    case t1 => walk_at "dx et"
    case q1 => simp [ha, hb, hc, PyData.eqv]
    case t2 => walk_at "dx et"
    case q2 => simp [PyData.eqv]; omega
  · cases t with
    | el e =>
      show DoesE _ _ [.sh (kEt K e), .no] _
      exact de_seq1 (de_yes (et_orT (et_not (et_b (ev_isTup rfl bad)))) (de_raise rfl))
    | tp l =>
      show DoesE _ _ [.sh (kT K (l.map (kEt K))), .no] _
      have t1 := et_not (et_b (ev_isTupT (K := K) (δ := [.sh (kT K (l.map (kEt K))), .no]) (i := 0) rfl))
      have len : EvD (tCB (rLenK K) (tCons (tVar 0) tNil)) [.sh (kT K (l.map (kEt K))), .no] (kI ((l.map (kEt K)).length : Nat)) := ev_cb (ea_cons (ev_var rfl) ea_nil) ca_lenT
      rw [List.length_map] at len
      rcases bad with h | ⟨x, y, z, rfl, h⟩ | rfl
      · refine de_seq1 (de_yes (et_orF t1 (et_orT (et_to (et_test (ev_op len ev_c (op_nek (K := K) isd_int isd_int rfl rfl))) ?_))) (de_raise rfl))
        simp [PyData.eqv]
        omega
      · refine' de_seq1 (de_yes (et_orF t1 (et_orF (et_to (et_test (ev_op len ev_c (op_nek (K := K) isd_int isd_int rfl rfl))) rfl) (et_to (et_not (et_b (b := x.ok && (y.ok && z.ok)) (ev_to (ev_cb (ea_cons (ev_ofN (en_lc (src_tup (ys := [kEt K x, kEt K y, kEt K z]) (ev_var rfl)) (LcRun.keep b_name (by decide) et_yes (ev_ok (e := x) rfl) (LcRun.keep b_name (by decide) et_yes (ev_ok (e := y) rfl) (LcRun.keep b_name (by decide) et_yes (ev_ok (e := z) rfl) LcRun.nil))) (Nat.le_of_ble_eq_true rfl) rfl)) ea_nil) (ca_all (bs := [x.ok, y.ok, z.ok]))) ?_))) (by rw [h]; rfl)))) (de_raise rfl))
        simp
      · refine' de_seq2 (d_skip1 ?t1 ?q1) (de_yes (et_to ?t2 ?q2) (de_raise rfl))
        case t1 => change EvT _ [.sh (k3 K 0 0 0), .no] _; walk_at "dx et"
        case q1 => simp [PyData.eqv]
        case t2 => change EvT _ [.sh (k3 K 0 0 0), .no] _; walk_at "dx et"
        case q2 => rfl
abbrev s_asked_kind : Stmt := top 11
theorem sc_asked_kind : FnScope ["kind"] ["kind"] (defScope s_asked_kind) := ⟨rfl, rfl, rfl, by decide +kernel, rfl, by decide +kernel, by decide +kernel⟩
/-! ### asked_kind7 -/
def A_asked_kind (K : PySem.W.Frag) (C : Addr) (ks : List Kd) (r : Rs) : Prop := (∃ k : Int, ks = [kI k] ∧ 0 ≤ k ∧ k ≤ 2 ∧ r = .v kN) ∨ ∃ e : Et, ks = [kEt K e] ∧ BadK e ∧ r = .er C
theorem ok_asked_kind {C_BK : Addr} (B : Bt mg) (D : DefAt K mg "asked_kind" s_asked_kind ["kind"]) (e_BadKind : ErrC K mg "BadKind" C_BK) (d_is_whole : CallD P w K mg base 1 "is_whole" (spR (A_is_whole K))) : CallD P w K mg base 2 "asked_kind" (spR (A_asked_kind K C_BK)) := by
  refine callD_of D sc_asked_kind (by rintro ks r (⟨k, rfl, _⟩ | ⟨e, rfl, _⟩) <;> rfl) fun f cdv Ar outer s H E hr => ⟨_, (pss_one (ps_if (PW.pt (pw_or (pt_not (pt_val (pe_d d_is_whole hr (by decide) (pa_cons (pv 0) pa_nil)))) (pw_or1 (pt_not (pt_chain op_le op_le pe_int (pv 0) pe_int))))) (pss_one (L2N.ps_raise rfl (L2N.takes_of rfl rfl rfl rfl) (L2N.pmk_own PySem.F.excBase_ValueError e_BadKind.xP e_BadKind.gP e_BadKind.kP (raises_own e_BadKind.bP e_BadKind.tP) rfl))) pss_nil)), fun ks r h => ?_⟩
  rcases h with ⟨k, rfl, h0, h2, rfl⟩ | ⟨e, rfl, bad, rfl⟩
  · change DoesR _ _ [.sh _] _
    refine' .inr ⟨_, d_skip1 ?t ?q, Kd.le.refl _⟩
    case t => exact et_or (et_not (et_b (ev_call (ea_cons (ev_var rfl) ea_nil) is_whole_int))) fun _ => et_not (et_test (ev_chain ev_c (ev_var rfl) op_I0 (fun _ => ev_c) (fun _ => op_I0)))
    case q => simp [h0, h2]
  · show DoesE _ _ [.sh (kEt K e)] _
    rcases bad with h | ⟨i, rfl, h⟩
    · exact de_yes (et_orT (et_to (et_not (et_b (ev_whole (e := e) rfl))) (by rw [h]; rfl))) (de_raise rfl)
    · refine de_yes (et_orF (et_not (et_b (ev_whole (e := .int i) rfl))) (et_to (et_not (et_test (ev_chain ev_c (ev_var (k := kI i) rfl) op_I0 (fun _ => ev_c) (fun _ => op_I0)))) ?_)) (de_raise rfl)
      by_cases q : 0 ≤ i
      · simp [q, show ¬ i ≤ 2 from fun z => h ⟨q, z⟩]
      · simp [q]
abbrev s_asked_meeting : Stmt := top 12
theorem sc_asked_meeting : FnScope ["beads", "meeting", "one"] ["beads", "meeting"] (defScope s_asked_meeting) := ⟨rfl, rfl, rfl, by decide +kernel, rfl, by decide +kernel, by decide +kernel⟩
/-! ### asked_meeting7 -/
def A_asked_meeting (K : PySem.W.Frag) (C : Addr) (ks : List Kd) (r : Rs) : Prop := ∃ t : Th, ks = [k3 K 2 3 0, kTh K t] ∧ BadM t ∧ r = .er C
theorem ok_asked_meeting {C_BM pP : Addr} (B : Bt mg) (D : DefAt K mg "asked_meeting" s_asked_meeting ["beads", "meeting"]) (e_BadMeeting : ErrC K mg "BadMeeting" C_BM) (g_PAIRS : mg "PAIRS" = some (.ref pP)) (hP : ∀ H, (kT K [k2 K 0 1, k2 K 0 2, k2 K 1 2]).p (.ref pP) H)
    (d_is_whole : CallD P w K mg base 1 "is_whole" (spR (A_is_whole K))) : CallD P w K mg base 2 "asked_meeting" (spR (A_asked_meeting K C_BM)) := by
  refine callD_of D sc_asked_meeting (by rintro ks r ⟨t, rfl, _⟩; rfl) fun f cdv Ar outer s H E hr => ⟨_, (pss_cons (ps_if (PW.pt (pw_or (pt_not (pt_val (pe_callB (call_isiK (K := K) rfl) (by rfl) B.b_isinstance PyProof.Rows.boot_isinstance (pa_cons (pv 1) (pa_cons (pe_ty (n := "tuple") (by rfl) B.b_tuple (by decide +kernel)) pa_nil))))) (pw_or (pt_cmpR (op_neK (K := K) hr rfl) (pe_callB (call_lenK (K := K) rfl) (by rfl) B.b_len PySem.boot_len (pa_cons (pv 1) pa_nil)) pe_int (nomark _)) (pw_or1 (pt_not (pt_val (pe_callB (cr_allK (K := K) rfl rfl) (by rfl) B.b_all (by decide +kernel) (pa_cons (pe_lc (own := [("one", 2)]) (g := (gName 2)) (tt := tYes) rfl sc_asked_meeting.nd (pi_tupK (K := K) (pv 1) rfl) (blkOk_by (own := [("one", 2)]) (N := ["beads", "meeting", "one"]) (sc := defScope s_asked_meeting) (by decide +kernel)) (fun _ _ _ _ _ => (pg_name (i := 2) sc_asked_meeting.nd rfl (.inl rfl))) (fun _ _ _ _ _ => pts_nil) (fun _ _ _ _ _ => (pe_d d_is_whole hr (by decide) (pa_cons (pv 2) pa_nil)))) pa_nil)))))))) (pss_one (L2N.ps_raise rfl (L2N.takes_of rfl rfl rfl rfl) (L2N.pmk_own PySem.F.excBase_ValueError e_BadMeeting.xP e_BadMeeting.gP e_BadMeeting.kP (raises_own e_BadMeeting.bP e_BadMeeting.tP) rfl))) pss_nil)
      (pss_one (ps_if (PW.pt (pw_or (pt_cmpR (op_notInDTK (K := K) hr rfl) (pv 1) (pe_gref (by rfl) g_PAIRS) (by rfl)) (pw_or (pt_cmpR (op_eqK (K := K) hr rfl) (pe_ix (ix_seqK (K := K) rfl) (pv 0) (pe_ix (ix_seqK (K := K) rfl) (pv 1) pe_int (fun _ _ => rfl)) (fun _ _ => rfl)) pe_int (nomark _)) (pw_or1 (pt_cmpR (op_eqK (K := K) hr rfl) (pe_ix (ix_seqK (K := K) rfl) (pv 0) (pe_ix (ix_seqK (K := K) rfl) (pv 1) pe_int (fun _ _ => rfl)) (fun _ _ => rfl)) pe_int (nomark _)))))) (pss_one (L2N.ps_raise rfl (L2N.takes_of rfl rfl rfl rfl) (L2N.pmk_own PySem.F.excBase_ValueError e_BadMeeting.xP e_BadMeeting.gP e_BadMeeting.kP (raises_own e_BadMeeting.bP e_BadMeeting.tP) rfl))) pss_nil))), fun ks r h => ?_⟩
  obtain ⟨t, rfl, bad, rfl⟩ := h
  cases t with
  | el e =>
    show DoesE _ _ [.sh (k3 K 2 3 0), .sh (kEt K e), .no] _
    exact de_seq1 (de_yes (et_orT (et_not (et_b (ev_isTup rfl bad)))) (de_raise rfl))
  | tp l =>
    show DoesE _ _ [.sh (k3 K 2 3 0), .sh (kT K (l.map (kEt K))), .no] _
    have t1 := et_not (et_b (ev_isTupT (K := K) (δ := [.sh (k3 K 2 3 0), .sh (kT K (l.map (kEt K))), .no]) (i := 1) rfl))
    have len : EvD (tCB (rLenK K) (tCons (tVar 1) tNil)) [.sh (k3 K 2 3 0), .sh (kT K (l.map (kEt K))), .no] (kI ((l.map (kEt K)).length : Nat)) := ev_cb (ea_cons (ev_var rfl) ea_nil) ca_lenT
    rw [List.length_map] at len
    rcases bad with h | ⟨x, y, rfl, h⟩ | ⟨i, j, rfl, h⟩
    · refine de_seq1 (de_yes (et_orF t1 (et_orT (et_to (et_test (ev_op len ev_c (op_nek (K := K) isd_int isd_int rfl rfl))) ?_))) (de_raise rfl))
      simp [PyData.eqv]
      omega
    · refine' de_seq1 (de_yes (et_orF t1 (et_orF (et_to (et_test (ev_op len ev_c (op_nek (K := K) isd_int isd_int rfl rfl))) rfl) (et_to (et_not (et_b (b := x.whole && y.whole) (ev_to (ev_cb (ea_cons (ev_ofN (en_lc (src_tup (ys := [kEt K x, kEt K y]) (ev_var rfl)) (LcRun.keep b_name (by decide) et_yes (ev_whole (e := x) rfl) (LcRun.keep b_name (by decide) et_yes (ev_whole (e := y) rfl) LcRun.nil)) (Nat.le_of_ble_eq_true rfl) rfl)) ea_nil) (ca_all (bs := [x.whole, y.whole]))) ?_))) (by rw [h]; rfl)))) (de_raise rfl))
      simp
    · refine' de_seq2 (d_skip1 ?t1 ?q1) ?r2
      case t1 => change EvT _ [.sh (k3 K 2 3 0), .sh (k2 K i j), .no] _; walk_at "dx et"
      case q1 => simp [PyData.eqv]
      case r2 =>
        change DoesE _ _ [.sh (k3 K 2 3 0), .sh (k2 K i j), .no] _
        by_cases h2 : i = 0 ∧ j = 2
        · obtain ⟨rfl, rfl⟩ := h2
          refine' de_yes (et_to ?a ?b) (de_raise rfl)
          case a => walk_at "dx et"
          case b => decide +kernel
        · by_cases h3 : i = 1 ∧ j = 2
          · obtain ⟨rfl, rfl⟩ := h3
            refine' de_yes (et_to ?a ?b) (de_raise rfl)
            case a => walk_at "dx et"
            case b => decide +kernel
          · refine' de_yes (et_orT (et_to (et_test (ev_op (ev_var rfl) (ev_const hP) (op_notInDTk (K := K) ?d1 ?d2 ?s1 ?s2))) ?q)) (de_raise rfl)
            case d1 => walk_at "dx isd"
            case d2 => walk_at "dx isd"
            case s1 => walk_at "dx shp"
            case s2 => walk_at "dx shp"
            case q =>
              simp [PyData.eqv, PyData.eqvAll]
              omega
abbrev s_joined : Stmt := top 14
theorem sc_joined : FnScope ["beads", "meeting"] ["beads", "meeting"] (defScope s_joined) := ⟨rfl, rfl, rfl, by decide +kernel, rfl, by decide +kernel, by decide +kernel⟩
abbrev s_turned : Stmt := top 15
theorem sc_turned : FnScope ["beads", "meeting"] ["beads", "meeting"] (defScope s_turned) := ⟨rfl, rfl, rfl, by decide +kernel, rfl, by decide +kernel, by decide +kernel⟩
abbrev s_last_kinds : Stmt := top 21
theorem sc_last_kinds : FnScope ["beads", "kind"] ["beads"] (defScope s_last_kinds) := ⟨rfl, rfl, rfl, by decide +kernel, rfl, by decide +kernel, by decide +kernel⟩
abbrev s_fewest_left : Stmt := top 23
theorem sc_fewest_left : FnScope ["beads"] ["beads"] (defScope s_fewest_left) := ⟨rfl, rfl, rfl, by decide +kernel, rfl, by decide +kernel, by decide +kernel⟩
abbrev s_all_of : Stmt := top 34
theorem sc_all_of : FnScope ["beads", "kind", "steps"] ["beads", "kind"] (defScope s_all_of) := ⟨rfl, rfl, rfl, by decide +kernel, rfl, by decide +kernel, by decide +kernel⟩
/-! ### doors7 -/
def A_bad1 (K : PySem.W.Frag) (C : Addr) (ks : List Kd) (r : Rs) : Prop := ∃ t : Th, ks = [kTh K t] ∧ BadB t ∧ r = .er C
def A_door2 (K : PySem.W.Frag) (CB CM : Addr) (ks : List Kd) (r : Rs) : Prop := (∃ t : Th, ks = [kTh K t, kN] ∧ BadB t ∧ r = .er CB) ∨ ∃ t : Th, ks = [k3 K 2 3 0, kTh K t] ∧ BadM t ∧ r = .er CM
theorem asked_ok {C : Addr} {a b c : Int} (ha : 0 ≤ a) (hb : 0 ≤ b) (hc : 0 ≤ c) (hs : 0 < a + b + c) : A_asked_beads K C [k3 K a b c] (.v kN) := .inl ⟨a, b, c, rfl, ha, hb, hc, hs, rfl⟩
theorem ok_joined {C_BB C_BM : Addr} (B : Bt mg) (D : DefAt K mg "joined" s_joined ["beads", "meeting"]) (d_asked_beads : CallD P w K mg base 2 "asked_beads" (spR (A_asked_beads K C_BB))) (d_asked_meeting : CallD P w K mg base 2 "asked_meeting" (spR (A_asked_meeting K C_BM))) : CallD P w K mg base 3 "joined" (spR (A_door2 K C_BB C_BM)) := by
  refine callD_of D sc_joined (by rintro ks r (⟨t, rfl, _⟩ | ⟨t, rfl, _⟩) <;> rfl) fun f cdv Ar outer s H E hr => ⟨_, (pss_cons (ps_expr (pe_dE d_asked_beads hr (by decide) (L2N.takes_of rfl rfl rfl rfl) (fun _ _ _ _ z => z) (pa_cons (pv 0) pa_nil)))
      (pss_cons (ps_expr (pe_dE d_asked_meeting hr (by decide) (L2N.takes_of rfl rfl rfl rfl) (fun _ _ _ _ z => z) (pa_cons (pv 0) (pa_cons (pv 1) pa_nil))))
      (pss_one ps_never))), fun ks r h => ?_⟩
  rcases h with ⟨t, rfl, bad, rfl⟩ | ⟨t, rfl, bad, rfl⟩
  · show DoesE _ _ [.sh (kTh K t), .sh kN] _
    exact de_seq1 (de_drop (ee_call (ea_cons (ev_var rfl) ea_nil) (.inr ⟨t, rfl, bad, rfl⟩)))
  · show DoesE _ _ [.sh (k3 K 2 3 0), .sh (kTh K t)] _
    exact de_seq2 (d_drop (ev_call (ea_cons (ev_var rfl) ea_nil) (asked_ok (by decide) (by decide) (by decide) (by decide)))) (de_seq1 (de_drop (ee_call (ea_cons (ev_var rfl) (ea_cons (ev_var rfl) ea_nil)) ⟨t, rfl, bad, rfl⟩)))
theorem ok_turned {C_BB C_BM : Addr} (B : Bt mg) (D : DefAt K mg "turned" s_turned ["beads", "meeting"]) (d_asked_beads : CallD P w K mg base 2 "asked_beads" (spR (A_asked_beads K C_BB))) (d_asked_meeting : CallD P w K mg base 2 "asked_meeting" (spR (A_asked_meeting K C_BM))) : CallD P w K mg base 3 "turned" (spR (A_door2 K C_BB C_BM)) := by
  refine callD_of D sc_turned (by rintro ks r (⟨t, rfl, _⟩ | ⟨t, rfl, _⟩) <;> rfl) fun f cdv Ar outer s H E hr => ⟨_, (pss_cons (ps_expr (pe_dE d_asked_beads hr (by decide) (L2N.takes_of rfl rfl rfl rfl) (fun _ _ _ _ z => z) (pa_cons (pv 0) pa_nil)))
      (pss_cons (ps_expr (pe_dE d_asked_meeting hr (by decide) (L2N.takes_of rfl rfl rfl rfl) (fun _ _ _ _ z => z) (pa_cons (pv 0) (pa_cons (pv 1) pa_nil))))
      (pss_one ps_never))), fun ks r h => ?_⟩
  rcases h with ⟨t, rfl, bad, rfl⟩ | ⟨t, rfl, bad, rfl⟩
  · show DoesE _ _ [.sh (kTh K t), .sh kN] _
    exact de_seq1 (de_drop (ee_call (ea_cons (ev_var rfl) ea_nil) (.inr ⟨t, rfl, bad, rfl⟩)))
  · show DoesE _ _ [.sh (k3 K 2 3 0), .sh (kTh K t)] _
    exact de_seq2 (d_drop (ev_call (ea_cons (ev_var rfl) ea_nil) (asked_ok (by decide) (by decide) (by decide) (by decide)))) (de_seq1 (de_drop (ee_call (ea_cons (ev_var rfl) (ea_cons (ev_var rfl) ea_nil)) ⟨t, rfl, bad, rfl⟩)))
theorem ok_last_kinds {C_BB : Addr} (B : Bt mg) (D : DefAt K mg "last_kinds" s_last_kinds ["beads"]) (d_asked_beads : CallD P w K mg base 2 "asked_beads" (spR (A_asked_beads K C_BB))) : CallD P w K mg base 3 "last_kinds" (spR (A_bad1 K C_BB)) := by
  refine callD_of D sc_last_kinds (by rintro ks r ⟨t, rfl, _⟩; rfl) fun f cdv Ar outer s H E hr => ⟨_, (pss_cons (ps_expr (pe_dE d_asked_beads hr (by decide) (L2N.takes_of rfl rfl rfl rfl) (fun _ _ _ _ z => z) (pa_cons (pv 0) pa_nil)))
      (pss_cons ps_never
      (pss_one ps_never))), fun ks r h => ?_⟩
  obtain ⟨t, rfl, bad, rfl⟩ := h
  show DoesE _ _ [.sh (kTh K t), .no] _
  exact de_seq1 (de_drop (ee_call (ea_cons (ev_var rfl) ea_nil) (.inr ⟨t, rfl, bad, rfl⟩)))
theorem ok_fewest_left {C_BB : Addr} (B : Bt mg) (D : DefAt K mg "fewest_left" s_fewest_left ["beads"]) (d_asked_beads : CallD P w K mg base 2 "asked_beads" (spR (A_asked_beads K C_BB))) : CallD P w K mg base 3 "fewest_left" (spR (A_bad1 K C_BB)) := by
  refine callD_of D sc_fewest_left (by rintro ks r ⟨t, rfl, _⟩; rfl) fun f cdv Ar outer s H E hr => ⟨_, (pss_cons (ps_expr (pe_dE d_asked_beads hr (by decide) (L2N.takes_of rfl rfl rfl rfl) (fun _ _ _ _ z => z) (pa_cons (pv 0) pa_nil)))
      (pss_one ps_never)), fun ks r h => ?_⟩
  obtain ⟨t, rfl, bad, rfl⟩ := h
  show DoesE _ _ [.sh (kTh K t)] _
  exact de_seq1 (de_drop (ee_call (ea_cons (ev_var rfl) ea_nil) (.inr ⟨t, rfl, bad, rfl⟩)))
def A_all_of (K : PySem.W.Frag) (CB CK : Addr) (ks : List Kd) (r : Rs) : Prop := (∃ t : Th, ks = [kTh K t, kN] ∧ BadB t ∧ r = .er CB) ∨ ∃ e : Et, ks = [k3 K 1 1 1, kEt K e] ∧ BadK e ∧ r = .er CK
theorem ok_all_of {C_BB C_BK : Addr} (B : Bt mg) (D : DefAt K mg "all_of" s_all_of ["beads", "kind"]) (d_asked_beads : CallD P w K mg base 2 "asked_beads" (spR (A_asked_beads K C_BB))) (d_asked_kind : CallD P w K mg base 2 "asked_kind" (spR (A_asked_kind K C_BK))) : CallD P w K mg base 3 "all_of" (spR (A_all_of K C_BB C_BK)) := by
  refine callD_of D sc_all_of (by rintro ks r (⟨t, rfl, _⟩ | ⟨t, rfl, _⟩) <;> rfl) fun f cdv Ar outer s H E hr => ⟨_, (pss_cons (ps_expr (pe_dE d_asked_beads hr (by decide) (L2N.takes_of rfl rfl rfl rfl) (fun _ _ _ _ z => z) (pa_cons (pv 0) pa_nil)))
      (pss_cons (ps_expr (pe_dE d_asked_kind hr (by decide) (L2N.takes_of rfl rfl rfl rfl) (fun _ _ _ _ z => z) (pa_cons (pv 1) pa_nil)))
      (pss_cons ps_never
      (pss_one ps_never)))), fun ks r h => ?_⟩
  rcases h with ⟨t, rfl, bad, rfl⟩ | ⟨e, rfl, bad, rfl⟩
  · show DoesE _ _ [.sh (kTh K t), .sh kN, .no] _
    exact de_seq1 (de_drop (ee_call (ea_cons (ev_var rfl) ea_nil) (.inr ⟨t, rfl, bad, rfl⟩)))
  · show DoesE _ _ [.sh (k3 K 1 1 1), .sh (kEt K e), .no] _
    exact de_seq2 (d_drop (ev_call (ea_cons (ev_var rfl) ea_nil) (asked_ok (by decide) (by decide) (by decide) (by decide)))) (de_seq1 (de_drop (ee_call (ea_cons (ev_var rfl) ea_nil) (.inr ⟨e, rfl, bad, rfl⟩))))
abbrev s_met : Stmt := top 13
theorem sc_met : FnScope ["beads", "meeting", "more", "found", "kind", "one"] ["beads", "meeting", "more"] (defScope s_met) := ⟨rfl, rfl, rfl, by decide +kernel, rfl, by decide +kernel, by decide +kernel⟩
/-! ### met -/
def A_met (K : PySem.W.Frag) (ks : List Kd) (r : Rs) : Prop := ∃ a b c i j m : Int, ks = [k3 K a b c, k2 K i j, kI m] ∧ Pr i j ∧ r = .v (k3t K (metF a b c i j m))
theorem ok_met (B : Bt mg) (D : DefAt K mg "met" s_met ["beads", "meeting", "more"]) : CallD P w K mg base 1 "met" (spR (A_met K)) := by
  refine callD_of D sc_met (by rintro ks r ⟨a, b, c, i, j, m, rfl, _⟩; rfl) fun f cdv Ar outer s H E hr => ⟨_, (pss_cons (ps_setLc (i := 3) (own := [("kind", 4), ("one", 5)]) (g := (gTup K 2 (gCons (gName 4) (gCons (gName 5) gNil)))) (tt := tYes) rfl sc_met.nd rfl rfl (sw_true rfl rfl rfl (by decide +kernel)) (pi_enumTK (K := K) (by rfl) B.b_enumerate (pa_cons (pv 0) pa_nil) rfl) (blkOk_by (own := [("kind", 4), ("one", 5)]) (N := ["beads", "meeting", "more", "found", "kind", "one"]) (sc := defScope s_met) (by decide +kernel)) (fun _ _ _ _ _ => (pg_tup rfl (pgs_cons (pg_name (i := 4) sc_met.nd rfl (.inl rfl)) (pgs_cons (pg_name (i := 5) sc_met.nd rfl (.inl rfl)) pgs_nil)))) (fun _ _ _ _ _ => pts_nil) (fun _ _ _ _ _ => (pe_ifExp (pt_cmpR (op_inK (K := K) rfl) (pv 4) (pv 1) (by rfl)) (pe_op op_sub (pv 5) pe_int) (pe_op op_add (pv 5) (pv 2)))))
      (pss_one (ps_ret (pe_tup (pa_cons (pe_ix (ix_seqK (K := K) rfl) (pv 3) pe_int (fun _ _ => rfl)) (pa_cons (pe_ix (ix_seqK (K := K) rfl) (pv 3) pe_int (fun _ _ => rfl)) (pa_cons (pe_ix (ix_seqK (K := K) rfl) (pv 3) pe_int (fun _ _ => rfl)) pa_nil))))))), fun ks r h => ?_⟩
  obtain ⟨a, b, c, i, j, m, rfl, hp, rfl⟩ := h
  change DoesR _ _ [.sh _, .sh _, .sh _, .no, .no, .no] _
  refine' .inl (d_seq (d_asg ?v1) (d_le (d_ret ?v2) ?q))
  case v1 => walk_at "dx ev"
  case v2 => walk_at "dx ev"
  case q =>
    rcases hp with ⟨rfl, rfl⟩ | ⟨rfl, rfl⟩ | ⟨rfl, rfl⟩
    · exact Kd.le.refl _
    · exact Kd.le.refl _
    · exact Kd.le.refl _
abbrev s_meetings : Stmt := top 16
theorem sc_meetings : FnScope ["beads", "pair"] ["beads"] (defScope s_meetings) := ⟨rfl, rfl, rfl, by decide +kernel, rfl, by decide +kernel, by decide +kernel⟩
/-! ### meetings7 -/
def A_meetings (K : PySem.W.Frag) (CB : Addr) (ks : List Kd) (r : Rs) : Prop := A_bad1 K CB ks r ∨ ∃ a b c : Int, ks = [k3 K a b c] ∧ 0 ≤ a ∧ 0 ≤ b ∧ 0 ≤ c ∧ 0 < a + b + c ∧ r = .nl ((canL a b c).map (kP K))
theorem ok_meetings {pP C_BB : Addr} (B : Bt mg) (D : DefAt K mg "meetings" s_meetings ["beads"]) (g_PAIRS : mg "PAIRS" = some (.ref pP)) (hP : ∀ H, (kT K [k2 K 0 1, k2 K 0 2, k2 K 1 2]).p (.ref pP) H)
    (d_asked_beads : CallD P w K mg base 2 "asked_beads" (spR (A_asked_beads K C_BB))) : CallD P w K mg base 3 "meetings" (spR (A_meetings K C_BB)) := by
  refine callD_of D sc_meetings (by rintro ks r (⟨t, rfl, _⟩ | ⟨a, b, c, rfl, _⟩) <;> rfl) fun f cdv Ar outer s H E hr => ⟨_, (pss_cons (ps_expr (pe_dE d_asked_beads hr (by decide) (L2N.takes_of rfl rfl rfl rfl) (fun _ _ _ _ z => z) (pa_cons (pv 0) pa_nil)))
      (pss_one (ps_ret (pe_lc (own := [("pair", 1)]) (g := (gName 1))  rfl sc_meetings.nd (pi_tupK (K := K) (pe_gref (by rfl) g_PAIRS) rfl) (blkOk_by (own := [("pair", 1)]) (N := ["beads", "pair"]) (sc := defScope s_meetings) (by decide +kernel)) (fun _ _ _ _ _ => (pg_name (i := 1) sc_meetings.nd rfl (.inl rfl))) (fun _ _ _ _ _ => (pts_one (PW.pt (pw_and (pt_cmpR op_gt (pe_ix (ix_seqK (K := K) rfl) (pv 0) (pe_ix (ix_seqK (K := K) rfl) (pv 1) pe_int (fun _ _ => rfl)) (fun _ _ => rfl)) pe_int (nomark _)) (pw_and1 (pt_cmpR op_gt (pe_ix (ix_seqK (K := K) rfl) (pv 0) (pe_ix (ix_seqK (K := K) rfl) (pv 1) pe_int (fun _ _ => rfl)) (fun _ _ => rfl)) pe_int (nomark _))))))) (fun _ _ _ _ _ => (pv 1)))))), fun ks r h => ?_⟩
  rcases h with ⟨t, rfl, bad, rfl⟩ | ⟨a, b, c, rfl, ha, hb, hc, hs, rfl⟩
  · show DoesE _ _ [.sh (kTh K t), .no] _
    exact de_seq1 (de_drop (ee_call (ea_cons (ev_var rfl) ea_nil) (.inr ⟨t, rfl, bad, rfl⟩)))
  change DoesR _ _ [.sh _, .no] _
  refine' d_seq (d_drop (ev_call (ea_cons (ev_var rfl) ea_nil) (asked_ok ha hb hc hs))) (d_rto (d_retN ?en) ?q)
  case en => walk_at "dx en"
  case q => exact canL_of and_pos and_pos and_pos
abbrev s_kinds_there : Stmt := top 17
theorem sc_kinds_there : FnScope ["beads", "one"] ["beads"] (defScope s_kinds_there) := ⟨rfl, rfl, rfl, by decide +kernel, rfl, by decide +kernel, by decide +kernel⟩
/-! ### kinds_there -/
/-- how many kinds are there -/
def nk (a b c : Int) : Nat := (if 0 < a then 1 else 0) + (if 0 < b then 1 else 0) + (if 0 < c then 1 else 0)
def A_kinds_there (K : PySem.W.Frag) (ks : List Kd) (r : Rs) : Prop := ∃ a b c : Int, ks = [k3 K a b c] ∧ r = .v (kI (nk a b c))
theorem ok_kinds_there (B : Bt mg) (D : DefAt K mg "kinds_there" s_kinds_there ["beads"]) : CallD P w K mg base 1 "kinds_there" (spR (A_kinds_there K)) := by
  refine callD_of D sc_kinds_there (by rintro ks r ⟨a, b, c, rfl, _⟩; rfl) fun f cdv Ar outer s H E hr => ⟨_, (pss_one (ps_ret (pe_callB (call_lenK (K := K) rfl) (by rfl) B.b_len PySem.boot_len (pa_cons (pe_lc (own := [("one", 1)]) (g := (gName 1))  rfl sc_kinds_there.nd (pi_tupK (K := K) (pv 0) rfl) (blkOk_by (own := [("one", 1)]) (N := ["beads", "one"]) (sc := defScope s_kinds_there) (by decide +kernel)) (fun _ _ _ _ _ => (pg_name (i := 1) sc_kinds_there.nd rfl (.inl rfl))) (fun _ _ _ _ _ => (pts_one (pt_cmpR op_gt (pv 1) pe_int (nomark _)))) (fun _ _ _ _ _ => (pv 1))) pa_nil)))), fun ks r h => ?_⟩
  obtain ⟨a, b, c, rfl, rfl⟩ := h
  change DoesR _ _ [.sh _, .no] _
  refine' .inl (d_le (d_ret ?v) (kE_le ?q))
  case v => walk_at "dx ev"
  case q =>
    unfold nk
    by_cases h1 : 0 < a <;> by_cases h2 : 0 < b <;> by_cases h3 : 0 < c <;> simp [h1, h2, h3]
abbrev s_next_meeting : Stmt := top 24
theorem sc_next_meeting : FnScope ["beads", "order", "kind", "one"] ["beads"] (defScope s_next_meeting) := ⟨rfl, rfl, rfl, by decide +kernel, rfl, by decide +kernel, by decide +kernel⟩
/-! ### next_meeting -/
/-- the two kinds of which there are most -/
def nextM (a b c : Int) : Int × Int := if c ≤ a ∧ c ≤ b then (0, 1) else if b < c ∧ b ≤ a then (0, 2) else (1, 2)
theorem nextM_pr (a b c : Int) : Pr (nextM a b c).1 (nextM a b c).2 := by
  unfold nextM
  split
  · exact .inl ⟨rfl, rfl⟩
  · split
    · exact .inr (.inl ⟨rfl, rfl⟩)
    · exact .inr (.inr ⟨rfl, rfl⟩)
theorem order_eq (a b c : Int) : ∃ p q r : Int × Int, isortL [(-a, 0), (-b, 1), (-c, 2)] = [p, q, r] ∧ (if p.2 ≤ q.2 then p.2 else q.2) = (nextM a b c).1 ∧ (if p.2 ≤ q.2 then q.2 else p.2) = (nextM a b c).2 := by
  have lx : ∀ x y i j : Int, i < j → (SrtO.lexB (x, i) (y, j) = decide (x ≤ y)) ∧ (SrtO.lexB (y, j) (x, i) = decide (y < x)) := by
    intro x y i j h
    unfold SrtO.lexB
    constructor
    · by_cases e : x = y
      · simp [e, h]
      · rw [if_neg e]
        by_cases h2 : x < y
        · simp [h2]; omega
        · simp [h2]; omega
    · by_cases e : y = x
      · rw [if_pos e]
        simp [e]; omega
      · rw [if_neg e]
  have l01 := lx (-a) (-b) 0 1 (by decide)
  have l02 := lx (-a) (-c) 0 2 (by decide)
  have l12 := lx (-b) (-c) 1 2 (by decide)
  have e : isortL [(-a, 0), (-b, 1), (-c, 2)] = if -c < -b then (if -c < -a then (if -b < -a then [(-c, 2), (-b, 1), (-a, 0)] else [(-c, 2), (-a, 0), (-b, 1)]) else [(-a, 0), (-c, 2), (-b, 1)]) else (if -b < -a then (if -c < -a then [(-b, 1), (-c, 2), (-a, 0)] else [(-b, 1), (-a, 0), (-c, 2)]) else [(-a, 0), (-b, 1), (-c, 2)]) := by
    by_cases h1 : -c < -b <;> by_cases h2 : -b < -a <;> by_cases h3 : -c < -a <;> (try (exfalso; omega)) <;> simp only [isortL, insL, l01.2, l02.2, l12.2, h1, h2, h3, decide_true, decide_false, if_true, if_false, ite_true, ite_false, Bool.false_eq_true]
  rw [e]
  unfold nextM
  by_cases h1 : -c < -b <;> by_cases h2 : -b < -a <;> by_cases h3 : -c < -a <;> (try (exfalso; omega))
  · have n1 : ¬ (c ≤ a ∧ c ≤ b) := by omega
    have n2 : ¬ (b < c ∧ b ≤ a) := by omega
    exact ⟨_, _, _, by rw [if_pos h1, if_pos h3, if_pos h2], by rw [if_neg n1, if_neg n2]; rfl, by rw [if_neg n1, if_neg n2]; rfl⟩
  · have n1 : ¬ (c ≤ a ∧ c ≤ b) := by omega
    have n2 : b < c ∧ b ≤ a := by omega
    exact ⟨_, _, _, by rw [if_pos h1, if_pos h3, if_neg h2], by rw [if_neg n1, if_pos n2]; rfl, by rw [if_neg n1, if_pos n2]; rfl⟩
  · have n1 : ¬ (c ≤ a ∧ c ≤ b) := by omega
    have n2 : b < c ∧ b ≤ a := by omega
    exact ⟨_, _, _, by rw [if_pos h1, if_neg h3], by rw [if_neg n1, if_pos n2]; rfl, by rw [if_neg n1, if_pos n2]; rfl⟩
  · have n1 : ¬ (c ≤ a ∧ c ≤ b) := by omega
    have n2 : ¬ (b < c ∧ b ≤ a) := by omega
    exact ⟨_, _, _, by rw [if_neg h1, if_pos h2, if_pos h3], by rw [if_neg n1, if_neg n2]; rfl, by rw [if_neg n1, if_neg n2]; rfl⟩
  · have n1 : c ≤ a ∧ c ≤ b := by omega
    exact ⟨_, _, _, by rw [if_neg h1, if_pos h2, if_neg h3], by rw [if_pos n1]; rfl, by rw [if_pos n1]; rfl⟩
  · have n1 : c ≤ a ∧ c ≤ b := by omega
    exact ⟨_, _, _, by rw [if_neg h1, if_neg h2], by rw [if_pos n1]; rfl, by rw [if_pos n1]; rfl⟩
def A_next_meeting (K : PySem.W.Frag) (ks : List Kd) (r : Rs) : Prop := ∃ a b c : Int, ks = [k3 K a b c] ∧ r = .v (kP K (nextM a b c))
theorem ok_next_meeting (B : Bt mg) (D : DefAt K mg "next_meeting" s_next_meeting ["beads"]) : CallD P w K mg base 1 "next_meeting" (spR (A_next_meeting K)) := by
  refine callD_of D sc_next_meeting (by rintro ks r ⟨a, b, c, rfl, _⟩; rfl) fun f cdv Ar outer s H E hr => ⟨_, (pss_cons (ps_set (i := 1) sc_next_meeting.nd rfl (.inl rfl) (pe_callB (cr_sortedPOK (K := K) rfl) (by rfl) B.b_sorted (by decide +kernel) (pa_cons (pe_lc (own := [("kind", 2), ("one", 3)]) (g := (gTup K 2 (gCons (gName 2) (gCons (gName 3) gNil)))) (tt := tYes) rfl sc_next_meeting.nd (pi_enumTK (K := K) (by rfl) B.b_enumerate (pa_cons (pv 0) pa_nil) rfl) (blkOk_by (own := [("kind", 2), ("one", 3)]) (N := ["beads", "order", "kind", "one"]) (sc := defScope s_next_meeting) (by decide +kernel)) (fun _ _ _ _ _ => (pg_tup rfl (pgs_cons (pg_name (i := 2) sc_next_meeting.nd rfl (.inl rfl)) (pgs_cons (pg_name (i := 3) sc_next_meeting.nd rfl (.inl rfl)) pgs_nil)))) (fun _ _ _ _ _ => pts_nil) (fun _ _ _ _ _ => (pe_tup (pa_cons (pe_un un_neg (pv 3)) (pa_cons (pv 2) pa_nil))))) pa_nil)))
      (pss_one (ps_ret (pe_callTy (call_tupleK (K := K) rfl) (by rfl) B.b_tuple (by decide +kernel) (pa_cons (pe_callB (cr_sortedIK (K := K) rfl) (by rfl) B.b_sorted (by decide +kernel) (pa_cons (pe_lst (pa_cons (pe_ix (ix_seqK (K := K) rfl) (pe_ix (ix_seqK (K := K) rfl) (pv 1) pe_int (fun _ _ => rfl)) pe_int (fun _ _ => rfl)) (pa_cons (pe_ix (ix_seqK (K := K) rfl) (pe_ix (ix_seqK (K := K) rfl) (pv 1) pe_int (fun _ _ => rfl)) pe_int (fun _ _ => rfl)) pa_nil))) pa_nil)) pa_nil))))), fun ks r h => ?_⟩
  obtain ⟨a, b, c, rfl, rfl⟩ := h
  change DoesR _ _ [.sh _, .no, .no, .no] _
  obtain ⟨p, q, r, ho, e1, e2⟩ := order_eq a b c
  refine' .inl (d_seq (d_asg (k := kL ([p, q, r].map fun p => kU p.1 p.2)) (ev_ofN (en_to (en_cb (ea_cons (ev_ofN (en_lc (src_enumT (ev_var rfl)) ?lc ?l rfl)) ea_nil) (can_sortPO (ps := [(-a, 0), (-b, 1), (-c, 2)]))) ?o))) (d_le (d_ret (ev_cbU (ea_cons (ev_ofN (en_cb (ea_cons (ev_ofN (en_lst (ea_cons ?i1 (ea_cons ?i2 ea_nil)) ?l2)) ea_nil) can_sort2)) ea_nil) cau_tupleN)) ?q))
  case lc =>
    refine' LcRun.keep ?b0 ?w0 et_yes ?e0 (LcRun.keep ?b1 ?w1 et_yes ?e1 (LcRun.keep ?b2 ?w2 et_yes ?e2 LcRun.nil))
    case b0 => walk_at "dx bnd"
    case w0 => decide
    case e0 => exact ev_tupU (ea_cons (ev_un (ev_var rfl) un_neg1) (ea_cons (ev_var rfl) ea_nil))
    case b1 => walk_at "dx bnd"
    case w1 => decide
    case e1 => exact ev_tupU (ea_cons (ev_un (ev_var rfl) un_neg1) (ea_cons (ev_var rfl) ea_nil))
    case b2 => walk_at "dx bnd"
    case w2 => decide
    case e2 => exact ev_tupU (ea_cons (ev_un (ev_var rfl) un_neg1) (ea_cons (ev_var rfl) ea_nil))
  case l => exact Nat.le_of_ble_eq_true rfl
  case o => rw [ho]
  case i1 => exact ev_op (ev_le (ev_op (ev_var rfl) ev_c (op_ixqL rfl)) kU_le) ev_c (op_ixqT rfl)
  case i2 => exact ev_op (ev_le (ev_op (ev_var rfl) ev_c (op_ixqL rfl)) kU_le) ev_c (op_ixqT rfl)
  case l2 => exact Nat.le_of_ble_eq_true rfl
  case q => rw [e1, e2]; exact Kd.le.refl _
/-! ### lemmas5 -/
theorem eqv_int {i j : Int} : PyData.eqv (.int i) (.int j) = decide (i = j) := by simp [PyData.eqv]; exact Bool.eq_iff_iff.mpr (by simp)
theorem ev_ifT {c : TT} {ta tb : TE} {δ : List Sl} {k : Kd} (h : EvT c δ true) (h1 : EvD ta δ k) : EvD (tIf c ta tb) δ k := ev_if h (fun _ => h1) fun z => nomatch z
theorem ev_ifF {c : TT} {ta tb : TE} {δ : List Sl} {k : Kd} (h : EvT c δ false) (h1 : EvD tb δ k) : EvD (tIf c ta tb) δ k := ev_if h (fun z => nomatch z) fun _ => h1
abbrev s_to_fewest : Stmt := top 25
theorem sc_to_fewest : FnScope ["beads", "found", "meeting"] ["beads"] (defScope s_to_fewest) := ⟨rfl, rfl, rfl, by decide +kernel, rfl, by decide +kernel, by decide +kernel⟩
/-! ### to_fewest7 -/
theorem d_wh {c : TT} {tb : TS} {n : Nat} {δ δ' : List Sl} (P : Nat → List Sl → List Sl → Prop) (h : ∀ n δ δ', P n δ δ' → (EvT c δ false ∧ Paired Sl.le δ δ') ∨ ∃ m δ1, m < n ∧ EvT c δ true ∧ Does tb δ (.nx δ1) ∧ P m δ1 δ') (p : P n δ δ') : Does (tWhile c tb) δ (.nx δ') := by
  have key : ∀ n δ δ', P n δ δ' → ∃ m δx, WhRun c tb m δ δx ∧ Paired Sl.le δx δ' := by
    intro n
    induction n using Nat.strongRecOn with
    | ind n ih =>
      intro δ δ' p
      rcases h n δ δ' p with ⟨h1, h2⟩ | ⟨m, δ1, hm, h1, h2, h3⟩
      · exact ⟨0, δ, .stop h1, h2⟩
      · obtain ⟨k, δx, r, w⟩ := ih m hm δ1 δ' h3
        exact ⟨k + 1, δx, .turn h1 h2 r, w⟩
  obtain ⟨m, δx, r, w⟩ := key n δ δ' p
  exact d_weak (d_while r) w
def tfL : Nat → Int → Int → Int → List (Int × Int)
  | 0, _, _, _ => []
  | n + 1, a, b, c => if 1 < nk a b c then nextM a b c :: tfL n (metF a b c (nextM a b c).1 (nextM a b c).2 1).1 (metF a b c (nextM a b c).1 (nextM a b c).2 1).2.1 (metF a b c (nextM a b c).1 (nextM a b c).2 1).2.2 else []
theorem tf_stop {n : Nat} {a b c : Int} (h : ¬ 1 < nk a b c) : tfL n a b c = [] := by
  cases n with
  | zero => rfl
  | succ n => unfold tfL; rw [if_neg h]
theorem nk2 {a b c : Int} : 1 < nk a b c ↔ (0 < a ∧ 0 < b) ∨ (0 < a ∧ 0 < c) ∨ (0 < b ∧ 0 < c) := by
  unfold nk
  by_cases h1 : 0 < a <;> by_cases h2 : 0 < b <;> by_cases h3 : 0 < c <;> simp [h1, h2, h3]
/-- the meeting of the two most can be, and leaves one bead less -/
theorem next_ok {a b c : Int} (ha : 0 ≤ a) (hb : 0 ≤ b) (hc : 0 ≤ c) (h : 1 < nk a b c) : nextM a b c ∈ canL a b c ∧
    ((nextM a b c = (0, 1) ∧ c ≤ a ∧ c ≤ b ∧ 0 < a ∧ 0 < b) ∨ (nextM a b c = (0, 2) ∧ b < c ∧ b ≤ a ∧ 0 < a ∧ 0 < c) ∨ (nextM a b c = (1, 2) ∧ a ≤ b ∧ a ≤ c ∧ 0 < b ∧ 0 < c)) := by
  have h := nk2.mp h
  unfold nextM
  by_cases h1 : c ≤ a ∧ c ≤ b
  · rw [if_pos h1]
    have e : 0 < a ∧ 0 < b := by omega
    exact ⟨by unfold canL; rw [if_pos e]; simp, .inl ⟨rfl, h1.1, h1.2, e⟩⟩
  · rw [if_neg h1]
    by_cases h2 : b < c ∧ b ≤ a
    · rw [if_pos h2]
      have e : 0 < a ∧ 0 < c := by omega
      exact ⟨by unfold canL; rw [if_pos e]; simp, .inr (.inl ⟨rfl, h2.1, h2.2, e⟩)⟩
    · rw [if_neg h2]
      have e : 0 < b ∧ 0 < c := by omega
      exact ⟨by unfold canL; rw [if_pos e]; simp, .inr (.inr ⟨rfl, by omega, by omega, e⟩)⟩
theorem met_next {a b c : Int} (ha : 0 ≤ a) (hb : 0 ≤ b) (hc : 0 ≤ c) (h : 1 < nk a b c) {t : Int × Int × Int} (e : t = metF a b c (nextM a b c).1 (nextM a b c).2 1) : 0 ≤ t.1 ∧ 0 ≤ t.2.1 ∧ 0 ≤ t.2.2 ∧ t.1 + t.2.1 + t.2.2 = a + b + c - 1 := by
  rcases (next_ok ha hb hc h).2 with ⟨e1, h1, h2, h3, h4⟩ | ⟨e1, h1, h2, h3, h4⟩ | ⟨e1, h1, h2, h3, h4⟩ <;> rw [e1] at e <;> subst e <;> simp [metF] <;> omega
def A_to_fewest (K : PySem.W.Frag) (CB CT : Addr) (ks : List Kd) (r : Rs) : Prop := A_bad1 K CB ks r ∨ (∃ a b c : Int, ks = [k3 K a b c] ∧ 0 ≤ a ∧ 0 ≤ b ∧ 0 ≤ c ∧ 300 < a + b + c ∧ r = .er CT) ∨ ∃ a b c : Int, ∃ n : Nat, ks = [k3 K a b c] ∧ 0 ≤ a ∧ 0 ≤ b ∧ 0 ≤ c ∧ 0 < a + b + c ∧ a + b + c ≤ 300 ∧ a + b + c = n ∧ r = .nl ((tfL n a b c).map (kP K))
theorem ok_to_fewest {C_BB C_TM : Addr} (B : Bt mg) (D : DefAt K mg "to_fewest" s_to_fewest ["beads"]) (g_MOST_joining : ∃ t, mg "MOST_joining" = some (.int 300 t)) (e_TooMany : ErrC K mg "TooMany" C_TM) (d_asked_beads : CallD P w K mg base 2 "asked_beads" (spR (A_asked_beads K C_BB)))
    (d_kinds_there : CallD P w K mg base 1 "kinds_there" (spR (A_kinds_there K))) (d_next_meeting : CallD P w K mg base 1 "next_meeting" (spR (A_next_meeting K))) (d_met : CallD P w K mg base 1 "met" (spR (A_met K))) : CallD P w K mg base 3 "to_fewest" (spR (A_to_fewest K C_BB C_TM)) := by
  refine callD_of D sc_to_fewest (by rintro ks r (⟨t, rfl, _⟩ | ⟨a, b, c, rfl, _⟩ | ⟨a, b, c, n, rfl, _⟩) <;> rfl) fun f cdv Ar outer s H E hr => ⟨_, (pss_cons (ps_expr (pe_dE d_asked_beads hr (by decide) (L2N.takes_of rfl rfl rfl rfl) (fun _ _ _ _ z => z) (pa_cons (pv 0) pa_nil)))
      (pss_cons (ps_if (pt_cmpR op_gt (pe_callB (cr_sumTK (K := K) rfl rfl) (by rfl) B.b_sum (by decide +kernel) (pa_cons (pv 0) pa_nil)) (pe_gint (by rfl) g_MOST_joining) (nomark _)) (pss_one (L2N.ps_raise rfl (L2N.takes_of rfl rfl rfl rfl) (L2N.pmk_own PySem.F.excBase_ValueError e_TooMany.xP e_TooMany.gP e_TooMany.kP (raises_own e_TooMany.bP e_TooMany.tP) rfl))) pss_nil)
      (pss_cons (ps_set (i := 1) sc_to_fewest.nd rfl (.inl rfl) (pe_lst pa_nil))
      (pss_cons (ps_while (passes_of rfl) (pt_cmpR op_gt (pe_d d_kinds_there hr (by decide) (pa_cons (pv 0) pa_nil)) pe_int (nomark _)) (pss_cons (ps_set (i := 2) sc_to_fewest.nd rfl (.inl rfl) (pe_d d_next_meeting hr (by decide) (pa_cons (pv 0) pa_nil)))
      (pss_cons (ps_expr (pe_bm PySem.F.plainAttrs_list PySem.F.slot_list_append PySem.F.type_list_append mt_append (pv 1) (pa_cons (pv 2) pa_nil)))
      (pss_one (ps_set (i := 0) sc_to_fewest.nd rfl (.inl rfl) (pe_d d_met hr (by decide) (pa_cons (pv 0) (pa_cons (pv 2) (pa_cons pe_int pa_nil)))))))))
      (pss_one (ps_ret (pv 1))))))), fun ks r h => ?_⟩
  rcases h with ⟨t, rfl, bad, rfl⟩ | ⟨a, b, c, rfl, ha, hb, hc, hm, rfl⟩ | ⟨a, b, c, n, rfl, ha, hb, hc, hs, hm, hn, rfl⟩
  · show DoesE _ _ [.sh (kTh K t), .no, .no] _
    exact de_seq1 (de_drop (ee_call (ea_cons (ev_var rfl) ea_nil) (.inr ⟨t, rfl, bad, rfl⟩)))
  · show DoesE _ _ [.sh (k3 K a b c), .no, .no] _
    refine' de_seq2 (d_drop (ev_call (ea_cons (ev_var rfl) ea_nil) (asked_ok ha hb hc (by omega)))) (de_seq1 (de_yes (et_to ?tt ?qq) (de_raise rfl)))
    case tt => walk_at "dx et"
    case qq => simp [List.sum]; omega
  change DoesR _ _ [.sh _, .no, .no] _
  refine' d_seq (d_drop (ev_call (ea_cons (ev_var rfl) ea_nil) (asked_ok ha hb hc hs))) (d_skip ?t ?q (d_seq (d_asgN (en_lst ea_nil (Nat.zero_le _))) (d_seq (δ1 := [.no, .ow ((tfL n a b c).map (kP K)), .no]) (d_wh (n := n) (fun n δ δ' => ∃ (a b c : Int) (done : List (Int × Int)), 0 ≤ a ∧ 0 ≤ b ∧ 0 ≤ c ∧ a + b + c = n ∧ done.length + n ≤ 300 ∧ δ = [.sh (k3 K a b c), .ow (done.map (kP K)), .no] ∧ δ' = [.no, .ow ((done ++ tfL n a b c).map (kP K)), .no]) ?wh ?st) (d_retO rfl))))
  case t => walk_at "dx et"
  case q => simp [List.sum]; omega
  case st => exact ⟨a, b, c, [], ha, hb, hc, hn, by rw [List.length_nil]; omega, rfl, rfl⟩
  case wh =>
    rintro n δ δ' ⟨a, b, c, done, ha, hb, hc, hn, hd, rfl, rfl⟩
    have t := et_fz (δ := [.sh (k3 K a b c), .ow (done.map (kP K)), .no]) (et_test (ev_op (k1 := kI (nk a b c)) (ev_call (A := A_kinds_there K) (E := E0) (ea_cons (ev_var (i := 0) rfl) ea_nil) ⟨a, b, c, rfl, rfl⟩) (ev_c : EvD (tC (.int 1)) _ _) (op_I0 (g := fun i j => V.bl (decide (j < i))))))
    by_cases h : 1 < nk a b c
    · have hmet := met_next ha hb hc h rfl
      cases n with
      | zero => have := nk2.mp h; exfalso; omega
      | succ n =>
        refine' .inr ⟨n, [.sh (k3t K (metF a b c (nextM a b c).1 (nextM a b c).2 1)), .ow ((done ++ [nextM a b c]).map (kP K)), .no], Nat.lt_succ_self n, et_to t (decide_eq_true (by omega)), ?body, _, _, _, done ++ [nextM a b c], hmet.1, hmet.2.1, hmet.2.2.1, by omega, by rw [List.length_append, List.length_singleton]; omega, rfl, ?e⟩
        case e =>
          rw [show tfL (n + 1) a b c = nextM a b c :: tfL n (metF a b c (nextM a b c).1 (nextM a b c).2 1).1 (metF a b c (nextM a b c).1 (nextM a b c).2 1).2.1 (metF a b c (nextM a b c).1 (nextM a b c).2 1).2.2 from if_pos h, List.append_assoc]
          rfl
        case body =>
          refine' d_weak (d_seq (d_asg ?c1) (d_seq (d_append rfl (ev_var rfl) ?l) (d_asg ?c2))) ?w
          case c1 => exact ev_call (ea_cons (ev_var rfl) ea_nil) ⟨a, b, c, rfl, rfl⟩
          case l => rw [List.length_map]; omega
          case c2 => exact ev_call (ea_cons (ev_var rfl) (ea_cons (ev_var rfl) (ea_cons ev_c ea_nil))) ⟨a, b, c, _, _, 1, rfl, nextM_pr a b c, rfl⟩
          case w => rw [show (done ++ [nextM a b c]).map (kP K) = done.map (kP K) ++ [kP K (nextM a b c)] from List.map_append]; walk_at "dx weak"
    · refine .inl ⟨et_to t (decide_eq_false (by omega)), ?_⟩
      rw [tf_stop h, List.append_nil]
      walk_at "dx weak"
abbrev s_others_of : Stmt := top 32
theorem sc_others_of : FnScope ["kind", "one"] ["kind"] (defScope s_others_of) := ⟨rfl, rfl, rfl, by decide +kernel, rfl, by decide +kernel, by decide +kernel⟩
/-! ### others_of -/
def Oth (k i j : Int) : Prop := (k = 0 ∧ i = 1 ∧ j = 2) ∨ (k = 1 ∧ i = 0 ∧ j = 2) ∨ (k = 2 ∧ i = 0 ∧ j = 1)
def A_others_of (K : PySem.W.Frag) (ks : List Kd) (r : Rs) : Prop := ∃ k i j : Int, ks = [kI k] ∧ Oth k i j ∧ r = .nl [kI i, kI j]
theorem ok_others_of (B : Bt mg) (D : DefAt K mg "others_of" s_others_of ["kind"]) : CallD P w K mg base 1 "others_of" (spR (A_others_of K)) := by
  refine callD_of D sc_others_of (by rintro ks r ⟨k, i, j, rfl, _⟩; rfl) fun f cdv Ar outer s H E hr => ⟨_, (pss_one (ps_ret (pe_lc (own := [("one", 1)]) (g := (gName 1))  rfl sc_others_of.nd (pi_range1 (by rfl) B.b_range (pa_cons pe_int pa_nil)) (blkOk_by (own := [("one", 1)]) (N := ["kind", "one"]) (sc := defScope s_others_of) (by decide +kernel)) (fun _ _ _ _ _ => (pg_name (i := 1) sc_others_of.nd rfl (.inl rfl))) (fun _ _ _ _ _ => (pts_one (pt_cmpR (op_neK (K := K) hr rfl) (pv 1) (pv 0) (nomark _)))) (fun _ _ _ _ _ => (pv 1))))), fun ks r h => ?_⟩
  obtain ⟨k, i, j, rfl, ho, rfl⟩ := h
  change DoesR _ _ [.sh _, .no] _
  rcases ho with ⟨rfl, rfl, rfl⟩ | ⟨rfl, rfl, rfl⟩ | ⟨rfl, rfl, rfl⟩
  all_goals
    refine' d_rto (d_retN (en_lc (src_range (n := 3) ev_c (by decide)) ?lc (by decide) rfl)) ?q
    case lc => walk_at "dx lc"
    case q => rfl
abbrev s_steps_of : Stmt := top 33
theorem sc_steps_of : FnScope ["beads", "kind", "one", "other"] ["beads", "kind"] (defScope s_steps_of) := ⟨rfl, rfl, rfl, by decide +kernel, rfl, by decide +kernel, by decide +kernel⟩
/-! ### steps_of -/
/-- the two others' counts, the kind's own -/
def Sel (k a b c x y z : Int) : Prop := (k = 0 ∧ x = b ∧ y = c ∧ z = a) ∨ (k = 1 ∧ x = a ∧ y = c ∧ z = b) ∨ (k = 2 ∧ x = a ∧ y = b ∧ z = c)
def stepsG (x y : Int) (n : Nat) : Option Int := if x = 0 ∧ y = 0 then some 0 else if n = 1 ∨ (x - y) % 3 ≠ 0 then none else some (max x y)
def optV : Option Int → V
  | none => .non
  | some s => .int s
def A_steps_of (K : PySem.W.Frag) (ks : List Kd) (r : Rs) : Prop := ∃ a b c k x y z : Int, ks = [k3 K a b c, kI k] ∧ Sel k a b c x y z ∧ r = .v (kE (optV (stepsG x y (nk a b c))))
theorem ok_steps_of (B : Bt mg) (D : DefAt K mg "steps_of" s_steps_of ["beads", "kind"]) (d_others_of : CallD P w K mg base 1 "others_of" (spR (A_others_of K))) (d_kinds_there : CallD P w K mg base 1 "kinds_there" (spR (A_kinds_there K))) : CallD P w K mg base 2 "steps_of" (spR (A_steps_of K)) := by
  refine callD_of D sc_steps_of (by rintro ks r ⟨a, b, c, k, x, y, z, rfl, _⟩; rfl) fun f cdv Ar outer s H E hr => ⟨_, (pss_cons (ps_asg (pe_d d_others_of hr (by decide) (pa_cons (pv 1) pa_nil)) (pg_lst rfl (pgs_cons (pg_name (i := 2) sc_steps_of.nd rfl (.inl rfl)) (pgs_cons (pg_name (i := 3) sc_steps_of.nd rfl (.inl rfl)) pgs_nil))))
      (pss_cons (ps_if (PW.pt (pw_and (pt_cmpR (op_eqK (K := K) hr rfl) (pe_ix (ix_seqK (K := K) rfl) (pv 0) (pv 2) (fun _ _ => rfl)) pe_int (nomark _)) (pw_and1 (pt_cmpR (op_eqK (K := K) hr rfl) (pe_ix (ix_seqK (K := K) rfl) (pv 0) (pv 3) (fun _ _ => rfl)) pe_int (nomark _))))) (pss_one (ps_ret pe_int)) pss_nil)
      (pss_cons (ps_if (PW.pt (pw_or (pt_cmpR (op_eqK (K := K) hr rfl) (pe_d d_kinds_there hr (by decide) (pa_cons (pv 0) pa_nil)) pe_int (nomark _)) (pw_or1 (pt_cmpR (op_neK (K := K) hr rfl) (pe_op op_mod (pe_op op_sub (pe_ix (ix_seqK (K := K) rfl) (pv 0) (pv 2) (fun _ _ => rfl)) (pe_ix (ix_seqK (K := K) rfl) (pv 0) (pv 3) (fun _ _ => rfl))) pe_int) pe_int (nomark _))))) (pss_one (ps_ret pe_non)) pss_nil)
      (pss_one (ps_ret (pe_callB (call_max2 rfl) (by rfl) B.b_max (by decide +kernel) (pa_cons (pe_ix (ix_seqK (K := K) rfl) (pv 0) (pv 2) (fun _ _ => rfl)) (pa_cons (pe_ix (ix_seqK (K := K) rfl) (pv 0) (pv 3) (fun _ _ => rfl)) pa_nil)))))))), fun ks r h => ?_⟩
  obtain ⟨a, b, c, k, x, y, z, rfl, hs, rfl⟩ := h
  change DoesR _ _ [.sh _, .sh _, .no, .no] _
  obtain ⟨i, j, ho, hi, hj⟩ : ∃ i j, Oth k i j ∧ Op (rIx K) (k3 K a b c) (kI i) (kI x) ∧ Op (rIx K) (k3 K a b c) (kI j) (kI y) := by
    rcases hs with ⟨rfl, rfl, rfl, rfl⟩ | ⟨rfl, rfl, rfl, rfl⟩ | ⟨rfl, rfl, rfl, rfl⟩
    · exact ⟨1, 2, .inl ⟨rfl, rfl, rfl⟩, op_ixqT rfl, op_ixqT rfl⟩
    · exact ⟨0, 2, .inr (.inl ⟨rfl, rfl, rfl⟩), op_ixqT rfl, op_ixqT rfl⟩
    · exact ⟨0, 1, .inr (.inr ⟨rfl, rfl, rfl⟩), op_ixqT rfl, op_ixqT rfl⟩
  refine' .inl (d_seq (d_asgG (ev_ofN (en_call (ea_cons (ev_var rfl) ea_nil) ⟨k, i, j, rfl, ho, rfl⟩)) (b_lst (bs_cons b_name (bs_cons b_name bs_nil)) rfl)) ?r)
  change Does _ [.sh (k3 K a b c), .sh (kI k), .sh (kI i), .sh (kI j)] _
  have ex : EvD (tOp (rIx K) (tVar 0) (tVar 2)) [.sh (k3 K a b c), .sh (kI k), .sh (kI i), .sh (kI j)] (kI x) := ev_op (ev_var rfl) (ev_var rfl) hi
  have ey : EvD (tOp (rIx K) (tVar 0) (tVar 3)) [.sh (k3 K a b c), .sh (kI k), .sh (kI i), .sh (kI j)] (kI y) := ev_op (ev_var rfl) (ev_var rfl) hj
  refine' d_seqif (et_and (et_test (ev_op ex ev_c (op_eqk isd_int isd_int rfl rfl))) fun _ => et_test (ev_op ey ev_c (op_eqk isd_int isd_int rfl rfl))) (fun e => d_ret1 (d_to (d_ret ev_c) ?q1)) (fun e => d_seq d_next (d_seqif (et_or (et_test (ev_op (k1 := kI (nk a b c)) (ev_call (ea_cons (ev_var rfl) ea_nil) ⟨a, b, c, rfl, rfl⟩) ev_c (op_eqk isd_int isd_int rfl rfl))) fun _ => et_test (ev_op (ev_op (ev_op ex ey op_I0) ev_c (op_I ?p3)) ev_c (op_nek isd_int isd_int rfl rfl))) (fun e2 => d_ret1 (d_to (d_ret ev_c) ?q2)) (fun e2 => d_seq d_next (d_to (d_ret (ev_cb (ea_cons ex (ea_cons ey ea_nil)) ca_max2)) ?q3))))
  case p3 => show (0 : Int) < 3; decide
  case q1 =>
    rw [eqv_int, eqv_int, Bool.and_eq_true, decide_eq_true_iff, decide_eq_true_iff] at e
    unfold stepsG
    rw [if_pos e]
    rfl
  case q2 =>
    have e1 : ¬ (x = 0 ∧ y = 0) := fun z => by
      rw [z.1, z.2] at e
      cases e
    have e2 : nk a b c = 1 ∨ (x - y) % 3 ≠ 0 := by
      rw [eqv_int, eqv_int] at e2
      simp only [Bool.or_eq_true, decide_eq_true_iff, Bool.not_eq_true', decide_eq_false_iff_not] at e2
      rcases e2 with e2 | e2
      · exact .inl (Int.ofNat_inj.mp e2)
      · exact .inr e2
    unfold stepsG
    rw [if_neg e1, if_pos e2]
    rfl
  case q3 =>
    have e1 : ¬ (x = 0 ∧ y = 0) := fun z => by
      rw [z.1, z.2] at e
      cases e
    have e2 : ¬ (nk a b c = 1 ∨ (x - y) % 3 ≠ 0) := by
      rw [eqv_int, eqv_int] at e2
      simp only [Bool.or_eq_false_iff, decide_eq_false_iff_not, Bool.not_eq_false', decide_eq_true_iff] at e2
      rintro (z | z)
      · exact e2.1 (by rw [z]; rfl)
      · exact z e2.2
    unfold stepsG
    rw [if_neg e1, if_neg e2]
    show V.int _ = V.int _
    congr 1
    split <;> omega
/-! ### sel7 -/
theorem sel_k {k a b c x y z : Int} (h : Sel k a b c x y z) : 0 ≤ k ∧ k ≤ 2 := by
  rcases h with ⟨rfl, _⟩ | ⟨rfl, _⟩ | ⟨rfl, _⟩ <;> decide
theorem et_isNo {e : TE} {δ : List Sl} {o : Option Int} (h : EvD e δ (kE (optV o))) : EvT (tTest (tOp (fun x y H Q => y = .non ∧ Q (.bl (decide (x = .non))) H) e (tC .non))) δ (decide (o = none)) :=
  et_test (ev_op h ev_c (op_isNk fun v H hv => by
    have hv : v = optV o := hv
    subst hv
    cases o with
    | none => rfl
    | some s => rfl))
/-! ### fewlaw -/
/-- a walk through a list, the step told -/
def goodL {α σ : Type} (ok : σ → α → Prop) (step : σ → α → σ) : List α → σ → Prop
  | [], _ => True
  | a :: l, s => ok s a ∧ goodL ok step l (step s a)
theorem forRun_fold {g : TG} {tb : TS} {α σ : Type} {f : α → Kd} {ok : σ → α → Prop} {step : σ → α → σ} {S : σ → List Sl} (h : ∀ s a, ok s a → ∃ ws δ1, Bnd g ws (f a) (S s) δ1 ∧ Does tb δ1 (.nx (S (step s a)))) : ∀ (l : List α) (s : σ), goodL ok step l s → ForRun g tb (l.map f) (S s) (S (l.foldl step s))
  | [], s, _ => .nil
  | a :: l, s, q => by
    obtain ⟨ws, δ1, h1, h2⟩ := h s a q.1
    exact .cons h1 h2 (forRun_fold h l (step s a) q.2)
abbrev T3 := Int × Int × Int
abbrev canT (t : T3) : List (Int × Int) := canL t.1 t.2.1 t.2.2
abbrev metT (m : Int) (t : T3) (p : Int × Int) : T3 := metF t.1 t.2.1 t.2.2 p.1 p.2 m
abbrev sumT (t : T3) : Int := t.1 + t.2.1 + t.2.2
/-- meetings that can be, one behind the other -/
def goesL (m : Int) : List (Int × Int) → T3 → Prop := goodL (fun t p => p ∈ canT t) (metT m)
def endL (m : Int) (l : List (Int × Int)) (t : T3) : T3 := l.foldl (metT m) t
abbrev k3F (p : T3) : Kd := kF [kI p.1, kI p.2.1, kI p.2.2]
/-! ### turnlaw8 -/
/-- the next meeting to a kind -/
def nextK (k x y z : Int) : Int × Int := if x ≠ y ∧ 0 < z then (if y < x then (if k = 2 then (0, 2) else (0, 1)) else (if k = 0 then (0, 2) else (1, 2))) else (if k = 0 then (1, 2) else if k = 1 then (0, 2) else (0, 1))
def oneT (k : Int) (t : T3) : Int := if k = 0 then t.2.1 else t.1
def othT (k : Int) (t : T3) : Int := if k = 2 then t.2.1 else t.2.2
def ownT (k : Int) (t : T3) : Int := if k = 0 then t.1 else if k = 1 then t.2.1 else t.2.2
def tkL : Nat → Int → T3 → List (Int × Int)
  | 0, _, _ => []
  | n + 1, k, t => nextK k (oneT k t) (othT k t) (ownT k t) :: tkL n k (metT 2 t (nextK k (oneT k t) (othT k t) (ownT k t)))
theorem sel_fn {k a b c x y z : Int} (h : Sel k a b c x y z) : oneT k (a, b, c) = x ∧ othT k (a, b, c) = y ∧ ownT k (a, b, c) = z := by
  rcases h with ⟨rfl, rfl, rfl, rfl⟩ | ⟨rfl, rfl, rfl, rfl⟩ | ⟨rfl, rfl, rfl, rfl⟩ <;> exact ⟨rfl, rfl, rfl⟩
theorem tk_cons {k a b c x y z : Int} (h : Sel k a b c x y z) (n : Nat) : tkL (n + 1) k (a, b, c) = nextK k x y z :: tkL n k (metT 2 (a, b, c) (nextK k x y z)) := by
  obtain ⟨h1, h2, h3⟩ := sel_fn h
  rw [← h1, ← h2, ← h3]
  rfl
/-- what holds of the beads while they are brought to the kind -/
def InvK (n : Nat) (x y z : Int) : Prop := 0 ≤ x ∧ 0 ≤ y ∧ 0 ≤ z ∧ (x - y) % 3 = 0 ∧ max x y = n ∧ ((x = 0 ∧ y = 0) ∨ 0 < z ∨ (0 < x ∧ 0 < y))
/-- one meeting on -/
theorem stepK {n : Nat} {k a b c x y z : Int} (h : Sel k a b c x y z) (v : InvK (n + 1) x y z) : nextK k x y z ∈ canL a b c ∧ ∃ a' b' c' x' y' z', metT 2 (a, b, c) (nextK k x y z) = (a', b', c') ∧ Sel k a' b' c' x' y' z' ∧ InvK n x' y' z' ∧ a' + b' + c' = a + b + c := by
  obtain ⟨hx, hy, hz, hm, hn, hd⟩ := v
  have hcan : ∀ p : Int × Int, (p = (0, 1) ∧ 0 < a ∧ 0 < b) ∨ (p = (0, 2) ∧ 0 < a ∧ 0 < c) ∨ (p = (1, 2) ∧ 0 < b ∧ 0 < c) → p ∈ canL a b c := by
    rintro p (⟨rfl, h1⟩ | ⟨rfl, h1⟩ | ⟨rfl, h1⟩) <;> unfold canL <;> rw [if_pos h1] <;> simp
  by_cases q : x ≠ y ∧ 0 < z
  · by_cases g : y < x
    · rcases h with ⟨rfl, rfl, rfl, rfl⟩ | ⟨rfl, rfl, rfl, rfl⟩ | ⟨rfl, rfl, rfl, rfl⟩ <;> unfold nextK <;> rw [if_pos q, if_pos g]
      · exact ⟨hcan _ (.inl ⟨rfl, by omega, by omega⟩), z - 1, x - 1, y + 2, x - 1, y + 2, z - 1, rfl, .inl ⟨rfl, rfl, rfl, rfl⟩, ⟨by omega, by omega, by omega, by omega, by omega, by omega⟩, by omega⟩
      · exact ⟨hcan _ (.inl ⟨rfl, by omega, by omega⟩), x - 1, z - 1, y + 2, x - 1, y + 2, z - 1, rfl, .inr (.inl ⟨rfl, rfl, rfl, rfl⟩), ⟨by omega, by omega, by omega, by omega, by omega, by omega⟩, by omega⟩
      · exact ⟨hcan _ (.inr (.inl ⟨rfl, by omega, by omega⟩)), x - 1, y + 2, z - 1, x - 1, y + 2, z - 1, rfl, .inr (.inr ⟨rfl, rfl, rfl, rfl⟩), ⟨by omega, by omega, by omega, by omega, by omega, by omega⟩, by omega⟩
    · rcases h with ⟨rfl, rfl, rfl, rfl⟩ | ⟨rfl, rfl, rfl, rfl⟩ | ⟨rfl, rfl, rfl, rfl⟩ <;> unfold nextK <;> rw [if_pos q, if_neg g]
      · exact ⟨hcan _ (.inr (.inl ⟨rfl, by omega, by omega⟩)), z - 1, x + 2, y - 1, x + 2, y - 1, z - 1, rfl, .inl ⟨rfl, rfl, rfl, rfl⟩, ⟨by omega, by omega, by omega, by omega, by omega, by omega⟩, by omega⟩
      · exact ⟨hcan _ (.inr (.inr ⟨rfl, by omega, by omega⟩)), x + 2, z - 1, y - 1, x + 2, y - 1, z - 1, rfl, .inr (.inl ⟨rfl, rfl, rfl, rfl⟩), ⟨by omega, by omega, by omega, by omega, by omega, by omega⟩, by omega⟩
      · exact ⟨hcan _ (.inr (.inr ⟨rfl, by omega, by omega⟩)), x + 2, y - 1, z - 1, x + 2, y - 1, z - 1, rfl, .inr (.inr ⟨rfl, rfl, rfl, rfl⟩), ⟨by omega, by omega, by omega, by omega, by omega, by omega⟩, by omega⟩
  · rcases h with ⟨rfl, rfl, rfl, rfl⟩ | ⟨rfl, rfl, rfl, rfl⟩ | ⟨rfl, rfl, rfl, rfl⟩ <;> unfold nextK <;> rw [if_neg q]
    · exact ⟨hcan _ (.inr (.inr ⟨rfl, by omega, by omega⟩)), z + 2, x - 1, y - 1, x - 1, y - 1, z + 2, rfl, .inl ⟨rfl, rfl, rfl, rfl⟩, ⟨by omega, by omega, by omega, by omega, by omega, by omega⟩, by omega⟩
    · exact ⟨hcan _ (.inr (.inl ⟨rfl, by omega, by omega⟩)), x - 1, z + 2, y - 1, x - 1, y - 1, z + 2, rfl, .inr (.inl ⟨rfl, rfl, rfl, rfl⟩), ⟨by omega, by omega, by omega, by omega, by omega, by omega⟩, by omega⟩
    · exact ⟨hcan _ (.inl ⟨rfl, by omega, by omega⟩), x - 1, y - 1, z + 2, x - 1, y - 1, z + 2, rfl, .inr (.inr ⟨rfl, rfl, rfl, rfl⟩), ⟨by omega, by omega, by omega, by omega, by omega, by omega⟩, by omega⟩
theorem tk_fin : ∀ (n : Nat) {k a b c x y z : Int}, Sel k a b c x y z → InvK n x y z → goesL 2 (tkL n k (a, b, c)) (a, b, c) ∧ (tkL n k (a, b, c)).length = n ∧ ownT k (endL 2 (tkL n k (a, b, c)) (a, b, c)) = a + b + c
  | 0, k, a, b, c, x, y, z, h, v => by
    refine ⟨trivial, rfl, ?_⟩
    show ownT k (a, b, c) = _
    rw [(sel_fn h).2.2]
    obtain ⟨hx, hy, hz, hm, hn, hd⟩ := v
    rcases h with ⟨rfl, rfl, rfl, rfl⟩ | ⟨rfl, rfl, rfl, rfl⟩ | ⟨rfl, rfl, rfl, rfl⟩ <;> omega
  | n + 1, k, a, b, c, x, y, z, h, v => by
    obtain ⟨hc, a', b', c', x', y', z', e, h', v', hs⟩ := stepK h v
    obtain ⟨i1, i2, i3⟩ := tk_fin n h' v'
    rw [tk_cons h, e]
    refine ⟨⟨hc, ?_⟩, by rw [List.length_cons, i2], ?_⟩
    · rw [e]; exact i1
    · show ownT k (endL 2 _ (metT 2 (a, b, c) (nextK k x y z))) = _
      rw [e, i3, hs]
/-- the steps told are those of the invariant -/
theorem inv_of {k a b c x y z s : Int} (h : Sel k a b c x y z) (ha : 0 ≤ a) (hb : 0 ≤ b) (hc : 0 ≤ c) (e : stepsG x y (nk a b c) = some s) : ∃ n : Nat, s = n ∧ InvK n x y z := by
  unfold stepsG at e
  split at e
  · rename_i q
    cases e
    refine ⟨0, rfl, ?_⟩
    rcases h with ⟨rfl, rfl, rfl, rfl⟩ | ⟨rfl, rfl, rfl, rfl⟩ | ⟨rfl, rfl, rfl, rfl⟩ <;> exact ⟨by omega, by omega, by omega, by omega, by omega, .inl q⟩
  · rename_i q
    split at e
    · cases e
    · rename_i q2
      cases e
      have hn : ¬ nk a b c = 1 := fun z => q2 (.inl z)
      have hm : (x - y) % 3 = 0 := Decidable.not_not.mp fun z => q2 (.inr z)
      have hp : (0 < a ∧ 0 < b) ∨ (0 < a ∧ 0 < c) ∨ (0 < b ∧ 0 < c) := by
        have : 1 < nk a b c := by
          have h0 : nk a b c ≠ 0 := fun z => by
            unfold nk at z
            rcases h with ⟨rfl, rfl, rfl, rfl⟩ | ⟨rfl, rfl, rfl, rfl⟩ | ⟨rfl, rfl, rfl, rfl⟩ <;> split at z <;> split at z <;> split at z <;> omega
          omega
        exact nk2.mp this
      refine ⟨(max x y).toNat, ?_, ?_⟩
      · rcases h with ⟨rfl, rfl, rfl, rfl⟩ | ⟨rfl, rfl, rfl, rfl⟩ | ⟨rfl, rfl, rfl, rfl⟩ <;> omega
      · rcases h with ⟨rfl, rfl, rfl, rfl⟩ | ⟨rfl, rfl, rfl, rfl⟩ | ⟨rfl, rfl, rfl, rfl⟩ <;> exact ⟨by omega, by omega, by omega, hm, by omega, by omega⟩
abbrev s_to_kind : Stmt := top 35
theorem sc_to_kind : FnScope ["beads", "kind", "found", "one", "other", "great", "meeting"] ["beads", "kind"] (defScope s_to_kind) := ⟨rfl, rfl, rfl, by decide +kernel, rfl, by decide +kernel, by decide +kernel⟩
/-! ### to_kind7 -/
theorem kind_ok {C : Addr} {k : Int} (h0 : 0 ≤ k) (h2 : k ≤ 2) : A_asked_kind K C [kI k] (.v kN) := .inl ⟨k, rfl, h0, h2, rfl⟩
theorem sel_ix {k a b c x y z i j : Int} (hs : Sel k a b c x y z) (ho : Oth k i j) : Op (rIx K) (k3 K a b c) (kI i) (kI x) ∧ Op (rIx K) (k3 K a b c) (kI j) (kI y) ∧ Op (rIx K) (k3 K a b c) (kI k) (kI z) := by
  rcases hs with ⟨rfl, rfl, rfl, rfl⟩ | ⟨rfl, rfl, rfl, rfl⟩ | ⟨rfl, rfl, rfl, rfl⟩
  · rcases ho with ⟨h, rfl, rfl⟩ | ⟨h, rfl, rfl⟩ | ⟨h, rfl, rfl⟩
    · exact ⟨op_ixqT rfl, op_ixqT rfl, op_ixqT rfl⟩
    · cases h
    · cases h
  · rcases ho with ⟨h, rfl, rfl⟩ | ⟨h, rfl, rfl⟩ | ⟨h, rfl, rfl⟩
    · cases h
    · exact ⟨op_ixqT rfl, op_ixqT rfl, op_ixqT rfl⟩
    · cases h
  · rcases ho with ⟨h, rfl, rfl⟩ | ⟨h, rfl, rfl⟩ | ⟨h, rfl, rfl⟩
    · cases h
    · cases h
    · exact ⟨op_ixqT rfl, op_ixqT rfl, op_ixqT rfl⟩
theorem sel_oth {k a b c x y z : Int} (hs : Sel k a b c x y z) : ∃ i j, Oth k i j := by
  rcases hs with ⟨rfl, _⟩ | ⟨rfl, _⟩ | ⟨rfl, _⟩
  · exact ⟨1, 2, .inl ⟨rfl, rfl, rfl⟩⟩
  · exact ⟨0, 2, .inr (.inl ⟨rfl, rfl, rfl⟩)⟩
  · exact ⟨0, 1, .inr (.inr ⟨rfl, rfl, rfl⟩)⟩
def A_to_kind (K : PySem.W.Frag) (CB CK CT : Addr) (ks : List Kd) (r : Rs) : Prop := (∃ t : Th, ks = [kTh K t, kN] ∧ BadB t ∧ r = .er CB) ∨ (∃ e : Et, ks = [k3 K 200 200 200, kEt K e] ∧ BadK e ∧ r = .er CK) ∨ (∃ a b c : Int, ks = [k3 K a b c, kI 0] ∧ 0 ≤ a ∧ 0 ≤ b ∧ 0 ≤ c ∧ 300 < a + b + c ∧ r = .er CT) ∨ ∃ a b c k x y z : Int, ks = [k3 K a b c, kI k] ∧ 0 ≤ a ∧ 0 ≤ b ∧ 0 ≤ c ∧ 0 < a + b + c ∧ a + b + c ≤ 300 ∧ Sel k a b c x y z ∧
  ((stepsG x y (nk a b c) = none ∧ r = .v kN) ∨ ∃ n : Nat, stepsG x y (nk a b c) = some (n : Int) ∧ InvK n x y z ∧ r = .nl ((tkL n k (a, b, c)).map (kP K)))
theorem ok_to_kind {C_BB C_BK C_TM : Addr} (B : Bt mg) (D : DefAt K mg "to_kind" s_to_kind ["beads", "kind"]) (g_MOST_turning : ∃ t, mg "MOST_turning" = some (.int 300 t)) (e_TooMany : ErrC K mg "TooMany" C_TM) (d_asked_beads : CallD P w K mg base 2 "asked_beads" (spR (A_asked_beads K C_BB))) (d_asked_kind : CallD P w K mg base 2 "asked_kind" (spR (A_asked_kind K C_BK)))
    (d_steps_of : CallD P w K mg base 2 "steps_of" (spR (A_steps_of K))) (d_others_of : CallD P w K mg base 1 "others_of" (spR (A_others_of K))) (d_met : CallD P w K mg base 1 "met" (spR (A_met K))) : CallD P w K mg base 3 "to_kind" (spR (A_to_kind K C_BB C_BK C_TM)) := by
  refine callD_of D sc_to_kind (by rintro ks r (⟨t, rfl, _⟩ | ⟨e, rfl, _⟩ | ⟨a, b, c, rfl, _⟩ | ⟨a, b, c, k, x, y, z, rfl, _⟩) <;> rfl) fun f cdv Ar outer s H E hr => ⟨_, (pss_cons (ps_expr (pe_dE d_asked_beads hr (by decide) (L2N.takes_of rfl rfl rfl rfl) (fun _ _ _ _ z => z) (pa_cons (pv 0) pa_nil)))
      (pss_cons (ps_expr (pe_dE d_asked_kind hr (by decide) (L2N.takes_of rfl rfl rfl rfl) (fun _ _ _ _ z => z) (pa_cons (pv 1) pa_nil)))
      (pss_cons (ps_if (pt_cmpR op_gt (pe_callB (cr_sumTK (K := K) rfl rfl) (by rfl) B.b_sum (by decide +kernel) (pa_cons (pv 0) pa_nil)) (pe_gint (by rfl) g_MOST_turning) (nomark _)) (pss_one (L2N.ps_raise rfl (L2N.takes_of rfl rfl rfl rfl) (L2N.pmk_own PySem.F.excBase_ValueError e_TooMany.xP e_TooMany.gP e_TooMany.kP (raises_own e_TooMany.bP e_TooMany.tP) rfl))) pss_nil)
      (pss_cons (ps_if (pt_cmpR op_isN (pe_d d_steps_of hr (by decide) (pa_cons (pv 0) (pa_cons (pv 1) pa_nil))) pe_non (nomark _)) (pss_one (ps_ret pe_non)) pss_nil)
      (pss_cons (ps_set (i := 2) sc_to_kind.nd rfl (.inl rfl) (pe_lst pa_nil))
      (pss_cons (ps_asg (pe_d d_others_of hr (by decide) (pa_cons (pv 1) pa_nil)) (pg_lst rfl (pgs_cons (pg_name (i := 3) sc_to_kind.nd rfl (.inl rfl)) (pgs_cons (pg_name (i := 4) sc_to_kind.nd rfl (.inl rfl)) pgs_nil))))
      (pss_cons (ps_while (passes_of rfl) (PW.pt (pw_or (pt_cmpR op_gt (pe_ix (ix_seqK (K := K) rfl) (pv 0) (pv 3) (fun _ _ => rfl)) pe_int (nomark _)) (pw_or1 (pt_cmpR op_gt (pe_ix (ix_seqK (K := K) rfl) (pv 0) (pv 4) (fun _ _ => rfl)) pe_int (nomark _))))) (pss_cons (ps_set (i := 5) sc_to_kind.nd rfl (.inl rfl) (pe_ifExp (pt_cmpR op_gt (pe_ix (ix_seqK (K := K) rfl) (pv 0) (pv 3) (fun _ _ => rfl)) (pe_ix (ix_seqK (K := K) rfl) (pv 0) (pv 4) (fun _ _ => rfl)) (nomark _)) (pv 3) (pv 4)))
      (pss_cons (ps_set (i := 6) sc_to_kind.nd rfl (.inl rfl) (pe_tup (pa_cons (pv 3) (pa_cons (pv 4) pa_nil))))
      (pss_cons (ps_if (PW.pt (pw_and (pt_cmpR (op_neK (K := K) hr rfl) (pe_ix (ix_seqK (K := K) rfl) (pv 0) (pv 3) (fun _ _ => rfl)) (pe_ix (ix_seqK (K := K) rfl) (pv 0) (pv 4) (fun _ _ => rfl)) (nomark _)) (pw_and1 (pt_cmpR op_gt (pe_ix (ix_seqK (K := K) rfl) (pv 0) (pv 1) (fun _ _ => rfl)) pe_int (nomark _))))) (pss_one (ps_set (i := 6) sc_to_kind.nd rfl (.inl rfl) (pe_ifExp (pt_cmpR op_lt (pv 5) (pv 1) (nomark _)) (pe_tup (pa_cons (pv 5) (pa_cons (pv 1) pa_nil))) (pe_tup (pa_cons (pv 1) (pa_cons (pv 5) pa_nil)))))) pss_nil)
      (pss_cons (ps_expr (pe_bm PySem.F.plainAttrs_list PySem.F.slot_list_append PySem.F.type_list_append mt_append (pv 2) (pa_cons (pv 6) pa_nil)))
      (pss_one (ps_set (i := 0) sc_to_kind.nd rfl (.inl rfl) (pe_d d_met hr (by decide) (pa_cons (pv 0) (pa_cons (pv 6) (pa_cons pe_int pa_nil)))))))))))
      (pss_one (ps_ret (pv 2)))))))))), fun ks r h => ?_⟩
  rcases h with ⟨t, rfl, bad, rfl⟩ | ⟨e, rfl, bad, rfl⟩ | ⟨a, b, c, rfl, ha, hb, hc, hm, rfl⟩ | ⟨a, b, c, k, x, y, z, rfl, ha, hb, hc, hs, hm, hx, h⟩
  · show DoesE _ _ [.sh (kTh K t), .sh kN, .no, .no, .no, .no, .no] _
    exact de_seq1 (de_drop (ee_call (ea_cons (ev_var rfl) ea_nil) (.inr ⟨t, rfl, bad, rfl⟩)))
  · show DoesE _ _ [.sh (k3 K 200 200 200), .sh (kEt K e), .no, .no, .no, .no, .no] _
    exact de_seq2 (d_drop (ev_call (ea_cons (ev_var rfl) ea_nil) (asked_ok (by decide) (by decide) (by decide) (by decide)))) (de_seq1 (de_drop (ee_call (ea_cons (ev_var rfl) ea_nil) (.inr ⟨e, rfl, bad, rfl⟩))))
  · show DoesE _ _ [.sh (k3 K a b c), .sh (kI 0), .no, .no, .no, .no, .no] _
    refine' de_seq2 (d_drop (ev_call (ea_cons (ev_var rfl) ea_nil) (asked_ok ha hb hc (by omega)))) (de_seq2 (d_drop (ev_call (ea_cons (ev_var rfl) ea_nil) (kind_ok (by decide) (by decide)))) (de_seq1 (de_yes (et_to ?tt ?qq) (de_raise rfl))))
    case tt => walk_at "dx et"
    case qq => simp [List.sum]; omega
  change DoesR _ _ [.sh _, .sh _, .no, .no, .no, .no, .no] _
  obtain ⟨kl, ku⟩ := sel_k hx
  obtain ⟨i, j, ho⟩ := sel_oth hx
  rcases h with ⟨hn, rfl⟩ | ⟨n, hn, hv, rfl⟩
  · refine' .inl (d_seq (d_drop (ev_call (ea_cons (ev_var rfl) ea_nil) (asked_ok ha hb hc hs))) (d_seq (d_drop (ev_call (ea_cons (ev_var rfl) ea_nil) (kind_ok kl ku))) (d_skip ?t ?q (d_seqif (et_isNo (ev_call (ea_cons (ev_var rfl) (ea_cons (ev_var rfl) ea_nil)) ⟨a, b, c, k, x, y, z, rfl, hx, rfl⟩)) (fun e => d_ret1 (d_ret ev_c)) (fun e => absurd hn (of_decide_eq_false e))))))
    case t => walk_at "dx et"
    case q => simp [List.sum]; omega
  · refine' d_seq (d_drop (ev_call (ea_cons (ev_var rfl) ea_nil) (asked_ok ha hb hc hs))) (d_seq (d_drop (ev_call (ea_cons (ev_var rfl) ea_nil) (kind_ok kl ku))) (d_skip ?t ?q (d_skip (et_isNo (ev_call (ea_cons (ev_var rfl) (ea_cons (ev_var rfl) ea_nil)) ⟨a, b, c, k, x, y, z, rfl, hx, rfl⟩)) (decide_eq_false (by rw [hn]; exact fun z => nomatch z)) (d_seq (d_asgN (en_lst ea_nil (Nat.zero_le _))) (d_seq (d_asgG (ev_ofN (en_call (ea_cons (ev_var rfl) ea_nil) ⟨k, i, j, rfl, ho, rfl⟩)) (b_lst (bs_cons b_name (bs_cons b_name bs_nil)) rfl)) (d_seq (δ1 := [.no, .no, .ow ((tkL n k (a, b, c)).map (kP K)), .no, .no, .no, .no])
      (d_wh (n := n) (fun n δ δ' => ∃ (a b c x y z : Int) (done : List (Int × Int)), Sel k a b c x y z ∧ InvK n x y z ∧ done.length + n ≤ 300 ∧ δ = [.sh (k3 K a b c), .sh (kI k), .ow (done.map (kP K)), .sh (kI i), .sh (kI j), .no, .no] ∧ δ' = [.no, .no, .ow ((done ++ tkL n k (a, b, c)).map (kP K)), .no, .no, .no, .no]) ?wh ?st) (d_retO rfl)))))))
    case t => walk_at "dx et"
    case q => simp [List.sum]; omega
    case st =>
      refine ⟨a, b, c, x, y, z, [], hx, hv, ?_, rfl, rfl⟩
      obtain ⟨v1, v2, v3, v4, v5, v6⟩ := hv
      rw [List.length_nil]
      rcases hx with ⟨rfl, rfl, rfl, rfl⟩ | ⟨rfl, rfl, rfl, rfl⟩ | ⟨rfl, rfl, rfl, rfl⟩ <;> omega
    case wh =>
      clear hn hv hx ha hb hc hs hm
      clear a b c x y z n
      rintro n δ δ' ⟨a, b, c, x, y, z, done, hx, hv, hd, rfl, rfl⟩
      obtain ⟨oi, oj, ok⟩ := sel_ix (K := K) hx ho
      have ev0 : ∀ (g m : Sl), EvD (tOp (rIx K) (tVar 0) (tVar 3)) [.sh (k3 K a b c), .sh (kI k), .ow (done.map (kP K)), .sh (kI i), .sh (kI j), g, m] (kI x) := fun _ _ => ev_op (ev_var rfl) (ev_var rfl) oi
      have ev1 : ∀ (g m : Sl), EvD (tOp (rIx K) (tVar 0) (tVar 4)) [.sh (k3 K a b c), .sh (kI k), .ow (done.map (kP K)), .sh (kI i), .sh (kI j), g, m] (kI y) := fun _ _ => ev_op (ev_var rfl) (ev_var rfl) oj
      have ev2 : ∀ (g m : Sl), EvD (tOp (rIx K) (tVar 0) (tVar 1)) [.sh (k3 K a b c), .sh (kI k), .ow (done.map (kP K)), .sh (kI i), .sh (kI j), g, m] (kI z) := fun _ _ => ev_op (ev_var rfl) (ev_var rfl) ok
      have t := et_or (et_test (ev_op (ev0 .no .no) (ev_c : EvD (tC (.int 0)) _ _) (op_I0 (g := fun i j => V.bl (decide (j < i)))))) (fun _ => et_test (ev_op (ev1 .no .no) (ev_c : EvD (tC (.int 0)) _ _) (op_I0 (g := fun i j => V.bl (decide (j < i))))))
      cases n with
      | zero =>
        obtain ⟨v1, v2, v3, v4, v5, v6⟩ := hv
        refine .inl ⟨et_to t (by rw [decide_eq_false (by omega), decide_eq_false (by omega)]; rfl), ?_⟩
        rw [show tkL 0 k (a, b, c) = [] from rfl, List.append_nil]
        walk_at "dx weak"
      | succ n =>
        obtain ⟨hcan, a', b', c', x', y', z', em, hx', hv', _⟩ := stepK hx hv
        obtain ⟨v1, v2, v3, v4, v5, v6⟩ := hv
        have tk := tk_cons hx n
        generalize hp : nextK k x y z = p at hcan em tk
        obtain ⟨p1, p2⟩ := p
        refine' .inr ⟨n, [.sh (k3 K a' b' c'), .sh (kI k), .ow ((done ++ [(p1, p2)]).map (kP K)), .sh (kI i), .sh (kI j), .no, .no], Nat.lt_succ_self n, et_to t ?tt, ?body, a', b', c', x', y', z', done ++ [(p1, p2)], hx', hv', by rw [List.length_append, List.length_singleton]; omega, rfl, ?e⟩
        case tt =>
          rcases (show 0 < x ∨ 0 < y by omega) with h | h
          · rw [decide_eq_true h]; rfl
          · rw [decide_eq_true h, Bool.or_true]
        case e => rw [tk, em, List.append_assoc]; rfl
        case body =>
          refine' d_weak (d_seq (d_asg (k := kI (if y < x then i else j)) ?g) (d_seq (d_asg (k := k2 K i j) ?m) (d_seq (δ1 := [.sh (k3 K a b c), .sh (kI k), .ow (done.map (kP K)), .sh (kI i), .sh (kI j), .sh (kI (if y < x then i else j)), .sh (k2 K p1 p2)]) ?f (d_seq (d_append rfl (ev_var rfl) ?l) (d_asg (k := k3 K a' b' c') ?n))))) ?w
          case g =>
            refine ev_to (ev_ite (et_test (ev_op (ev0 _ _) (ev1 _ _) op_I0)) (fun _ => ev_var rfl) (fun _ => ev_var rfl)) ?_
            by_cases q : y < x
            · rw [if_pos (decide_eq_true q), if_pos q]
            · rw [if_neg (by rw [decide_eq_true_iff]; exact q), if_neg q]
          case m => exact ev_tup (ea_cons (ev_var rfl) (ea_cons (ev_var rfl) ea_nil)) (Nat.le_of_ble_eq_true rfl)
          case f =>
            have t2 := et_and (et_test (ev_op (ev0 (.sh (kI (if y < x then i else j))) (.sh (k2 K i j))) (ev1 (.sh (kI (if y < x then i else j))) (.sh (k2 K i j))) (op_nek (K := K) isd_int isd_int rfl rfl))) (fun _ => et_test (ev_op (ev2 (.sh (kI (if y < x then i else j))) (.sh (k2 K i j))) (ev_c : EvD (tC (.int 0)) _ _) (op_I0 (g := fun i j => V.bl (decide (j < i))))))
            by_cases q : x ≠ y ∧ 0 < z
            · refine' d_yes (et_to t2 (by rw [eqv_int, decide_eq_false q.1, decide_eq_true q.2]; rfl)) (d_asg (k := k2 K p1 p2) ?mm)
              have tl := et_test (ev_op (ev_var (δ := [.sh (k3 K a b c), .sh (kI k), .ow (done.map (kP K)), .sh (kI i), .sh (kI j), .sh (kI (if y < x then i else j)), .sh (k2 K i j)]) (i := 5) rfl) (ev_var (i := 1) rfl) (op_I0 (g := fun i j => V.bl (decide (i < j)))))
              have t5 : ∀ (δ : List Sl) (u v : Nat) (m n : Int), δ[u]? = some (.sh (kI m)) → δ[v]? = some (.sh (kI n)) → EvD (tTup (tCons (tVar u) (tCons (tVar v) tNil))) δ (k2 K m n) := fun δ u v m n h1 h2 => ev_tup (ea_cons (ev_var h1) (ea_cons (ev_var h2) ea_nil)) (Nat.le_of_ble_eq_true rfl)
              unfold nextK at hp
              rw [if_pos q] at hp
              by_cases gr : y < x
              · rw [if_pos gr] at hp tl ⊢
                rcases ho with ⟨rfl, rfl, rfl⟩ | ⟨rfl, rfl, rfl⟩ | ⟨rfl, rfl, rfl⟩
                · cases hp
                  exact ev_ifF (et_to tl rfl) (t5 _ 1 5 0 1 rfl rfl)
                · cases hp
                  exact ev_ifT (et_to tl rfl) (t5 _ 5 1 0 1 rfl rfl)
                · cases hp
                  exact ev_ifT (et_to tl rfl) (t5 _ 5 1 0 2 rfl rfl)
              · rw [if_neg gr] at hp tl ⊢
                rcases ho with ⟨rfl, rfl, rfl⟩ | ⟨rfl, rfl, rfl⟩ | ⟨rfl, rfl, rfl⟩
                · cases hp
                  exact ev_ifF (et_to tl rfl) (t5 _ 1 5 0 2 rfl rfl)
                · cases hp
                  exact ev_ifF (et_to tl rfl) (t5 _ 1 5 1 2 rfl rfl)
                · cases hp
                  exact ev_ifT (et_to tl rfl) (t5 _ 5 1 1 2 rfl rfl)
            · unfold nextK at hp
              rw [if_neg q] at hp
              have hb : (!PyData.eqv (.int x) (.int y) && decide (0 < z)) = false := by
                rw [eqv_int]
                by_cases q1 : x = y
                · rw [decide_eq_true q1]; rfl
                · rw [decide_eq_false (fun h => q ⟨q1, h⟩), Bool.and_false]
              have hp2 : (i, j) = (p1, p2) := by
                rcases ho with ⟨rfl, rfl, rfl⟩ | ⟨rfl, rfl, rfl⟩ | ⟨rfl, rfl, rfl⟩ <;> exact hp
              cases hp2
              exact d_no (et_to t2 hb) d_next
          case l => rw [List.length_map]; omega
          case n => exact ev_le (ev_call (ea_cons (ev_var rfl) (ea_cons (ev_var rfl) (ea_cons ev_c ea_nil))) ⟨a, b, c, p1, p2, 2, rfl, canL_pr hcan, rfl⟩) (by rw [show metF a b c p1 p2 2 = (a', b', c') from em]; exact Kd.le.refl _)
          case w => rw [show (done ++ [(p1, p2)]).map (kP K) = done.map (kP K) ++ [k2 K p1 p2] from List.map_append]; walk_at "dx weak"
abbrev s_law_refused : Stmt := top 37
theorem sc_law_refused : FnScope ["_law_ask", "_law_thing", "_law_due", "error", "_law_kinds", "_law_kind"] ["_law_ask", "_law_thing", "_law_due"] (defScope s_law_refused) := ⟨rfl, rfl, rfl, by decide +kernel, rfl, by decide +kernel, by decide +kernel⟩
/-! ### refused7 -/
theorem takesN0 {X : Cx} : L2N.Takes X (fun _ _ _ _ => False) := fun _ _ x => by
  obtain ⟨_, _, _, _, _, _, _, _, _, _, _, _, _, _, _, _, z⟩ := x
  exact z.elim
theorem hotOf {X : Cx} {a : Addr} {oe : Obj} {cls : Value} {d : Option Addr} {pn : List (Addr × Obj)} (hz : L2N.Zn cls d oe) (hf : ∃ vs, oe.data = .fields vs) : L2H.HotC (X.suite a ((a, oe) :: pn)) := by
  obtain ⟨vs, hv⟩ := hf
  exact ⟨(a, oe), ⟨rfl, vs, hv, hz.2.2 vs hv⟩, List.mem_cons_self⟩
theorem op_eqU {X : Cx} {K : PySem.W.Frag} (hu : X.A.units + 64 < cLine) (hK : X.K = K) : OpR X (compareOp .Eq) (rEqD K) := by
  subst hK
  exact op_eqD hu
theorem pe_callFK {X : Cx} {P : Program} {w : World} {K : PySem.W.Frag} {mg : Str → Option Value} {base : Heap} {i j k : Nat} {x : Str} {e : Expr} {es : List Expr} {t : TA} {p pos : Pos} {E : L2.St → XK} (e1 : X.prog = P) (e2 : X.w = w) (e3 : X.K = K) (e4 : X.mg = mg) (e5 : X.base = base) (hr : Room j X.A) (hk : k ≤ j) (hN : X.N[i]? = some x) (hv : Vis X.env.scope x) (hx : ∀ σ, PassesAt (L2N.CX X.prog X.w) X σ (E σ)) (ha : PA X (e :: es) t)
    (hdb : (x == ("__debug__" : Str)) = false := by decide) (hcd : (x == ("__classdict__" : Str)) = false := by decide) (he : starEach (e :: es) X.env = (false, eval e X.env) :: starEach es X.env := by rfl) (hpl : (backTo pos (starEach es X.env)).any (·.1) = false := by rfl) :
    PE X (.Call (.Name x p) (e :: es) [] pos) (tCallF P w K mg base k i E t) := by
  subst e1 e2 e3 e4 e5
  exact pe_callF hr hk hN hv hx ha hdb hcd he hpl
/-- the suite's reading, for an error whose class is told of -/
def tSuite (G : Addr → Prop) (t : Addr → Addr → TS) : Addr → Value → Option Addr → TS := fun a cls d Dn σ H => ∃ D, G D ∧ cls = .ref D ∧ d = none ∧ t D a Dn σ H
theorem pss_suite {X : Cx} {sts : List Stmt} {G : Addr → Prop} {t : Addr → Addr → TS} {a : Addr} {cls : Value} {d : Option Addr} (h : ∀ D, G D → cls = .ref D → d = none → PSs X sts (t D a)) : PSs X sts (tSuite G t a cls d) :=
  ⟨fun pins s σ H Dn I ⟨D, h1, h2, h3, q⟩ => (h D h1 h2 h3).run pins s σ H Dn I q⟩
/-- what is told of an own error class D: what its errors are, and what they aren't -/
structure ErrD (K : PySem.W.Frag) (CB CM CK CT CE D : Addr) (b0 b1 b2 b3 : Bool) : Prop where
  x : ExcC K D
  k0 : PySem.W.kitOne K (.ref D) (.ref CB) = some b0
  k1 : PySem.W.kitOne K (.ref D) (.ref CM) = some b1
  k2 : PySem.W.kitOne K (.ref D) (.ref CK) = some b2
  k3 : PySem.W.kitOne K (.ref D) (.ref CT) = some b3
  kv : PySem.W.kitOne K (.ref D) (.type "ValueError") = some true
  em : PySem.W.exmOne K (.ref D) (.ref CE) = some true
/-- the classes, by their numbers -/
structure Errs (K : PySem.W.Frag) (mg : Str → Option Value) (CB CM CK CT CE : Addr) : Prop where
  gB : mg "BadBeads" = some (.ref CB)
  gM : mg "BadMeeting" = some (.ref CM)
  gK : mg "BadKind" = some (.ref CK)
  gT : mg "TooMany" = some (.ref CT)
  gE : mg "BeadError" = some (.ref CE)
  d0 : ErrD K CB CM CK CT CE CB true false false false
  d1 : ErrD K CB CM CK CT CE CM false true false false
  d2 : ErrD K CB CM CK CT CE CK false false true false
  d3 : ErrD K CB CM CK CT CE CT false false false true
def Due (CB CM CK CT : Addr) (due : Int) (D : Addr) : Prop := (due = 0 ∧ D = CB) ∨ (due = 1 ∧ D = CM) ∨ (due = 2 ∧ D = CK) ∨ (due = 3 ∧ D = CT)
def A_law_refused (P : Program) (w : World) (K : PySem.W.Frag) (mg : Str → Option Value) (base : Heap) (CB CM CK CT : Addr) (ks : List Kd) (r : Rs) : Prop := ∃ (A : List Kd → Rs → Prop) (k : Kd) (due : Int) (D : Addr), ks = [kFn P w K mg base 4 A, k, kI due] ∧ A [k] (.er D) ∧ Due CB CM CK CT due D ∧ r = .v (kB true)
theorem ok_law_refused {C_BB C_BM C_BK C_TM C_BE : Addr} (B : Bt mg) (D : DefAt K mg "_law_refused" s_law_refused ["_law_ask", "_law_thing", "_law_due"]) (g_errs : Errs K mg C_BB C_BM C_BK C_TM C_BE) : CallD P w K mg base 5 "_law_refused" (spR (A_law_refused P w K mg base C_BB C_BM C_BK C_TM)) := by
  refine callD_of D sc_law_refused (by rintro ks r ⟨A, k, due, D, rfl, _⟩; rfl) fun f cdv Ar outer s H E hr => ?_
  refine' ⟨_, pss_cons ?tried (pss_one (ps_ret pe_bl)), fun ks r h => ?all⟩
  case tried =>
    refine' L2N.ps_try_as (i := 3) (ts := tSuite (ExcC K) ?t7) rfl rfl sc_law_refused.nd rfl rfl ⟨rfl, rfl, .inl g_errs.gE⟩ takesN0 ?body ?suite
    case body =>
      intro W pn xe tk _
      exact pss_one (ps_expr (pe_callFK (i := 0) (k := 4) (E := WE W) (P := P) (w := w) (K := K) (mg := mg) (base := base) rfl rfl rfl rfl rfl hr (Nat.le_refl 4) rfl (.inl rfl) (fun σ => L2N.passAt tk σ) (pa_cons (pv 1) pa_nil)))
    case suite =>
      intro a oe cls d pn hz hf
      refine' pss_suite (G := ExcC K) ?inner
      case inner =>
        intro D1 hD hc hd
        have hz' : Zc (.ref D1) none oe := by rw [← hc, ← hd]; exact hz.zc
        exact pss_cons (ps_set (i := 4) sc_law_refused.nd rfl (.inl rfl) (pe_lst (pa_cons (pe_callB (call_isE hD hz' hf) (by rfl) B.b_isinstance PyProof.Rows.boot_isinstance (pa_cons (pv 3) (pa_cons (pe_gref (by rfl) g_errs.gB) pa_nil)))
          (pa_cons (pe_callB (call_isE hD hz' hf) (by rfl) B.b_isinstance PyProof.Rows.boot_isinstance (pa_cons (pv 3) (pa_cons (pe_gref (by rfl) g_errs.gM) pa_nil))) (pa_cons (pe_callB (call_isE hD hz' hf) (by rfl) B.b_isinstance PyProof.Rows.boot_isinstance (pa_cons (pv 3) (pa_cons (pe_gref (by rfl) g_errs.gK) pa_nil))) pa_nil)))))
          (pss_cons (ps_set (i := 4) sc_law_refused.nd rfl (.inl rfl) (pe_op op_cat (pv 4) (pe_lst (pa_cons (pe_callB (call_isE hD hz' hf) (by rfl) B.b_isinstance PyProof.Rows.boot_isinstance (pa_cons (pv 3) (pa_cons (pe_gref (by rfl) g_errs.gT) pa_nil)))
            (pa_cons (pe_callB (call_isE hD hz' hf) (by rfl) B.b_isinstance PyProof.Rows.boot_isinstance (pa_cons (pv 3) (pa_cons (pe_ty (n := "ValueError") (by rfl) B.b_ValueError (by decide +kernel)) pa_nil))) pa_nil)))))
          (pss_one (ps_ret (pe_cmpR (op_eqU (K := K) (by exact hr.units) rfl) (pv 4) (pe_op op_cat (pe_lcH (own := [("_law_kind", 5)]) (g := (gName 5)) (hotOf hz hf) sc_law_refused.nd (L2H.pi_range1H (by rfl) B.b_range (pa_cons pe_int pa_nil)) (blkOk_by (own := [("_law_kind", 5)]) (N := ["_law_ask", "_law_thing", "_law_due", "error", "_law_kinds", "_law_kind"]) (sc := defScope s_law_refused) (by decide +kernel)) (fun _ _ _ _ _ _ _ => pg_name (i := 5) sc_law_refused.nd rfl (.inl rfl)) (fun _ _ _ _ _ _ _ => pe_cmpR op_eq (pv 5) (pv 2) (nomark _))) (pe_lst (pa_cons pe_bl pa_nil))) (nomark _)))))
  obtain ⟨A, k, due, Dd, rfl, hA, hd, rfl⟩ := h
  obtain ⟨b0, b1, b2, b3, ed, fin⟩ : ∃ b0 b1 b2 b3 : Bool, ErrD K C_BB C_BM C_BK C_TM C_BE Dd b0 b1 b2 b3 ∧ PyData.eqv (.list [.bool b0, .bool b1, .bool b2, .bool b3, .bool true]) (.list [.bool (decide (V.int 0 = V.int due)), .bool (decide (V.int 1 = V.int due)), .bool (decide (V.int 2 = V.int due)), .bool (decide (V.int 3 = V.int due)), .bool true]) = true := by
    rcases hd with ⟨rfl, rfl⟩ | ⟨rfl, rfl⟩ | ⟨rfl, rfl⟩ | ⟨rfl, rfl⟩
    · exact ⟨_, _, _, _, g_errs.d0, by decide +kernel⟩
    · exact ⟨_, _, _, _, g_errs.d1, by decide +kernel⟩
    · exact ⟨_, _, _, _, g_errs.d2, by decide +kernel⟩
    · exact ⟨_, _, _, _, g_errs.d3, by decide +kernel⟩
  change DoesR _ _ [.sh (kFn P w K mg base 4 A), .sh k, .sh (kI due), .no, .no, .no] _
  refine' .inl (d_ret1 (d_tryAs (fun W => dx_drop (ex_callF rfl (ea_cons (ev_var rfl) ea_nil) hA)) ed.em fun a => ?suite))
  case suite =>
    have isE : ∀ {δ : List Sl} {c : V} {cv : Value} {b : Bool}, δ[3]? = some (.sh (kE (.ref a))) → ClsV c cv → PySem.W.kitOne K (.ref Dd) cv = some b → EvD (tCB (rIsE K Dd a) (tCons (tVar 3) (tCons (tC c) tNil))) δ (kB b) := fun h1 h2 h3 => ev_cb (ea_cons (ev_var h1) (ea_cons ev_c ea_nil)) (ca_isE (fun u r => h2.eq r) h3)
    intro H0 Hb H σ Dn g tk
    refine ⟨Dd, ed.x, rfl, rfl, ?_⟩
    revert H0 Hb H σ Dn
    show Does _ [.sh (kFn P w K mg base 4 A), .sh k, .sh (kI due), .sh (kE (.ref a)), .no, .no] (.rt (kB true))
    refine' d_seq (d_asg (ev_ofN (en_lst (ea_cons (isE rfl (.own _) ed.k0) (ea_cons (isE rfl (.own _) ed.k1) (ea_cons (isE rfl (.own _) ed.k2) ea_nil))) (Nat.le_of_ble_eq_true rfl)))) (d_seq (d_asg (ev_ofN (en_op (ev_var rfl) (ev_ofN (en_lst (ea_cons (isE rfl (.own _) ed.k3) (ea_cons (isE rfl (.ty _) ed.kv) ea_nil)) (Nat.le_of_ble_eq_true rfl))) (op_catk (Nat.le_of_ble_eq_true rfl))))) (d_to (d_ret (ev_op (k1 := kL [kB b0, kB b1, kB b2, kB b3, kB true]) (k2 := kL [kB (decide (V.int 0 = V.int due)), kB (decide (V.int 1 = V.int due)), kB (decide (V.int 2 = V.int due)), kB (decide (V.int 3 = V.int due)), kB true]) (ev_var rfl) (ev_ofN (en_op (k1 := kL [kB (decide (V.int 0 = V.int due)), kB (decide (V.int 1 = V.int due)), kB (decide (V.int 2 = V.int due)), kB (decide (V.int 3 = V.int due))]) (k2 := kL [kB true]) (ev_ofN (en_lc (src_range (n := 4) ev_c (by decide)) ?lc (by decide) rfl)) (ev_ofN (en_lst (ea_cons ev_c ea_nil) (Nat.le_of_ble_eq_true rfl))) (op_catk (Nat.le_of_ble_eq_true rfl)))) (op_eqk (K := K) (d := .list [.bool b0, .bool b1, .bool b2, .bool b3, .bool true]) (e := .list [.bool (decide (V.int 0 = V.int due)), .bool (decide (V.int 1 = V.int due)), .bool (decide (V.int 2 = V.int due)), .bool (decide (V.int 3 = V.int due)), .bool true]) (isd_lst ?d1) (isd_lst ?d2) rfl rfl))) (by rw [fin])))
    case lc => exact LcRun.keep b_name (by decide) et_yes (ev_op (ev_var rfl) (ev_var rfl) (op_eqE rfl)) (LcRun.keep b_name (by decide) et_yes (ev_op (ev_var rfl) (ev_var rfl) (op_eqE rfl)) (LcRun.keep b_name (by decide) et_yes (ev_op (ev_var rfl) (ev_var rfl) (op_eqE rfl)) (LcRun.keep b_name (by decide) et_yes (ev_op (ev_var rfl) (ev_var rfl) (op_eqE rfl)) LcRun.nil)))
    case d1 => walk_at "dx isds"
    case d2 => walk_at "dx isds"
abbrev s_law_all : Stmt := top 38
theorem sc_law_all : FnScope ["_law_asks", "_law_things", "_law_due", "_law_ask", "_law_thing"] ["_law_asks", "_law_things", "_law_due"] (defScope s_law_all) := ⟨rfl, rfl, rfl, by decide +kernel, rfl, by decide +kernel, by decide +kernel⟩
/-! ### all7 -/
theorem lc_each {g : TG} {te : TE} {vs ws : List Nat} {δ : List Sl} (hw : ∀ w ∈ ws, w ∈ vs) : ∀ ts : List Kd, (∀ t ∈ ts, ∃ δ1, Bnd g ws t (wipeD δ vs) δ1 ∧ EvD te δ1 (kB true)) → LcRun g tYes te vs δ ts ((List.replicate ts.length true).map kB)
  | [], _ => .nil
  | t :: ts, h => by
    obtain ⟨δ1, h1, h2⟩ := h t List.mem_cons_self
    exact .keep h1 hw et_yes h2 (lc_each hw ts fun u hu => h u (List.mem_cons_of_mem _ hu))
def A_law_all (P : Program) (w : World) (K : PySem.W.Frag) (mg : Str → Option Value) (base : Heap) (CB CM CK CT : Addr) (ks : List Kd) (r : Rs) : Prop := ∃ (A : List Kd → Rs → Prop) (n : Nat) (ts : List Kd) (due : Int) (D : Addr), ks = [kL (List.replicate n (kFn P w K mg base 4 A)), kL ts, kI due] ∧ ts.length ≤ 1000 ∧ (∀ t ∈ ts, A [t] (.er D)) ∧ Due CB CM CK CT due D ∧ r = .v (kB true)
theorem ok_law_all {C_BB C_BM C_BK C_TM : Addr} (B : Bt mg) (D : DefAt K mg "_law_all" s_law_all ["_law_asks", "_law_things", "_law_due"]) (d__law_refused : CallD P w K mg base 5 "_law_refused" (spR (A_law_refused P w K mg base C_BB C_BM C_BK C_TM))) : CallD P w K mg base 6 "_law_all" (spR (A_law_all P w K mg base C_BB C_BM C_BK C_TM)) := by
  refine callD_of D sc_law_all (by rintro ks r ⟨A, n, ts, due, D, rfl, _⟩; rfl) fun f cdv Ar outer s H E hr => ⟨_, (pss_cons (ps_for (passes_of rfl) rfl (pi_listK (K := K) (pv 0) rfl) (pg_name (i := 3) sc_law_all.nd rfl (.inr rfl)) (pss_one (ps_if (pt_not (pt_val (pe_callB (cr_allK (K := K) rfl rfl) (by rfl) B.b_all (by decide +kernel) (pa_cons (pe_lc (own := [("_law_thing", 4)]) (g := (gName 4)) (tt := tYes) rfl sc_law_all.nd (pi_listK (K := K) (pv 1) rfl) (blkOk_by (own := [("_law_thing", 4)]) (N := ["_law_asks", "_law_things", "_law_due", "_law_ask", "_law_thing"]) (sc := defScope s_law_all) (by decide +kernel)) (fun _ _ _ _ _ => (pg_name (i := 4) sc_law_all.nd rfl (.inl rfl))) (fun _ _ _ _ _ => pts_nil) (fun _ _ _ _ _ => (pe_d d__law_refused hr (by decide) (pa_cons (pv 3) (pa_cons (pv 4) (pa_cons (pv 2) pa_nil)))))) pa_nil)))) (pss_one (ps_ret pe_bl)) pss_nil)))
      (pss_one (ps_ret pe_bl))), fun ks r h => ?_⟩
  obtain ⟨A, n, ts, due, Dd, rfl, hl, hA, hd, rfl⟩ := h
  change DoesR _ _ [.sh _, .sh _, .sh _, .no, .no] _
  refine' .inl (d_seq (d_for (src_list (ys := List.replicate n (kFn P w K mg base 4 A)) (ev_var rfl)) (forRun_all _ fun k hk => ?turn)) (d_ret ev_c))
  case turn =>
    obtain rfl := List.eq_of_mem_replicate hk
    refine' ⟨_, _, b_name, d_weak (d_skip1 (et_not (et_b (b := true) (ev_to (ev_cb (ea_cons (ev_ofN (en_lc (src_list (ys := ts) (ev_var rfl)) (lc_each (ws := [4]) (by decide) ts fun t ht => ⟨_, b_name, ?call⟩) (Nat.le_trans hl (by decide)) rfl)) ea_nil) (ca_all (bs := List.replicate ts.length true))) ?q))) rfl) ?w⟩
    case call => exact ev_call (ea_cons (ev_var rfl) (ea_cons (ev_var rfl) (ea_cons (ev_var rfl) ea_nil))) ⟨A, t, due, Dd, rfl, hA t ht, hd, rfl⟩
    case q => simp
    case w => walk_at "dx weak"
/-! ### plain7 -/
/-! what the law hands in -/
def NegE (e : Et) : Prop := e.whole = false ∨ ∃ i, e = .int i ∧ i < 0
def bads (m : Int) : List Et := [.non, .str "1", .bl true, .bl false, .lst [1], .tup [1], .dct, .int (-1), .int (-1 - m)]
theorem bads_neg {m : Int} (h : 0 ≤ m) : ∀ e ∈ bads m, NegE e := by
  unfold bads
  simp only [List.forall_mem_cons, List.not_mem_nil, false_implies, implies_true, and_true]
  exact ⟨.inl rfl, .inl rfl, .inl rfl, .inl rfl, .inl rfl, .inl rfl, .inl rfl, .inr ⟨_, rfl, by decide⟩, .inr ⟨_, rfl, by omega⟩⟩
theorem NegE.ok {e : Et} (h : NegE e) : e.ok = false := by
  rcases h with h | ⟨i, rfl, h⟩
  · cases e with
    | int i => cases h
    | _ => rfl
  · exact decide_eq_false (by omega)
theorem NegE.kind {e : Et} (h : NegE e) : BadK e := by
  rcases h with h | ⟨i, rfl, h⟩
  · exact .inl h
  · exact .inr ⟨i, rfl, by omega⟩
def beadsOf (e : Et) : List Th := [.tp [e, .int 1, .int 2], .tp [.int 1, e, .int 2], .tp [.int 1, .int 2, e]]
def pairsOf (e : Et) : List Th := [.tp [e, .int 1], .tp [.int 0, e]]
theorem beadsOf_bad {e : Et} (h : NegE e) : ∀ t ∈ beadsOf e, BadB t := by
  have h := h.ok
  unfold beadsOf
  simp only [List.forall_mem_cons, List.not_mem_nil, false_implies, implies_true, and_true]
  exact ⟨.inr (.inl ⟨_, _, _, rfl, by rw [h]; rfl⟩), .inr (.inl ⟨_, _, _, rfl, by rw [h]; rfl⟩), .inr (.inl ⟨_, _, _, rfl, by rw [h]; rfl⟩)⟩
theorem pairsOf_bad {e : Et} (h : NegE e) : ∀ t ∈ pairsOf e, BadM t := by
  unfold pairsOf
  simp only [List.forall_mem_cons, List.not_mem_nil, false_implies, implies_true, and_true]
  rcases h with h | ⟨i, rfl, h⟩
  · exact ⟨.inr (.inl ⟨_, _, rfl, by rw [h]; rfl⟩), .inr (.inl ⟨_, _, rfl, by rw [h]; rfl⟩)⟩
  · exact ⟨.inr (.inr ⟨_, _, rfl, by omega⟩), .inr (.inr ⟨_, _, rfl, by omega⟩)⟩
def beads0 (m : Int) : List Th := [.el .non, .el (.int 5), .tp [], .tp [.int 1, .int 2], .tp [.int 1, .int 2, .int 3, .int 4], .el (.lst [1, 2, 3]), .el (.str "123"), .el .dct, .tp [.int 0, .int 0, .int 0], .tp [.int m, .int m]]
def pairs0 : List Th := [.el .non, .el (.int 5), .tp [], .tp [.int 0], .tp [.int 0, .int 1, .int 2], .el (.lst [0, 1]), .el (.str "01"), .el .dct, .tp [.int 0, .int 0], .tp [.int 1, .int 0], .tp [.int 0, .int 3], .tp [.int (-1), .int 1]]
def pairs1 : List Th := [.tp [.int 0, .int 2], .tp [.int 1, .int 2], .tp [.int 2, .int 0]]
def pairs2 (m : Int) : List Th := [.tp [.int 0, .int (2 + m)], .tp [.int 0, .int (3 + m)]]
theorem beads0_bad (m : Int) : ∀ t ∈ beads0 m, BadB t := by
  unfold beads0
  simp only [List.forall_mem_cons, List.not_mem_nil, false_implies, implies_true, and_true]
  exact ⟨rfl, rfl, .inl (by decide), .inl (by decide), .inl (by decide), rfl, rfl, rfl, .inr (.inr rfl), .inl (show (2 : Nat) ≠ 3 by decide)⟩
theorem pairs0_bad : ∀ t ∈ pairs0, BadM t := by
  unfold pairs0
  simp only [List.forall_mem_cons, List.not_mem_nil, false_implies, implies_true, and_true]
  exact ⟨rfl, rfl, .inl (by decide), .inl (by decide), .inl (by decide), rfl, rfl, rfl, .inr (.inr ⟨_, _, rfl, by decide⟩), .inr (.inr ⟨_, _, rfl, by decide⟩), .inr (.inr ⟨_, _, rfl, by decide⟩), .inr (.inr ⟨_, _, rfl, by decide⟩)⟩
theorem pairs1_bad : ∀ t ∈ pairs1, BadM t := by
  unfold pairs1
  simp only [List.forall_mem_cons, List.not_mem_nil, false_implies, implies_true, and_true]
  exact ⟨.inr (.inr ⟨_, _, rfl, by decide⟩), .inr (.inr ⟨_, _, rfl, by decide⟩), .inr (.inr ⟨_, _, rfl, by decide⟩)⟩
theorem pairs2_bad {m : Int} (h : 0 ≤ m) : ∀ t ∈ pairs2 m, BadM t := by
  unfold pairs2
  simp only [List.forall_mem_cons, List.not_mem_nil, false_implies, implies_true, and_true]
  exact ⟨.inr (.inr ⟨_, _, rfl, by omega⟩), .inr (.inr ⟨_, _, rfl, by omega⟩)⟩
theorem foldl_app {α β : Type} (f : α → List β) : ∀ (l : List α) (s : List β), l.foldl (fun s a => s ++ f a) s = s ++ l.flatMap f
  | [], s => by simp
  | a :: l, s => by rw [List.foldl_cons, foldl_app f l, List.flatMap_cons, List.append_assoc]
def beadsT (m : Int) : List Th := beads0 m ++ (bads m).flatMap beadsOf
def pairsT (m : Int) : List Th := (pairs0 ++ pairs1) ++ (bads m).flatMap pairsOf
theorem beadsT_bad {m : Int} (h : 0 ≤ m) : ∀ t ∈ beadsT m, BadB t := fun t ht => by
  rcases List.mem_append.mp ht with ht | ht
  · exact beads0_bad m t ht
  · obtain ⟨e, he, ht⟩ := List.mem_flatMap.mp ht
    exact beadsOf_bad (bads_neg h e he) t ht
theorem pairsT_bad {m : Int} (h : 0 ≤ m) : ∀ t ∈ pairsT m ++ pairs2 m, BadM t := fun t ht => by
  rcases List.mem_append.mp ht with ht | ht
  · rcases List.mem_append.mp ht with ht | ht
    · rcases List.mem_append.mp ht with ht | ht
      · exact pairs0_bad t ht
      · exact pairs1_bad t ht
    · obtain ⟨e, he, ht⟩ := List.mem_flatMap.mp ht
      exact pairsOf_bad (bads_neg h e he) t ht
  · exact pairs2_bad h t ht
def kindsT (m : Int) : List Et := bads m ++ [.int 3, .int (3 + m), .str "0"]
theorem kindsT_bad {m : Int} (h : 0 ≤ m) : ∀ e ∈ kindsT m, BadK e := fun e he => by
  rcases List.mem_append.mp he with he | he
  · exact (bads_neg h e he).kind
  · rcases List.mem_cons.mp he with rfl | he
    · exact .inr ⟨_, rfl, by decide⟩
    · rcases List.mem_cons.mp he with rfl | he
      · exact .inr ⟨_, rfl, by omega⟩
      · rcases List.mem_cons.mp he with rfl | he
        · exact .inl rfl
        · cases he
theorem bads_len (m : Int) : (bads m).length = 9 := rfl
theorem beadsT_len (m : Int) : (beadsT m).length = 37 := rfl
theorem pairsT_len (m : Int) : (pairsT m).length = 33 := rfl
/-! functions as values, their promises weakened -/
theorem kFn_le {j k : Nat} {A A' : List Kd → Rs → Prop} (hk : j ≤ k) (h : ∀ ks r, A' ks r → A ks r) : (kFn P w K mg base j A).le (kFn P w K mg base k A') := fun v H ⟨f, h1, h2⟩ => ⟨f, h1, fun H' e => ⟨(h2 H' e).at_, fun Ar outer s us vs Q E hr e0 r ⟨Hb, ks, rr, q1, q2⟩ => (h2 H' e).run Ar outer s us vs Q E (hr.mono hk) e0 r ⟨Hb, ks, rr, h _ _ q1, q2⟩⟩⟩
theorem Sg_less {H0 H1 Hb H : Hp} {σ : L2.St} {δ : List Sl} (g : Sg H0 Hb H σ δ) (e : Same H1 H0) : Sg H1 Hb H σ δ := ⟨g.ex, e.trans g.fr, g.len, g.sh, fun i ks h => by
  obtain ⟨p, xs, h1, h2, h3, h4, h5⟩ := g.ow i ks h
  exact ⟨p, xs, h1, h2, e.free h3, h4, h5⟩, g.ne⟩
theorem dt_pre {T : Addr} {q : Str} {t : TS} {δ δ1 δ2 : List Sl} (h1 : DoesT T q tNext δ δ1) (h2 : DoesT T q t δ1 δ2) : DoesT T q t δ δ2 := fun H0 Hb H σ D g w =>
  h1 H0 Hb H σ { D with nx := fun σ' H' => t D σ' H' } g fun Hb' H' σ' a b => h2 H0 Hb' H' σ' D b fun Hc H2 σ2 a2 b2 => w Hc H2 σ2 (a.trans a2) b2
/-- the owned list is known from here on -/
theorem dt_frz {T : Addr} {q : Str} {t : TS} {δ δ2 : List Sl} {i : Nat} {ks : List Kd} (h : δ[i]? = some (.ow ks)) (d : DoesT T q t (δ.set i (.sh (kL ks))) δ2) : DoesT T q t δ δ2 := dt_pre (dt_of (d_frz h d_next)) d
def A_M (K : PySem.W.Frag) (C : Addr) (ks : List Kd) (r : Rs) : Prop := ∃ t : Th, ks = [kTh K t] ∧ BadM t ∧ r = .er C
def A_K (K : PySem.W.Frag) (C : Addr) (ks : List Kd) (r : Rs) : Prop := ∃ e : Et, ks = [kEt K e] ∧ BadK e ∧ r = .er C
def A_T (K : PySem.W.Frag) (C : Addr) (ks : List Kd) (r : Rs) : Prop := ∃ a b c : Int, ks = [k3 K a b c] ∧ 0 ≤ a ∧ 0 ≤ b ∧ 0 ≤ c ∧ 300 < a + b + c ∧ r = .er C
abbrev s_law : Stmt := top 39
theorem sc_law : FnScope ["_law_script", "_law_cell", "_law_more", "_law_bad", "_law_beads", "_law_one", "_law_asks", "_law_pairs", "_law_great"] ["_law_script"] (defScope s_law) := ⟨rfl, rfl, rfl, by decide +kernel, rfl, by decide +kernel, by decide +kernel⟩
/-! ### law7 -/
def sp7 (K : PySem.W.Frag) (TL : Addr) : Sp := fun vs H Q _ => ∃ (Hb : Hp) (ns : List Int), Same Hb H ∧ AllK Hb vs [kS K (ns.map kI)] ∧ Hb TL = none ∧ H TL = some (.tbl #[]) ∧ ∀ H', Q (.bl true) H'
theorem ok_law {f cL TL : Addr} {od an : Option Addr} {osl : Array (Option Value)} {oc kV doc pm ct : Value} {C_BB C_BM C_BK C_TM : Addr} (B : Bt mg) (lk : K.lookup f = some ⟨oc, od, .func (PySem.W.fnOf "law" "law" (defArgs s_law) (defBody s_law) (defScope s_law) .none kV doc pm an (.ref cL) ct), osl⟩) (hcd : PySem.W.codeIn K (.ref cL) "law" = true) (TB : LamX.TabB base mg cL TL)
    (D_meetings : DefAt K mg "meetings" s_meetings ["beads"])
    (D_last_kinds : DefAt K mg "last_kinds" s_last_kinds ["beads"])
    (D_fewest_left : DefAt K mg "fewest_left" s_fewest_left ["beads"])
    (D_to_fewest : DefAt K mg "to_fewest" s_to_fewest ["beads"])
    (d_meetings : CallD P w K mg base 3 "meetings" (spR (A_meetings K C_BB)))
    (d_last_kinds : CallD P w K mg base 3 "last_kinds" (spR (A_bad1 K C_BB)))
    (d_fewest_left : CallD P w K mg base 3 "fewest_left" (spR (A_bad1 K C_BB)))
    (d_to_fewest : CallD P w K mg base 3 "to_fewest" (spR (A_to_fewest K C_BB C_TM)))
    (d_joined : CallD P w K mg base 3 "joined" (spR (A_door2 K C_BB C_BM)))
    (d_turned : CallD P w K mg base 3 "turned" (spR (A_door2 K C_BB C_BM)))
    (d_all_of : CallD P w K mg base 3 "all_of" (spR (A_all_of K C_BB C_BK)))
    (d_to_kind : CallD P w K mg base 3 "to_kind" (spR (A_to_kind K C_BB C_BK C_TM)))
    (d__law_all : CallD P w K mg base 6 "_law_all" (spR (A_law_all P w K mg base C_BB C_BM C_BK C_TM))) : FnOk P w K mg base (L2N.CX P w) 7 f (PySem.W.fnOf "law" "law" (defArgs s_law) (defBody s_law) (defScope s_law) .none kV doc pm an (.ref cL) ct) ["_law_script"] (sp7 K TL) := by
  obtain ⟨a_meetings, g_meetings, l_meetings⟩ := clb_def D_meetings d_meetings
  obtain ⟨a_last_kinds, g_last_kinds, l_last_kinds⟩ := clb_def D_last_kinds d_last_kinds
  obtain ⟨a_fewest_left, g_fewest_left, l_fewest_left⟩ := clb_def D_fewest_left d_fewest_left
  obtain ⟨a_to_fewest, g_to_fewest, l_to_fewest⟩ := clb_def D_to_fewest d_to_fewest
  have l1 : (kE (.ref a_meetings)).le (kFn P w K mg base 4 (A_bad1 K C_BB)) := fun v H h => kFn_le (by decide) (fun ks r q => .inl q) v H (l_meetings v H h)
  have l2 : (kE (.ref a_last_kinds)).le (kFn P w K mg base 4 (A_bad1 K C_BB)) := fun v H h => kFn_le (by decide) (fun ks r q => q) v H (l_last_kinds v H h)
  have l3 : (kE (.ref a_fewest_left)).le (kFn P w K mg base 4 (A_bad1 K C_BB)) := fun v H h => kFn_le (by decide) (fun ks r q => q) v H (l_fewest_left v H h)
  have l4 : (kE (.ref a_to_fewest)).le (kFn P w K mg base 4 (A_bad1 K C_BB)) := fun v H h => kFn_le (by decide) (fun ks r q => .inl q) v H (l_to_fewest v H h)
  have l5 : (kE (.ref a_to_fewest)).le (kFn P w K mg base 4 (A_T K C_TM)) := fun v H h => kFn_le (by decide) (fun ks r ⟨a, b, c, q⟩ => .inr (.inl ⟨a, b, c, q⟩)) v H (l_to_fewest v H h)
  refine fn_of lk hcd sc_law (by rintro vs H Q E ⟨Hb, ns, _, h, _⟩; rw [h.len]; rfl) fun Ar outer s H vs Q E hr h => ?_
  obtain ⟨Hb, ns, hs, hv, hbT, hT, q⟩ := h
  have hqL : (("law" : Str) ++ ".<locals>." ++ "<lambda>" : Str) = "law.<locals>.<lambda>" := by decide +kernel
  refine' ⟨_, (pss_cons (ps_for (passes_of rfl) rfl (pi_listK (K := K) (pe_op op_cat (pe_slice (sl_listK (K := K) rfl) (pv 0) po_none (po_some pe_int)) (pe_lst (pa_cons (pe_callB (call_lenK (K := K) rfl) (by rfl) B.b_len PySem.boot_len (pa_cons (pv 0) pa_nil)) pa_nil))) rfl) (pg_name (i := 1) sc_law.nd rfl (.inl rfl)) (pss_cons (ps_set (i := 2) sc_law.nd rfl (.inl rfl) (pe_op op_mod (pe_callB call_abs (by rfl) B.b_abs (by decide +kernel) (pa_cons (pv 1) pa_nil)) (pe_op op_pow pe_int pe_int)))
      (pss_cons (ps_set (i := 3) sc_law.nd rfl (.inl rfl) (pe_lst (pa_cons pe_non (pa_cons pe_str (pa_cons pe_bl (pa_cons pe_bl (pa_cons (pe_lst (pa_cons pe_int pa_nil)) (pa_cons (pe_tup (pa_cons pe_int pa_nil)) (pa_cons pe_dnewK (pa_cons (pe_un un_neg pe_int) (pa_cons (pe_op op_sub (pe_un un_neg pe_int) (pv 2)) pa_nil)))))))))))
      (pss_cons (ps_set (i := 4) sc_law.nd rfl (.inl rfl) (pe_lst (pa_cons pe_non (pa_cons pe_int (pa_cons (pe_tup pa_nil) (pa_cons (pe_tup (pa_cons pe_int (pa_cons pe_int pa_nil))) (pa_cons (pe_tup (pa_cons pe_int (pa_cons pe_int (pa_cons pe_int (pa_cons pe_int pa_nil))))) (pa_cons (pe_lst (pa_cons pe_int (pa_cons pe_int (pa_cons pe_int pa_nil)))) (pa_cons pe_str (pa_cons pe_dnewK (pa_cons (pe_tup (pa_cons pe_int (pa_cons pe_int (pa_cons pe_int pa_nil)))) (pa_cons (pe_tup (pa_cons (pv 2) (pa_cons (pv 2) pa_nil))) pa_nil))))))))))))
      (pss_cons (ps_for (passes_of rfl) rfl (pi_listK (K := K) (pv 3) rfl) (pg_name (i := 5) sc_law.nd rfl (.inl rfl)) (pss_one (ps_expr (pe_bm PySem.F.plainAttrs_list PySem.F.slot_list_extend PySem.F.type_list_extend mt_extend (pv 4) (pa_cons (pe_lst (pa_cons (pe_tup (pa_cons (pv 5) (pa_cons pe_int (pa_cons pe_int pa_nil)))) (pa_cons (pe_tup (pa_cons pe_int (pa_cons (pv 5) (pa_cons pe_int pa_nil)))) (pa_cons (pe_tup (pa_cons pe_int (pa_cons pe_int (pa_cons (pv 5) pa_nil)))) pa_nil)))) pa_nil)))))
      (pss_cons (ps_set (i := 6) sc_law.nd rfl (.inl rfl) (pe_lst (pa_cons (pe_gref (by rfl) g_meetings) (pa_cons (pe_gref (by rfl) g_last_kinds) (pa_cons (pe_gref (by rfl) g_fewest_left) (pa_cons (pe_gref (by rfl) g_to_fewest) (pa_cons (pe_lam1 TB rfl hqL (by decide) rfl) pa_nil)))))))
      (pss_cons (ps_set (i := 6) sc_law.nd rfl (.inl rfl) (pe_op op_cat (pv 6) (pe_lst (pa_cons (pe_lam1 TB rfl hqL (by decide) rfl) (pa_cons (pe_lam1 TB rfl hqL (by decide) rfl) (pa_cons (pe_lam1 TB rfl hqL (by decide) rfl) pa_nil))))))
      (pss_cons (ps_if (pt_not (pt_val (pe_d d__law_all hr (by decide) (pa_cons (pv 6) (pa_cons (pv 4) (pa_cons pe_int pa_nil)))))) (pss_one (ps_ret pe_bl)) pss_nil)
      (pss_cons (ps_set (i := 7) sc_law.nd rfl (.inl rfl) (pe_lst (pa_cons pe_non (pa_cons pe_int (pa_cons (pe_tup pa_nil) (pa_cons (pe_tup (pa_cons pe_int pa_nil)) (pa_cons (pe_tup (pa_cons pe_int (pa_cons pe_int (pa_cons pe_int pa_nil)))) (pa_cons (pe_lst (pa_cons pe_int (pa_cons pe_int pa_nil))) (pa_cons pe_str (pa_cons pe_dnewK (pa_cons (pe_tup (pa_cons pe_int (pa_cons pe_int pa_nil))) (pa_cons (pe_tup (pa_cons pe_int (pa_cons pe_int pa_nil))) (pa_cons (pe_tup (pa_cons pe_int (pa_cons pe_int pa_nil))) (pa_cons (pe_tup (pa_cons (pe_un un_neg pe_int) (pa_cons pe_int pa_nil))) pa_nil))))))))))))))
      (pss_cons (ps_set (i := 7) sc_law.nd rfl (.inl rfl) (pe_op op_cat (pv 7) (pe_lst (pa_cons (pe_tup (pa_cons pe_int (pa_cons pe_int pa_nil))) (pa_cons (pe_tup (pa_cons pe_int (pa_cons pe_int pa_nil))) (pa_cons (pe_tup (pa_cons pe_int (pa_cons pe_int pa_nil))) pa_nil))))))
      (pss_cons (ps_for (passes_of rfl) rfl (pi_listK (K := K) (pv 3) rfl) (pg_name (i := 5) sc_law.nd rfl (.inl rfl)) (pss_one (ps_expr (pe_bm PySem.F.plainAttrs_list PySem.F.slot_list_extend PySem.F.type_list_extend mt_extend (pv 7) (pa_cons (pe_lst (pa_cons (pe_tup (pa_cons (pv 5) (pa_cons pe_int pa_nil))) (pa_cons (pe_tup (pa_cons pe_int (pa_cons (pv 5) pa_nil))) pa_nil))) pa_nil)))))
      (pss_cons (ps_expr (pe_bm PySem.F.plainAttrs_list PySem.F.slot_list_extend PySem.F.type_list_extend mt_extend (pv 7) (pa_cons (pe_lst (pa_cons (pe_tup (pa_cons pe_int (pa_cons (pe_op op_add pe_int (pv 2)) pa_nil))) (pa_cons (pe_tup (pa_cons pe_int (pa_cons (pe_op op_add pe_int (pv 2)) pa_nil))) pa_nil))) pa_nil)))
      (pss_cons (ps_set (i := 6) sc_law.nd rfl (.inl rfl) (pe_lst (pa_cons (pe_lam1 TB rfl hqL (by decide) rfl) (pa_cons (pe_lam1 TB rfl hqL (by decide) rfl) pa_nil))))
      (pss_cons (ps_if (pt_not (pt_val (pe_d d__law_all hr (by decide) (pa_cons (pv 6) (pa_cons (pv 7) (pa_cons pe_int pa_nil)))))) (pss_one (ps_ret pe_bl)) pss_nil)
      (pss_cons (ps_set (i := 6) sc_law.nd rfl (.inl rfl) (pe_lst (pa_cons (pe_lam1 TB rfl hqL (by decide) rfl) (pa_cons (pe_lam1 TB rfl hqL (by decide) rfl) pa_nil))))
      (pss_cons (ps_if (pt_not (pt_val (pe_d d__law_all hr (by decide) (pa_cons (pv 6) (pa_cons (pe_op op_cat (pv 3) (pe_lst (pa_cons pe_int (pa_cons (pe_op op_add pe_int (pv 2)) (pa_cons pe_str pa_nil))))) (pa_cons pe_int pa_nil)))))) (pss_one (ps_ret pe_bl)) pss_nil)
      (pss_cons (ps_set (i := 8) sc_law.nd rfl (.inl rfl) (pe_lst (pa_cons (pe_tup (pa_cons pe_int (pa_cons pe_int (pa_cons pe_int pa_nil)))) (pa_cons (pe_tup (pa_cons pe_int (pa_cons pe_int (pa_cons pe_int pa_nil)))) (pa_cons (pe_tup (pa_cons (pe_op op_add (pv 2) pe_int) (pa_cons pe_int (pa_cons pe_int pa_nil)))) pa_nil)))))
      (pss_one (ps_if (pt_not (pt_val (pe_d d__law_all hr (by decide) (pa_cons (pe_lst (pa_cons (pe_gref (by rfl) g_to_fewest) (pa_cons (pe_lam1 TB rfl hqL (by decide) rfl) pa_nil))) (pa_cons (pv 8) (pa_cons pe_int pa_nil)))))) (pss_one (ps_ret pe_bl)) pss_nil)))))))))))))))))))
      (pss_one (ps_ret (pe_and (pe_cmpR (op_eqK (K := K) hr rfl) (pe_callB (call_lenK (K := K) rfl) (by rfl) B.b_len PySem.boot_len (pa_cons (pe_d d_to_fewest hr (by decide) (pa_cons (pe_tup (pa_cons pe_int (pa_cons pe_int (pa_cons pe_int pa_nil)))) pa_nil)) pa_nil)) pe_int (nomark _)) (pe_and (pe_cmpR (op_eqK (K := K) hr rfl) (pe_d d_to_kind hr (by decide) (pa_cons (pe_tup (pa_cons pe_int (pa_cons pe_int (pa_cons pe_int pa_nil)))) (pa_cons pe_int pa_nil))) (pe_lst pa_nil) (nomark _)) (pe_one (pe_cmpR (op_eqK (K := K) hr rfl) (pe_d d_meetings hr (by decide) (pa_cons (pe_tup (pa_cons pe_int (pa_cons pe_int (pa_cons pe_int pa_nil)))) pa_nil)) (pe_lst pa_nil) (nomark _)))))))), ?walk⟩
  case walk =>
    have start : SgT TL "law.<locals>.<lambda>" (fun b => if b = TL then none else H b) Hb H (L2.start ["_law_script", "_law_cell", "_law_more", "_law_bad", "_law_beads", "_law_one", "_law_asks", "_law_pairs", "_law_great"] vs) [.sh (kS K (ns.map kI)), .no, .no, .no, .no, .no, .no, .no, .no] := by
      refine ⟨Sg_less (start_sg (N := ["_law_script", "_law_cell", "_law_more", "_law_bad", "_law_beads", "_law_one", "_law_asks", "_law_pairs", "_law_great"]) hs hv) fun b o e => ?_, if_pos rfl, hbT, #[], hT, True.intro, fun pos cv z => ?_⟩
      · by_cases hb : b = TL
        · rw [if_pos hb] at e
          cases e
        · rw [if_neg hb] at e
          exact e
      · have z : codeAmong pos [] = some cv := z
        simp [codeAmong] at z
    refine' (?does : DoesTR TL "law.<locals>.<lambda>" _ _ (kB true)) _ _ _ _ _ start fun Hb' H' v (e : v = .bl true) => by rw [e]; exact q H'
    refine' dtr_seq (dt_for (src_list (ys := (ns.map kI).take 8 ++ [kI ((ns.map kI).length : Nat)]) (ev_ofN (en_op (ev_ofN (en_upto (ev_var rfl) eo_no (eo_some ev_c))) (ev_ofN (en_lst (ea_cons (ev_cb (ea_cons (ev_var rfl) ea_nil) ca_lenS) ea_nil) (Nat.le_of_ble_eq_true rfl))) (op_catb (K := K) ?cl)))) fun k hk => ?turn) (dtr_of ?last)
    case cl => simp; omega
    case turn =>
      obtain ⟨z, rfl⟩ : ∃ z, k = kI z := by
        rcases List.mem_append.mp hk with h | h
        · obtain ⟨z, _, e⟩ := List.mem_map.mp (List.mem_of_mem_take h)
          exact ⟨z, e.symm⟩
        · exact ⟨_, List.mem_singleton.mp h⟩
      refine' ⟨_, _, b_name, dt_seq (dt_of (d_asg (k := kI ((if z < 0 then -z else z) % 10 ^ (20 : Int).toNat)) ?more)) ?rest1⟩
      case more => walk_at "dx ev"
      case rest1 =>
        have hm : 0 ≤ (if z < 0 then -z else z) % 10 ^ (20 : Int).toNat := Int.emod_nonneg _ (by decide)
        generalize (if z < 0 then -z else z) % 10 ^ (20 : Int).toNat = m at hm ⊢
        change DoesT _ _ _ [.sh (kS K (ns.map kI)), .sh (kI z), .sh (kI m), .no, .no, .no, .no, .no, .no] _
        refine' dt_seq (δ1 := [.sh (kS K (ns.map kI)), .sh (kI z), .sh (kI m), .sh (kL ((bads m).map (kEt K))), .no, .no, .no, .no, .no]) (dt_of (d_asg (k := kL ((bads m).map (kEt K))) (ev_ofN (en_lst (ea_cons ev_c (ea_cons ev_c (ea_cons ev_c (ea_cons ev_c (ea_cons (ev_ofN (en_lst (ea_cons ev_c ea_nil) (Nat.le_of_ble_eq_true rfl))) (ea_cons (ev_tup (K := K) (ea_cons ev_c ea_nil) (Nat.le_of_ble_eq_true rfl)) (ea_cons ev_dnew (ea_cons (ev_un ev_c un_neg1) (ea_cons (ev_op (ev_un ev_c un_neg1) (ev_var rfl) op_I0) ea_nil))))))))) (Nat.le_of_ble_eq_true rfl))))) ?r2
        case r2 =>
        refine' dt_seq (δ1 := [.sh (kS K (ns.map kI)), .sh (kI z), .sh (kI m), .sh (kL ((bads m).map (kEt K))), .ow ((beads0 m).map (kTh K)), .no, .no, .no, .no]) (dt_of (d_asgN (ks := (beads0 m).map (kTh K)) (en_lst (ea_cons ev_c (ea_cons ev_c (ea_cons (ev_tup (K := K) ea_nil (Nat.le_of_ble_eq_true rfl)) (ea_cons (ev_tup (K := K) (ea_cons ev_c (ea_cons ev_c ea_nil)) (Nat.le_of_ble_eq_true rfl)) (ea_cons (ev_tup (K := K) (ea_cons ev_c (ea_cons ev_c (ea_cons ev_c (ea_cons ev_c ea_nil)))) (Nat.le_of_ble_eq_true rfl)) (ea_cons (ev_ofN (en_lst (ea_cons ev_c (ea_cons ev_c (ea_cons ev_c ea_nil))) (Nat.le_of_ble_eq_true rfl))) (ea_cons ev_c (ea_cons ev_dnew (ea_cons (ev_tup (K := K) (ea_cons ev_c (ea_cons ev_c (ea_cons ev_c ea_nil))) (Nat.le_of_ble_eq_true rfl)) (ea_cons (ev_tup (K := K) (ea_cons (ev_var rfl) (ea_cons (ev_var rfl) ea_nil)) (Nat.le_of_ble_eq_true rfl)) ea_nil)))))))))) (Nat.le_of_ble_eq_true rfl)))) ?r3
        case r3 =>
        refine' dt_seq (δ1 := [.sh (kS K (ns.map kI)), .sh (kI z), .sh (kI m), .sh (kL ((bads m).map (kEt K))), .ow ((beadsT m).map (kTh K)), .no, .no, .no, .no]) (dt_of ?fill1) ?r4
        case fill1 =>
          have e : (beadsT m) = (bads m).foldl (fun s e => s ++ beadsOf e) (beads0 m) := (foldl_app beadsOf (bads m) (beads0 m)).symm
          rw [e]
          refine' d_for (src_list (ys := (bads m).map (kEt K)) (ev_var rfl)) (forRun_go (S := fun l : List Th => [.sh (kS K (ns.map kI)), .sh (kI z), .sh (kI m), .sh (kL ((bads m).map (kEt K))), .ow (l.map (kTh K)), .no, .no, .no, .no]) (step := fun s e => s ++ beadsOf e) (G := fun s l => s.length + 3 * l.length ≤ 1000) (fun s e l h => ?g) (fun s e l h => ⟨_, _, b_name, ?t⟩) (bads m) (beads0 m) (show 10 + 3 * 9 ≤ 1000 by decide))
          case g => rw [List.length_append]; simp only [List.length_cons] at h; show s.length + 3 + 3 * l.length ≤ 1000; omega
          case t =>
            refine' d_weak (d_nx (d_extend (ks := s.map (kTh K)) (ls := (beadsOf e).map (kTh K)) rfl (en_lst (ea_cons (ev_tup (K := K) (ea_cons (ev_var rfl) (ea_cons ev_c (ea_cons ev_c ea_nil))) (Nat.le_of_ble_eq_true rfl)) (ea_cons (ev_tup (K := K) (ea_cons ev_c (ea_cons (ev_var rfl) (ea_cons ev_c ea_nil))) (Nat.le_of_ble_eq_true rfl)) (ea_cons (ev_tup (K := K) (ea_cons ev_c (ea_cons ev_c (ea_cons (ev_var rfl) ea_nil))) (Nat.le_of_ble_eq_true rfl)) ea_nil))) (Nat.le_of_ble_eq_true rfl)) ?n) rfl) ?w
            case n => rw [List.length_map]; simp only [List.length_cons] at h; show s.length + 3 ≤ 100000; omega
            case w => rw [List.map_append]; walk_at "dx weak"
        case r4 =>
        refine' dt_seq (δ1 := [.sh (kS K (ns.map kI)), .sh (kI z), .sh (kI m), .sh (kL ((bads m).map (kEt K))), .ow ((beadsT m).map (kTh K)), .no, .sh (kL (List.replicate 5 (kFn P w K mg base 4 (A_bad1 K C_BB)))), .no, .no]) (dt_asg (k := kL (List.replicate 5 (kFn P w K mg base 4 (A_bad1 K C_BB)))) (evt_ofN (ent_lst (eat_cons (evt_of (ev_le ev_c l1)) (eat_cons (evt_of (ev_le ev_c l2)) (eat_cons (evt_of (ev_le ev_c l3)) (eat_cons (evt_of (ev_le ev_c l4)) (eat_cons ?m1 eat_nil))))) (Nat.le_of_ble_eq_true rfl)))) ?r5
        case m1 =>
          refine' evt_lam ?x
          case x =>
            intro H2 f2 c2 h1 h2
            refine' lam_clb (N := ["_law_one"]) (ps := ["_law_one"]) (NdefX.nscope_by (by dsimp only; decide +kernel)) rfl (fun _ _ _ us hl => match us, hl with | [_], _ => rfl) ?len (fun Ar2 outer2 s2 H3 E2 hr2 => ⟨_, pe_dE d_joined hr2 (by decide) (L2N.takes_of rfl rfl rfl rfl) (fun _ _ _ _ z => z) (pa_cons (pv 0) (pa_cons pe_non pa_nil)), ?bd⟩) h1 h2
            case len => rintro ks r ⟨t, rfl, _⟩; rfl
            case bd =>
              rintro ks r ⟨t, rfl, bad, rfl⟩
              exact ⟨_, rfl, ee_call (ea_cons (ev_var rfl) (ea_cons ev_c ea_nil)) (.inl ⟨t, rfl, bad, rfl⟩)⟩
        case r5 =>
        refine' dt_seq (δ1 := [.sh (kS K (ns.map kI)), .sh (kI z), .sh (kI m), .sh (kL ((bads m).map (kEt K))), .ow ((beadsT m).map (kTh K)), .no, .sh (kL (List.replicate 8 (kFn P w K mg base 4 (A_bad1 K C_BB)))), .no, .no]) (dt_asg (k := kL (List.replicate 8 (kFn P w K mg base 4 (A_bad1 K C_BB)))) (evt_ofN (ent_op (k1 := kL (List.replicate 5 (kFn P w K mg base 4 (A_bad1 K C_BB)))) (k2 := kL (List.replicate 3 (kFn P w K mg base 4 (A_bad1 K C_BB)))) (evt_of (ev_var rfl)) (evt_ofN (ent_lst (eat_cons ?m2 (eat_cons ?m3 (eat_cons ?m4 eat_nil))) (Nat.le_of_ble_eq_true rfl))) (op_catb (K := K) (Nat.le_of_ble_eq_true rfl))))) ?r6
        case m2 =>
          refine' evt_lam ?x
          case x =>
            intro H2 f2 c2 h1 h2
            refine' lam_clb (N := ["_law_two"]) (ps := ["_law_two"]) (NdefX.nscope_by (by dsimp only; decide +kernel)) rfl (fun _ _ _ us hl => match us, hl with | [_], _ => rfl) ?len (fun Ar2 outer2 s2 H3 E2 hr2 => ⟨_, pe_dE d_turned hr2 (by decide) (L2N.takes_of rfl rfl rfl rfl) (fun _ _ _ _ z => z) (pa_cons (pv 0) (pa_cons pe_non pa_nil)), ?bd⟩) h1 h2
            case len => rintro ks r ⟨t, rfl, _⟩; rfl
            case bd =>
              rintro ks r ⟨t, rfl, bad, rfl⟩
              exact ⟨_, rfl, ee_call (ea_cons (ev_var rfl) (ea_cons ev_c ea_nil)) (.inl ⟨t, rfl, bad, rfl⟩)⟩
        case m3 =>
          refine' evt_lam ?x
          case x =>
            intro H2 f2 c2 h1 h2
            refine' lam_clb (N := ["_law_this"]) (ps := ["_law_this"]) (NdefX.nscope_by (by dsimp only; decide +kernel)) rfl (fun _ _ _ us hl => match us, hl with | [_], _ => rfl) ?len (fun Ar2 outer2 s2 H3 E2 hr2 => ⟨_, pe_dE d_all_of hr2 (by decide) (L2N.takes_of rfl rfl rfl rfl) (fun _ _ _ _ z => z) (pa_cons (pv 0) (pa_cons pe_non pa_nil)), ?bd⟩) h1 h2
            case len => rintro ks r ⟨t, rfl, _⟩; rfl
            case bd =>
              rintro ks r ⟨t, rfl, bad, rfl⟩
              exact ⟨_, rfl, ee_call (ea_cons (ev_var rfl) (ea_cons ev_c ea_nil)) (.inl ⟨t, rfl, bad, rfl⟩)⟩
        case m4 =>
          refine' evt_lam ?x
          case x =>
            intro H2 f2 c2 h1 h2
            refine' lam_clb (N := ["_law_that"]) (ps := ["_law_that"]) (NdefX.nscope_by (by dsimp only; decide +kernel)) rfl (fun _ _ _ us hl => match us, hl with | [_], _ => rfl) ?len (fun Ar2 outer2 s2 H3 E2 hr2 => ⟨_, pe_dE d_to_kind hr2 (by decide) (L2N.takes_of rfl rfl rfl rfl) (fun _ _ _ _ z => z) (pa_cons (pv 0) (pa_cons pe_non pa_nil)), ?bd⟩) h1 h2
            case len => rintro ks r ⟨t, rfl, _⟩; rfl
            case bd =>
              rintro ks r ⟨t, rfl, bad, rfl⟩
              exact ⟨_, rfl, ee_call (ea_cons (ev_var rfl) (ea_cons ev_c ea_nil)) (.inl ⟨t, rfl, bad, rfl⟩)⟩
        case r6 =>
        refine' dt_frz (i := 4) (ks := (beadsT m).map (kTh K)) rfl (dt_skip (ett_of (et_not (et_b (b := true) (ev_call (ea_cons (ev_var rfl) (ea_cons (ev_var rfl) (ea_cons ev_c ea_nil))) ⟨A_bad1 K C_BB, 8, (beadsT m).map (kTh K), 0, C_BB, rfl, by rw [List.length_map, beadsT_len]; decide, ?b1, .inl ⟨rfl, rfl⟩, rfl⟩)))) rfl ?r7)
        case b1 =>
          intro t ht
          obtain ⟨t, h, rfl⟩ := List.mem_map.mp ht
          exact ⟨t, rfl, beadsT_bad hm t h, rfl⟩
        case r7 =>
        change DoesT _ _ _ [.sh (kS K (ns.map kI)), .sh (kI z), .sh (kI m), .sh (kL ((bads m).map (kEt K))), .sh (kL ((beadsT m).map (kTh K))), .no, .sh (kL (List.replicate 8 (kFn P w K mg base 4 (A_bad1 K C_BB)))), .no, .no] _
        refine' dt_seq (δ1 := [.sh (kS K (ns.map kI)), .sh (kI z), .sh (kI m), .sh (kL ((bads m).map (kEt K))), .no, .no, .no, .sh (kL (pairs0.map (kTh K))), .no]) (dt_weak (δ1 := [.sh (kS K (ns.map kI)), .sh (kI z), .sh (kI m), .sh (kL ((bads m).map (kEt K))), .sh (kL ((beadsT m).map (kTh K))), .no, .sh (kL (List.replicate 8 (kFn P w K mg base 4 (A_bad1 K C_BB)))), .sh (kL (pairs0.map (kTh K))), .no]) (dt_of (d_asg (k := kL (pairs0.map (kTh K))) (ev_ofN (en_lst (ea_cons ev_c (ea_cons ev_c (ea_cons (ev_tup (K := K) ea_nil (Nat.le_of_ble_eq_true rfl)) (ea_cons (ev_tup (K := K) (ea_cons ev_c ea_nil) (Nat.le_of_ble_eq_true rfl)) (ea_cons (ev_tup (K := K) (ea_cons ev_c (ea_cons ev_c (ea_cons ev_c ea_nil))) (Nat.le_of_ble_eq_true rfl)) (ea_cons (ev_ofN (en_lst (ea_cons ev_c (ea_cons ev_c ea_nil)) (Nat.le_of_ble_eq_true rfl))) (ea_cons ev_c (ea_cons ev_dnew (ea_cons (ev_tup (K := K) (ea_cons ev_c (ea_cons ev_c ea_nil)) (Nat.le_of_ble_eq_true rfl)) (ea_cons (ev_tup (K := K) (ea_cons ev_c (ea_cons ev_c ea_nil)) (Nat.le_of_ble_eq_true rfl)) (ea_cons (ev_tup (K := K) (ea_cons ev_c (ea_cons ev_c ea_nil)) (Nat.le_of_ble_eq_true rfl)) (ea_cons (ev_tup (K := K) (ea_cons (ev_un ev_c un_neg1) (ea_cons ev_c ea_nil)) (Nat.le_of_ble_eq_true rfl)) ea_nil)))))))))))) (Nat.le_of_ble_eq_true rfl))))) ?w8) ?r8
        case w8 => walk_at "dx weak"
        case r8 =>
        refine' dt_seq (δ1 := [.sh (kS K (ns.map kI)), .sh (kI z), .sh (kI m), .sh (kL ((bads m).map (kEt K))), .no, .no, .no, .ow ((pairs0 ++ pairs1).map (kTh K)), .no]) (dt_of (d_asgN (ks := (pairs0 ++ pairs1).map (kTh K)) (en_op (k1 := kL (pairs0.map (kTh K))) (k2 := kL (pairs1.map (kTh K))) (ev_var rfl) (ev_ofN (en_lst (ea_cons (ev_tup (K := K) (ea_cons ev_c (ea_cons ev_c ea_nil)) (Nat.le_of_ble_eq_true rfl)) (ea_cons (ev_tup (K := K) (ea_cons ev_c (ea_cons ev_c ea_nil)) (Nat.le_of_ble_eq_true rfl)) (ea_cons (ev_tup (K := K) (ea_cons ev_c (ea_cons ev_c ea_nil)) (Nat.le_of_ble_eq_true rfl)) ea_nil))) (Nat.le_of_ble_eq_true rfl))) (op_catb (K := K) (Nat.le_of_ble_eq_true rfl))))) ?r9
        case r9 =>
        refine' dt_seq (δ1 := [.sh (kS K (ns.map kI)), .sh (kI z), .sh (kI m), .sh (kL ((bads m).map (kEt K))), .no, .no, .no, .ow ((pairsT m).map (kTh K)), .no]) (dt_of ?fill2) ?r10
        case fill2 =>
          have e : pairsT m = (bads m).foldl (fun s e => s ++ pairsOf e) (pairs0 ++ pairs1) := (foldl_app pairsOf (bads m) (pairs0 ++ pairs1)).symm
          rw [e]
          refine' d_for (src_list (ys := (bads m).map (kEt K)) (ev_var rfl)) (forRun_go (S := fun l : List Th => [.sh (kS K (ns.map kI)), .sh (kI z), .sh (kI m), .sh (kL ((bads m).map (kEt K))), .no, .no, .no, .ow (l.map (kTh K)), .no]) (step := fun s e => s ++ pairsOf e) (G := fun s l => s.length + 2 * l.length ≤ 1000) (fun s e l h => ?g) (fun s e l h => ⟨_, _, b_name, ?t⟩) (bads m) (pairs0 ++ pairs1) (show 15 + 2 * 9 ≤ 1000 by decide))
          case g => rw [List.length_append]; simp only [List.length_cons] at h; show s.length + 2 + 2 * l.length ≤ 1000; omega
          case t =>
            refine' d_weak (d_nx (d_extend (ks := s.map (kTh K)) (ls := (pairsOf e).map (kTh K)) rfl (en_lst (ea_cons (ev_tup (K := K) (ea_cons (ev_var rfl) (ea_cons ev_c ea_nil)) (Nat.le_of_ble_eq_true rfl)) (ea_cons (ev_tup (K := K) (ea_cons ev_c (ea_cons (ev_var rfl) ea_nil)) (Nat.le_of_ble_eq_true rfl)) ea_nil)) (Nat.le_of_ble_eq_true rfl)) ?n) rfl) ?w
            case n => rw [List.length_map]; simp only [List.length_cons] at h; show s.length + 2 ≤ 100000; omega
            case w => rw [List.map_append]; walk_at "dx weak"
        case r10 =>
        refine' dt_seq (δ1 := [.sh (kS K (ns.map kI)), .sh (kI z), .sh (kI m), .sh (kL ((bads m).map (kEt K))), .no, .no, .no, .ow ((pairsT m ++ pairs2 m).map (kTh K)), .no]) (dt_of (d_nx (d_extend (ks := (pairsT m).map (kTh K)) (ls := (pairs2 m).map (kTh K)) rfl (en_lst (ea_cons (ev_tup (K := K) (ea_cons ev_c (ea_cons (ev_op ev_c (ev_var rfl) op_I0) ea_nil)) (Nat.le_of_ble_eq_true rfl)) (ea_cons (ev_tup (K := K) (ea_cons ev_c (ea_cons (ev_op ev_c (ev_var rfl) op_I0) ea_nil)) (Nat.le_of_ble_eq_true rfl)) ea_nil)) (Nat.le_of_ble_eq_true rfl)) ?n10) ?e10)) ?r11
        case n10 => rw [List.length_map, pairsT_len]; show 33 + 2 ≤ 100000; decide
        case e10 => rw [List.map_append]; rfl
        case r11 =>
        refine' dt_seq (δ1 := [.sh (kS K (ns.map kI)), .sh (kI z), .sh (kI m), .sh (kL ((bads m).map (kEt K))), .no, .no, .sh (kL (List.replicate 2 (kFn P w K mg base 4 (A_M K C_BM)))), .ow ((pairsT m ++ pairs2 m).map (kTh K)), .no]) (dt_asg (k := kL (List.replicate 2 (kFn P w K mg base 4 (A_M K C_BM)))) (evt_ofN (ent_lst (eat_cons ?m5 (eat_cons ?m6 eat_nil)) (Nat.le_of_ble_eq_true rfl)))) ?r12
        case m5 =>
          refine' evt_lam ?x
          case x =>
            intro H2 f2 c2 h1 h2
            refine' lam_clb (N := ["_law_pair"]) (ps := ["_law_pair"]) (NdefX.nscope_by (by dsimp only; decide +kernel)) rfl (fun _ _ _ us hl => match us, hl with | [_], _ => rfl) ?len (fun Ar2 outer2 s2 H3 E2 hr2 => ⟨_, pe_dE d_joined hr2 (by decide) (L2N.takes_of rfl rfl rfl rfl) (fun _ _ _ _ z => z) (pa_cons (pe_tup (pa_cons pe_int (pa_cons pe_int (pa_cons pe_int pa_nil)))) (pa_cons (pv 0) pa_nil)), ?bd⟩) h1 h2
            case len => rintro ks r ⟨t, rfl, _⟩; rfl
            case bd =>
              rintro ks r ⟨t, rfl, bad, rfl⟩
              exact ⟨_, rfl, ee_call (ea_cons (ev_tup (K := K) (ea_cons ev_c (ea_cons ev_c (ea_cons ev_c ea_nil))) (Nat.le_of_ble_eq_true rfl)) (ea_cons (ev_var rfl) ea_nil)) (.inr ⟨t, rfl, bad, rfl⟩)⟩
        case m6 =>
          refine' evt_lam ?x
          case x =>
            intro H2 f2 c2 h1 h2
            refine' lam_clb (N := ["_law_both"]) (ps := ["_law_both"]) (NdefX.nscope_by (by dsimp only; decide +kernel)) rfl (fun _ _ _ us hl => match us, hl with | [_], _ => rfl) ?len (fun Ar2 outer2 s2 H3 E2 hr2 => ⟨_, pe_dE d_turned hr2 (by decide) (L2N.takes_of rfl rfl rfl rfl) (fun _ _ _ _ z => z) (pa_cons (pe_tup (pa_cons pe_int (pa_cons pe_int (pa_cons pe_int pa_nil)))) (pa_cons (pv 0) pa_nil)), ?bd⟩) h1 h2
            case len => rintro ks r ⟨t, rfl, _⟩; rfl
            case bd =>
              rintro ks r ⟨t, rfl, bad, rfl⟩
              exact ⟨_, rfl, ee_call (ea_cons (ev_tup (K := K) (ea_cons ev_c (ea_cons ev_c (ea_cons ev_c ea_nil))) (Nat.le_of_ble_eq_true rfl)) (ea_cons (ev_var rfl) ea_nil)) (.inr ⟨t, rfl, bad, rfl⟩)⟩
        case r12 =>
        refine' dt_frz (i := 7) (ks := (pairsT m ++ pairs2 m).map (kTh K)) rfl (dt_skip (ett_of (et_not (et_b (b := true) (ev_call (ea_cons (ev_var rfl) (ea_cons (ev_var rfl) (ea_cons ev_c ea_nil))) ⟨A_M K C_BM, 2, (pairsT m ++ pairs2 m).map (kTh K), 1, C_BM, rfl, by rw [List.length_map, List.length_append, pairsT_len]; show 33 + 2 ≤ 1000; decide, ?b2, .inr (.inl ⟨rfl, rfl⟩), rfl⟩)))) rfl ?r13)
        case b2 =>
          intro t ht
          obtain ⟨t, h, rfl⟩ := List.mem_map.mp ht
          exact ⟨t, rfl, pairsT_bad hm t h, rfl⟩
        case r13 =>
        change DoesT _ _ _ [.sh (kS K (ns.map kI)), .sh (kI z), .sh (kI m), .sh (kL ((bads m).map (kEt K))), .no, .no, .sh (kL (List.replicate 2 (kFn P w K mg base 4 (A_M K C_BM)))), .sh (kL ((pairsT m ++ pairs2 m).map (kTh K))), .no] _
        refine' dt_seq (δ1 := [.sh (kS K (ns.map kI)), .sh (kI z), .sh (kI m), .sh (kL ((bads m).map (kEt K))), .no, .no, .sh (kL (List.replicate 2 (kFn P w K mg base 4 (A_K K C_BK)))), .no, .no]) (dt_weak (δ1 := [.sh (kS K (ns.map kI)), .sh (kI z), .sh (kI m), .sh (kL ((bads m).map (kEt K))), .no, .no, .sh (kL (List.replicate 2 (kFn P w K mg base 4 (A_K K C_BK)))), .sh (kL ((pairsT m ++ pairs2 m).map (kTh K))), .no]) (dt_asg (k := kL (List.replicate 2 (kFn P w K mg base 4 (A_K K C_BK)))) (evt_ofN (ent_lst (eat_cons ?m7 (eat_cons ?m8 eat_nil)) (Nat.le_of_ble_eq_true rfl)))) ?w14) ?r14
        case w14 => walk_at "dx weak"
        case m7 =>
          refine' evt_lam ?x
          case x =>
            intro H2 f2 c2 h1 h2
            refine' lam_clb (N := ["_law_kind"]) (ps := ["_law_kind"]) (NdefX.nscope_by (by dsimp only; decide +kernel)) rfl (fun _ _ _ us hl => match us, hl with | [_], _ => rfl) ?len (fun Ar2 outer2 s2 H3 E2 hr2 => ⟨_, pe_dE d_all_of hr2 (by decide) (L2N.takes_of rfl rfl rfl rfl) (fun _ _ _ _ z => z) (pa_cons (pe_tup (pa_cons pe_int (pa_cons pe_int (pa_cons pe_int pa_nil)))) (pa_cons (pv 0) pa_nil)), ?bd⟩) h1 h2
            case len => rintro ks r ⟨t, rfl, _⟩; rfl
            case bd =>
              rintro ks r ⟨t, rfl, bad, rfl⟩
              exact ⟨_, rfl, ee_call (ea_cons (ev_tup (K := K) (ea_cons ev_c (ea_cons ev_c (ea_cons ev_c ea_nil))) (Nat.le_of_ble_eq_true rfl)) (ea_cons (ev_var rfl) ea_nil)) (.inr ⟨t, rfl, bad, rfl⟩)⟩
        case m8 =>
          refine' evt_lam ?x
          case x =>
            intro H2 f2 c2 h1 h2
            refine' lam_clb (N := ["_law_one"]) (ps := ["_law_one"]) (NdefX.nscope_by (by dsimp only; decide +kernel)) rfl (fun _ _ _ us hl => match us, hl with | [_], _ => rfl) ?len (fun Ar2 outer2 s2 H3 E2 hr2 => ⟨_, pe_dE d_to_kind hr2 (by decide) (L2N.takes_of rfl rfl rfl rfl) (fun _ _ _ _ z => z) (pa_cons (pe_tup (pa_cons pe_int (pa_cons pe_int (pa_cons pe_int pa_nil)))) (pa_cons (pv 0) pa_nil)), ?bd⟩) h1 h2
            case len => rintro ks r ⟨t, rfl, _⟩; rfl
            case bd =>
              rintro ks r ⟨t, rfl, bad, rfl⟩
              exact ⟨_, rfl, ee_call (ea_cons (ev_tup (K := K) (ea_cons ev_c (ea_cons ev_c (ea_cons ev_c ea_nil))) (Nat.le_of_ble_eq_true rfl)) (ea_cons (ev_var rfl) ea_nil)) (.inr (.inl ⟨t, rfl, bad, rfl⟩))⟩
        case r14 =>
        refine' dt_skip (ett_of (et_not (et_b (b := true) (ev_call (ks := [kL (List.replicate 2 (kFn P w K mg base 4 (A_K K C_BK))), kL ((kindsT m).map (kEt K)), kI 2]) (ea_cons (ev_var rfl) (ea_cons ?cat (ea_cons ev_c ea_nil))) ⟨A_K K C_BK, 2, (kindsT m).map (kEt K), 2, C_BK, rfl, by rw [List.length_map]; show 12 ≤ 1000; decide, ?b3, .inr (.inr (.inl ⟨rfl, rfl⟩)), rfl⟩)))) rfl ?r15
        case cat => exact ev_ofN (en_op (k1 := kL ((bads m).map (kEt K))) (k2 := kL ([Et.int 3, Et.int (3 + m), Et.str "0"].map (kEt K))) (ev_var rfl) (ev_ofN (en_lst (ea_cons ev_c (ea_cons (ev_op ev_c (ev_var rfl) op_I0) (ea_cons ev_c ea_nil))) (Nat.le_of_ble_eq_true rfl))) (op_catb (K := K) (Nat.le_of_ble_eq_true rfl)))
        case b3 =>
          intro t ht
          obtain ⟨e, h, rfl⟩ := List.mem_map.mp ht
          exact ⟨e, rfl, kindsT_bad hm e h, rfl⟩
        case r15 =>
        refine' dt_seq (δ1 := [.sh (kS K (ns.map kI)), .sh (kI z), .sh (kI m), .no, .no, .no, .no, .no, .sh (kL [k3 K 301 0 0, k3 K 100 100 101, k3 K (m + 301) 0 5])]) (dt_weak (δ1 := [.sh (kS K (ns.map kI)), .sh (kI z), .sh (kI m), .sh (kL ((bads m).map (kEt K))), .no, .no, .sh (kL (List.replicate 2 (kFn P w K mg base 4 (A_K K C_BK)))), .no, .sh (kL [k3 K 301 0 0, k3 K 100 100 101, k3 K (m + 301) 0 5])]) (dt_of (d_asg (k := kL [k3 K 301 0 0, k3 K 100 100 101, k3 K (m + 301) 0 5]) (ev_ofN (en_lst (ea_cons (ev_tup (K := K) (ea_cons ev_c (ea_cons ev_c (ea_cons ev_c ea_nil))) (Nat.le_of_ble_eq_true rfl)) (ea_cons (ev_tup (K := K) (ea_cons ev_c (ea_cons ev_c (ea_cons ev_c ea_nil))) (Nat.le_of_ble_eq_true rfl)) (ea_cons (ev_tup (K := K) (ea_cons (ev_op (ev_var rfl) ev_c op_I0) (ea_cons ev_c (ea_cons ev_c ea_nil))) (Nat.le_of_ble_eq_true rfl)) ea_nil))) (Nat.le_of_ble_eq_true rfl))))) ?w15) ?r16
        case w15 => walk_at "dx weak"
        case r16 =>
        refine' dt_weak (dt_skip1 (ett_not (ett_b (b := true) (evt_call (ks := [kL (List.replicate 2 (kFn P w K mg base 4 (A_T K C_TM))), kL [k3 K 301 0 0, k3 K 100 100 101, k3 K (m + 301) 0 5], kI 3]) (eat_cons (evt_ofN (ent_lst (eat_cons (evt_of (ev_le ev_c l5)) (eat_cons ?m9 eat_nil)) (Nat.le_of_ble_eq_true rfl))) (eat_cons (evt_of (ev_var rfl)) (eat_cons (evt_of ev_c) eat_nil))) ⟨A_T K C_TM, 2, [k3 K 301 0 0, k3 K 100 100 101, k3 K (m + 301) 0 5], 3, C_TM, rfl, Nat.le_of_ble_eq_true rfl, ?b4, .inr (.inr (.inr ⟨rfl, rfl⟩)), rfl⟩))) rfl) ?w16
        case w16 => walk_at "dx weak"
        case m9 =>
          refine' evt_lam ?x
          case x =>
            intro H2 f2 c2 h1 h2
            refine' lam_clb (N := ["_law_some"]) (ps := ["_law_some"]) (NdefX.nscope_by (by dsimp only; decide +kernel)) rfl (fun _ _ _ us hl => match us, hl with | [_], _ => rfl) ?len (fun Ar2 outer2 s2 H3 E2 hr2 => ⟨_, pe_dE d_to_kind hr2 (by decide) (L2N.takes_of rfl rfl rfl rfl) (fun _ _ _ _ z => z) (pa_cons (pv 0) (pa_cons pe_int pa_nil)), ?bd⟩) h1 h2
            case len => rintro ks r ⟨a, b, c, rfl, _⟩; rfl
            case bd =>
              rintro ks r ⟨a, b, c, rfl, ha, hb, hc, hs, rfl⟩
              exact ⟨_, rfl, ee_call (ea_cons (ev_var rfl) (ea_cons ev_c ea_nil)) (.inr (.inr (.inl ⟨a, b, c, rfl, ha, hb, hc, hs, rfl⟩)))⟩
        case b4 =>
          intro t ht
          rcases List.mem_cons.mp ht with rfl | ht
          · exact ⟨301, 0, 0, rfl, by decide, by decide, by decide, by decide, rfl⟩
          rcases List.mem_cons.mp ht with rfl | ht
          · exact ⟨100, 100, 101, rfl, by decide, by decide, by decide, by decide, rfl⟩
          rcases List.mem_cons.mp ht with rfl | ht
          · exact ⟨m + 301, 0, 5, rfl, by omega, by decide, by decide, by omega, rfl⟩
          · cases ht
    case last =>
      have e1 : (tkL 0 2 (0, 0, 300)).map (kP K) = [] := rfl
      have e2 : (canL 1 0 0).map (kP K) = [] := by simp [canL]
      have e3 : ((tfL 300 0 150 150).map (kP K)).length = 298 := by rw [List.length_map]; decide +kernel
      refine' d_to (d_ret (ev_and (b1 := true) (ev_to (ev_op (ev_cb (ea_cons (ev_ofN (en_call (ea_cons (ev_tup (K := K) (ea_cons ev_c (ea_cons ev_c (ea_cons ev_c ea_nil))) (Nat.le_of_ble_eq_true rfl)) ea_nil) (.inr (.inr ⟨0, 150, 150, 300, rfl, by decide, by decide, by decide, by decide, by decide, by decide, rfl⟩)))) ea_nil) ca_lenL) ev_c (op_eqk (K := K) isd_int isd_int rfl rfl)) ?q1) fun _ => ev_and (b1 := true) (ev_to (ev_op (ev_ofN (en_to (en_call (ea_cons (ev_tup (K := K) (ea_cons ev_c (ea_cons ev_c (ea_cons ev_c ea_nil))) (Nat.le_of_ble_eq_true rfl)) (ea_cons ev_c ea_nil)) (.inr (.inr (.inr ⟨0, 0, 300, 2, 0, 0, 300, rfl, by decide, by decide, by decide, by decide, by decide, .inr (.inr ⟨rfl, rfl, rfl, rfl⟩), .inr ⟨0, by decide, ?inv, rfl⟩⟩)))) e1)) (ev_ofN (en_lst ea_nil (Nat.zero_le _))) (op_eqk (K := K) (isd_lst isds_nil) (isd_lst isds_nil) rfl rfl)) ?q2) fun _ =>
        ev_to (ev_op (ev_ofN (en_to (en_call (ea_cons (ev_tup (K := K) (ea_cons ev_c (ea_cons ev_c (ea_cons ev_c ea_nil))) (Nat.le_of_ble_eq_true rfl)) ea_nil) (.inr ⟨1, 0, 0, rfl, by decide, by decide, by decide, by decide, rfl⟩)) e2)) (ev_ofN (en_lst ea_nil (Nat.zero_le _))) (op_eqk (K := K) (isd_lst isds_nil) (isd_lst isds_nil) rfl rfl)) (show _ = V.bl true from ?q3))) rfl
      case q1 => rw [e3]; decide +kernel
      case q2 => decide +kernel
      case q3 => decide +kernel
      case inv => exact ⟨by decide, by decide, by decide, by decide, by decide, by decide⟩
theorem k2_written {t : Addr} {d : Option Addr} {i j : Int} {u v : Tok} {n : Nat} {sl : Array (Option Value)} (l : K.lookup t = some ⟨.type "tuple", d, .seq #[.int i u, .int j v] n, sl⟩) : ∀ H, (k2 K i j).p (.ref t) H := fun H =>
  ⟨t, [.int i, .int j], rfl, .inr ⟨_, _, _, l, rfl, rfl, by rw [sizeLine_eq]; show 2 ≤ 16777216; decide, .cons ⟨_, rfl⟩ (.cons ⟨_, rfl⟩ .nil)⟩, .cons rfl (.cons rfl .nil)⟩
theorem pairs_written {t a b c : Addr} {d d1 d2 d3 : Option Addr} {u1 v1 u2 v2 u3 v3 : Tok} {n n1 n2 n3 : Nat} {sl sl1 sl2 sl3 : Array (Option Value)} (l : K.lookup t = some ⟨.type "tuple", d, .seq #[.ref a, .ref b, .ref c] n, sl⟩)
    (l1 : K.lookup a = some ⟨.type "tuple", d1, .seq #[.int 0 u1, .int 1 v1] n1, sl1⟩) (l2 : K.lookup b = some ⟨.type "tuple", d2, .seq #[.int 0 u2, .int 2 v2] n2, sl2⟩) (l3 : K.lookup c = some ⟨.type "tuple", d3, .seq #[.int 1 u3, .int 2 v3] n3, sl3⟩) :
    ∀ H, (kT K [k2 K 0 1, k2 K 0 2, k2 K 1 2]).p (.ref t) H := fun H =>
  ⟨t, [.ref a, .ref b, .ref c], rfl, .inr ⟨_, _, _, l, rfl, rfl, by rw [sizeLine_eq]; show 3 ≤ 16777216; decide, .cons rfl (.cons rfl (.cons rfl .nil))⟩, .cons (k2_written l1 H) (.cons (k2_written l2 H) (.cons (k2_written l3 H) .nil))⟩
theorem cx_false {H : Hp} {s : Shared} {e : Value} {s' : Shared} (h : L2N.CX P w [] H s (fun _ _ _ => False) e s') : False := by
  obtain ⟨_, _, _, _, _, _, _, _, _, _, _, _, z⟩ := h
  exact z.elim
theorem sqL_hide {H : Hp} {a T : Addr} {xs : List V} {ps : Array Value} (h : SqL K H a xs) (hT : H T = some (.tbl ps)) : SqL K (fun b => if b = T then none else H b) a xs := by
  rcases h with (h | ⟨o, h⟩) | h
  · exact .inl (.inl ((if_neg (fun z => by rw [z, hT] at h; cases h)).trans h))
  · exact .inl (.inr ⟨o, (if_neg (fun z => by rw [z, hT] at h; cases h)).trans h⟩)
  · exact .inr h
theorem law_sp7 {ns : List Int} {a T : Addr} {H : Hp} (hT : H T = some (.tbl #[])) (hS : SqL K H a (ns.map V.int)) : sp7 K T [.ref a] H (fun v _ => v = .bl true) (fun _ _ _ => False) :=
  ⟨fun b => if b = T then none else H b, ns, fun b o e => by
    by_cases hb : b = T
    · have e : (if b = T then none else H b) = some o := e
      rw [if_pos hb] at e
      cases e
    · exact (if_neg hb).symm.trans e, .cons ⟨a, ns.map V.int, rfl, sqL_hide hS hT, by rw [map_kI]; exact allK_of_kE _⟩ .nil, if_pos rfl, hT, fun _ => rfl⟩
theorem kit_val {D : Addr} (h : PySem.W.subIn K (.ref D) (.type "ValueError") = some true) : PySem.W.kitOne K (.ref D) (.type "ValueError") = some true := by
  have m : PySem.W.kitMeta "ValueError" = true := by decide +kernel
  unfold PySem.W.kitOne
  rw [if_neg (by intro z; cases eq_of_beq z)]
  show (if PySem.W.kitMeta "ValueError" = true then PySem.W.subIn K (.ref D) (.type "ValueError") else none) = some true
  rw [if_pos m]
  exact h
theorem kit_ownT {C D : Addr} {cd : _} (h1 : PySem.W.clsIn K D = some cd) (h2 : PySem.W.typeIn K (.ref D) = some (.type "type")) (h3 : PySem.W.subIn K (.ref C) (.ref D) = some true) : PySem.W.kitOne K (.ref C) (.ref D) = some true := by
  unfold PySem.W.kitOne
  split
  · rfl
  · show (if ((PySem.W.clsIn K D).isSome && PySem.W.typeIn K (.ref D) == some (.type "type")) = true then PySem.W.subIn K (.ref C) (.ref D) else none) = _
    rw [h1, h2]
    simp only [Option.isSome_some, beq_self_eq_true, Bool.and_self, if_true]
    exact h3
theorem kit_ownF {C D : Addr} {cd : _} (h1 : PySem.W.clsIn K D = some cd) (h2 : PySem.W.typeIn K (.ref D) = some (.type "type")) (h3 : PySem.W.subIn K (.ref C) (.ref D) = some false) (h4 : PySem.W.subIn K (.ref D) (.ref D) = some true) : PySem.W.kitOne K (.ref C) (.ref D) = some false := by
  unfold PySem.W.kitOne
  split
  · rename_i q
    have e : Value.ref C = Value.ref D := eq_of_beq q
    cases e
    rw [h3] at h4
    cases h4
  · show (if ((PySem.W.clsIn K D).isSome && PySem.W.typeIn K (.ref D) == some (.type "type")) = true then PySem.W.subIn K (.ref C) (.ref D) else none) = _
    rw [h1, h2]
    simp only [Option.isSome_some, beq_self_eq_true, Bool.and_self, if_true]
    exact h3
theorem all_mk {l : PySem.W.OpenLaw} {w : World} {K : PySem.W.Frag} {h : Heap} {mg : Str → Option Value} {fa : Addr} (X : K.In h) (G : h.Ns mainGlobals mg) (hfa : mg "law" = some (.ref fa)) (own : LamX.OwnTab K fa h)
    {C_BadBeads C_BadMeeting C_BadKind C_TooMany C_BeadError : Addr} {cdd_BadBeads : ClassData} {cdd_BadMeeting : ClassData} {cdd_BadKind : ClassData} {cdd_TooMany : ClassData} {pP pA pB pC : Addr} {dP dA dB dC : Option Addr} {uA vA uB vB uC vC : Tok} {nP nA nB nC : Nat} {sP sA sB sC : Array (Option Value)} {tMOST_joining : Tok} {tMOST_turning : Tok} {f0 : Addr} {od0 an0 : Option Addr} {sl0 : Array (Option Value)} {oc0 kV0 dc0 pm0 cd0 ct0 : Value} {f1 : Addr} {od1 an1 : Option Addr} {sl1 : Array (Option Value)} {oc1 kV1 dc1 pm1 cd1 ct1 : Value} {f2 : Addr} {od2 an2 : Option Addr} {sl2 : Array (Option Value)} {oc2 kV2 dc2 pm2 cd2 ct2 : Value} {f3 : Addr} {od3 an3 : Option Addr} {sl3 : Array (Option Value)} {oc3 kV3 dc3 pm3 cd3 ct3 : Value} {f4 : Addr} {od4 an4 : Option Addr} {sl4 : Array (Option Value)} {oc4 kV4 dc4 pm4 cd4 ct4 : Value} {f5 : Addr} {od5 an5 : Option Addr} {sl5 : Array (Option Value)} {oc5 kV5 dc5 pm5 cd5 ct5 : Value} {f6 : Addr} {od6 an6 : Option Addr} {sl6 : Array (Option Value)} {oc6 kV6 dc6 pm6 cd6 ct6 : Value} {f7 : Addr} {od7 an7 : Option Addr} {sl7 : Array (Option Value)} {oc7 kV7 dc7 pm7 cd7 ct7 : Value} {f8 : Addr} {od8 an8 : Option Addr} {sl8 : Array (Option Value)} {oc8 kV8 dc8 pm8 cd8 ct8 : Value} {f9 : Addr} {od9 an9 : Option Addr} {sl9 : Array (Option Value)} {oc9 kV9 dc9 pm9 cd9 ct9 : Value} {f10 : Addr} {od10 an10 : Option Addr} {sl10 : Array (Option Value)} {oc10 kV10 dc10 pm10 cd10 ct10 : Value} {f11 : Addr} {od11 an11 : Option Addr} {sl11 : Array (Option Value)} {oc11 kV11 dc11 pm11 cd11 ct11 : Value} {f12 : Addr} {od12 an12 : Option Addr} {sl12 : Array (Option Value)} {oc12 kV12 dc12 pm12 cd12 ct12 : Value} {f13 : Addr} {od13 an13 : Option Addr} {sl13 : Array (Option Value)} {oc13 kV13 dc13 pm13 cd13 ct13 : Value} {f14 : Addr} {od14 an14 : Option Addr} {sl14 : Array (Option Value)} {oc14 kV14 dc14 pm14 cd14 ct14 : Value} {f15 : Addr} {od15 an15 : Option Addr} {sl15 : Array (Option Value)} {oc15 kV15 dc15 pm15 cd15 ct15 : Value} {f16 : Addr} {od16 an16 : Option Addr} {sl16 : Array (Option Value)} {oc16 kV16 dc16 pm16 cd16 ct16 : Value} {f17 : Addr} {od17 an17 : Option Addr} {sl17 : Array (Option Value)} {oc17 kV17 dc17 pm17 cd17 ct17 : Value} {f18 : Addr} {od18 an18 : Option Addr} {sl18 : Array (Option Value)} {oc18 kV18 dc18 pm18 cd18 ct18 : Value} {f19 : Addr} {od19 an19 : Option Addr} {sl19 : Array (Option Value)} {oc19 kV19 dc19 pm19 ct19 : Value} {cL TL : Addr} {eCo : Value} {ddCo : Option Addr} {vsCo : Array Value} {slCo : Array (Option Value)}
    (z_len : PySem.W.nsIn K mainGlobals "len" = some none)
    (z_isinstance : PySem.W.nsIn K mainGlobals "isinstance" = some none)
    (z_sum : PySem.W.nsIn K mainGlobals "sum" = some none)
    (z_max : PySem.W.nsIn K mainGlobals "max" = some none)
    (z_min : PySem.W.nsIn K mainGlobals "min" = some none)
    (z_abs : PySem.W.nsIn K mainGlobals "abs" = some none)
    (z_all : PySem.W.nsIn K mainGlobals "all" = some none)
    (z_any : PySem.W.nsIn K mainGlobals "any" = some none)
    (z_sorted : PySem.W.nsIn K mainGlobals "sorted" = some none)
    (z_list : PySem.W.nsIn K mainGlobals "list" = some none)
    (z_tuple : PySem.W.nsIn K mainGlobals "tuple" = some none)
    (z_range : PySem.W.nsIn K mainGlobals "range" = some none)
    (z_enumerate : PySem.W.nsIn K mainGlobals "enumerate" = some none)
    (z_int : PySem.W.nsIn K mainGlobals "int" = some none)
    (z_bool : PySem.W.nsIn K mainGlobals "bool" = some none)
    (z_str : PySem.W.nsIn K mainGlobals "str" = some none)
    (z_ValueError : PySem.W.nsIn K mainGlobals "ValueError" = some none)
    (ae_BeadError : PySem.W.nsIn K mainGlobals "BeadError" = some (some (.ref C_BeadError)))
    (be_BeadError : PySem.W.subIn K (.ref C_BeadError) (.type "BaseException") = some true)
    (te_BeadError : PySem.W.typeIn K (.ref C_BeadError) = some (.type "type"))
    (de_BeadError : PySem.W.hasDictIn K C_BeadError = true)
    (ae_BadBeads : PySem.W.nsIn K mainGlobals "BadBeads" = some (some (.ref C_BadBeads)))
    (be_BadBeads : PySem.W.subIn K (.ref C_BadBeads) (.type "BaseException") = some true)
    (te_BadBeads : PySem.W.typeIn K (.ref C_BadBeads) = some (.type "type"))
    (de_BadBeads : PySem.W.hasDictIn K C_BadBeads = true)
    (xe_BadBeads : PySem.W.excIn K C_BadBeads [.type "ValueError", .type "Exception", .type "BaseException", .type "object"] "ValueError.__new__" = true)
    (ke_BadBeads : PySem.W.keepIn K (.ref C_BadBeads) = true)
    (ge_BadBeads : PySem.W.findIn K (.ref C_BadBeads) "__getattribute__" = some (some (.builtin "BaseException.__getattribute__")))
    (he_BadBeads : PySem.W.findIn K (.ref C_BadBeads) "__getattr__" = some none)
    (ce_BadBeads : PySem.W.findIn K (.ref C_BadBeads) "__class__" = some (some (.builtin "object.__class__")))
    (me_BadBeads : PySem.W.mroIn K C_BadBeads (.type "object") = some true)
    (ve_BadBeads : PySem.W.subIn K (.ref C_BadBeads) (.type "ValueError") = some true)
    (se_BadBeads : PySem.W.subIn K (.ref C_BadBeads) (.ref C_BeadError) = some true)
    (cc_BadBeads : PySem.W.clsIn K C_BadBeads = some cdd_BadBeads)
    (ae_BadMeeting : PySem.W.nsIn K mainGlobals "BadMeeting" = some (some (.ref C_BadMeeting)))
    (be_BadMeeting : PySem.W.subIn K (.ref C_BadMeeting) (.type "BaseException") = some true)
    (te_BadMeeting : PySem.W.typeIn K (.ref C_BadMeeting) = some (.type "type"))
    (de_BadMeeting : PySem.W.hasDictIn K C_BadMeeting = true)
    (xe_BadMeeting : PySem.W.excIn K C_BadMeeting [.type "ValueError", .type "Exception", .type "BaseException", .type "object"] "ValueError.__new__" = true)
    (ke_BadMeeting : PySem.W.keepIn K (.ref C_BadMeeting) = true)
    (ge_BadMeeting : PySem.W.findIn K (.ref C_BadMeeting) "__getattribute__" = some (some (.builtin "BaseException.__getattribute__")))
    (he_BadMeeting : PySem.W.findIn K (.ref C_BadMeeting) "__getattr__" = some none)
    (ce_BadMeeting : PySem.W.findIn K (.ref C_BadMeeting) "__class__" = some (some (.builtin "object.__class__")))
    (me_BadMeeting : PySem.W.mroIn K C_BadMeeting (.type "object") = some true)
    (ve_BadMeeting : PySem.W.subIn K (.ref C_BadMeeting) (.type "ValueError") = some true)
    (se_BadMeeting : PySem.W.subIn K (.ref C_BadMeeting) (.ref C_BeadError) = some true)
    (cc_BadMeeting : PySem.W.clsIn K C_BadMeeting = some cdd_BadMeeting)
    (ae_BadKind : PySem.W.nsIn K mainGlobals "BadKind" = some (some (.ref C_BadKind)))
    (be_BadKind : PySem.W.subIn K (.ref C_BadKind) (.type "BaseException") = some true)
    (te_BadKind : PySem.W.typeIn K (.ref C_BadKind) = some (.type "type"))
    (de_BadKind : PySem.W.hasDictIn K C_BadKind = true)
    (xe_BadKind : PySem.W.excIn K C_BadKind [.type "ValueError", .type "Exception", .type "BaseException", .type "object"] "ValueError.__new__" = true)
    (ke_BadKind : PySem.W.keepIn K (.ref C_BadKind) = true)
    (ge_BadKind : PySem.W.findIn K (.ref C_BadKind) "__getattribute__" = some (some (.builtin "BaseException.__getattribute__")))
    (he_BadKind : PySem.W.findIn K (.ref C_BadKind) "__getattr__" = some none)
    (ce_BadKind : PySem.W.findIn K (.ref C_BadKind) "__class__" = some (some (.builtin "object.__class__")))
    (me_BadKind : PySem.W.mroIn K C_BadKind (.type "object") = some true)
    (ve_BadKind : PySem.W.subIn K (.ref C_BadKind) (.type "ValueError") = some true)
    (se_BadKind : PySem.W.subIn K (.ref C_BadKind) (.ref C_BeadError) = some true)
    (cc_BadKind : PySem.W.clsIn K C_BadKind = some cdd_BadKind)
    (ae_TooMany : PySem.W.nsIn K mainGlobals "TooMany" = some (some (.ref C_TooMany)))
    (be_TooMany : PySem.W.subIn K (.ref C_TooMany) (.type "BaseException") = some true)
    (te_TooMany : PySem.W.typeIn K (.ref C_TooMany) = some (.type "type"))
    (de_TooMany : PySem.W.hasDictIn K C_TooMany = true)
    (xe_TooMany : PySem.W.excIn K C_TooMany [.type "ValueError", .type "Exception", .type "BaseException", .type "object"] "ValueError.__new__" = true)
    (ke_TooMany : PySem.W.keepIn K (.ref C_TooMany) = true)
    (ge_TooMany : PySem.W.findIn K (.ref C_TooMany) "__getattribute__" = some (some (.builtin "BaseException.__getattribute__")))
    (he_TooMany : PySem.W.findIn K (.ref C_TooMany) "__getattr__" = some none)
    (ce_TooMany : PySem.W.findIn K (.ref C_TooMany) "__class__" = some (some (.builtin "object.__class__")))
    (me_TooMany : PySem.W.mroIn K C_TooMany (.type "object") = some true)
    (ve_TooMany : PySem.W.subIn K (.ref C_TooMany) (.type "ValueError") = some true)
    (se_TooMany : PySem.W.subIn K (.ref C_TooMany) (.ref C_BeadError) = some true)
    (cc_TooMany : PySem.W.clsIn K C_TooMany = some cdd_TooMany)
    (cn : PySem.W.specialIn K (.builtin "object.__class__") "__get__" = some (some (.builtin "getset_descriptor.__get__")))
    (ct : PySem.W.takesIn K (.builtin "object.__class__") = some true)
    (s_BadBeads_BadBeads : PySem.W.subIn K (.ref C_BadBeads) (.ref C_BadBeads) = some true)
    (s_BadBeads_BadMeeting : PySem.W.subIn K (.ref C_BadBeads) (.ref C_BadMeeting) = some false)
    (s_BadBeads_BadKind : PySem.W.subIn K (.ref C_BadBeads) (.ref C_BadKind) = some false)
    (s_BadBeads_TooMany : PySem.W.subIn K (.ref C_BadBeads) (.ref C_TooMany) = some false)
    (s_BadMeeting_BadBeads : PySem.W.subIn K (.ref C_BadMeeting) (.ref C_BadBeads) = some false)
    (s_BadMeeting_BadMeeting : PySem.W.subIn K (.ref C_BadMeeting) (.ref C_BadMeeting) = some true)
    (s_BadMeeting_BadKind : PySem.W.subIn K (.ref C_BadMeeting) (.ref C_BadKind) = some false)
    (s_BadMeeting_TooMany : PySem.W.subIn K (.ref C_BadMeeting) (.ref C_TooMany) = some false)
    (s_BadKind_BadBeads : PySem.W.subIn K (.ref C_BadKind) (.ref C_BadBeads) = some false)
    (s_BadKind_BadMeeting : PySem.W.subIn K (.ref C_BadKind) (.ref C_BadMeeting) = some false)
    (s_BadKind_BadKind : PySem.W.subIn K (.ref C_BadKind) (.ref C_BadKind) = some true)
    (s_BadKind_TooMany : PySem.W.subIn K (.ref C_BadKind) (.ref C_TooMany) = some false)
    (s_TooMany_BadBeads : PySem.W.subIn K (.ref C_TooMany) (.ref C_BadBeads) = some false)
    (s_TooMany_BadMeeting : PySem.W.subIn K (.ref C_TooMany) (.ref C_BadMeeting) = some false)
    (s_TooMany_BadKind : PySem.W.subIn K (.ref C_TooMany) (.ref C_BadKind) = some false)
    (s_TooMany_TooMany : PySem.W.subIn K (.ref C_TooMany) (.ref C_TooMany) = some true)
    (aP : PySem.W.nsIn K mainGlobals "PAIRS" = some (some (.ref pP)))
    (lP : K.lookup pP = some ⟨.type "tuple", dP, .seq #[.ref pA, .ref pB, .ref pC] nP, sP⟩)
    (lA : K.lookup pA = some ⟨.type "tuple", dA, .seq #[.int 0 uA, .int 1 vA] nA, sA⟩)
    (lB : K.lookup pB = some ⟨.type "tuple", dB, .seq #[.int 0 uB, .int 2 vB] nB, sB⟩)
    (lC : K.lookup pC = some ⟨.type "tuple", dC, .seq #[.int 1 uC, .int 2 vC] nC, sC⟩)
    (aMOST_joining : PySem.W.nsIn K mainGlobals "MOST_joining" = some (some (.int 300 tMOST_joining)))
    (aMOST_turning : PySem.W.nsIn K mainGlobals "MOST_turning" = some (some (.int 300 tMOST_turning)))
    (a0 : PySem.W.nsIn K mainGlobals "is_whole" = some (some (.ref f0)))
    (l0 : K.lookup f0 = some ⟨oc0, od0, .func (PySem.W.fnOf "is_whole" "is_whole" (defArgs s_is_whole) (defBody s_is_whole) (defScope s_is_whole) .none kV0 dc0 pm0 an0 cd0 ct0), sl0⟩)
    (c0 : PySem.W.codeIn K cd0 "is_whole" = true)
    (k0 : PySem.W.keepIn K (.ref f0) = true)
    (a1 : PySem.W.nsIn K mainGlobals "asked_beads" = some (some (.ref f1)))
    (l1 : K.lookup f1 = some ⟨oc1, od1, .func (PySem.W.fnOf "asked_beads" "asked_beads" (defArgs s_asked_beads) (defBody s_asked_beads) (defScope s_asked_beads) .none kV1 dc1 pm1 an1 cd1 ct1), sl1⟩)
    (c1 : PySem.W.codeIn K cd1 "asked_beads" = true)
    (k1 : PySem.W.keepIn K (.ref f1) = true)
    (a2 : PySem.W.nsIn K mainGlobals "asked_kind" = some (some (.ref f2)))
    (l2 : K.lookup f2 = some ⟨oc2, od2, .func (PySem.W.fnOf "asked_kind" "asked_kind" (defArgs s_asked_kind) (defBody s_asked_kind) (defScope s_asked_kind) .none kV2 dc2 pm2 an2 cd2 ct2), sl2⟩)
    (c2 : PySem.W.codeIn K cd2 "asked_kind" = true)
    (k2 : PySem.W.keepIn K (.ref f2) = true)
    (a3 : PySem.W.nsIn K mainGlobals "asked_meeting" = some (some (.ref f3)))
    (l3 : K.lookup f3 = some ⟨oc3, od3, .func (PySem.W.fnOf "asked_meeting" "asked_meeting" (defArgs s_asked_meeting) (defBody s_asked_meeting) (defScope s_asked_meeting) .none kV3 dc3 pm3 an3 cd3 ct3), sl3⟩)
    (c3 : PySem.W.codeIn K cd3 "asked_meeting" = true)
    (k3 : PySem.W.keepIn K (.ref f3) = true)
    (a4 : PySem.W.nsIn K mainGlobals "joined" = some (some (.ref f4)))
    (l4 : K.lookup f4 = some ⟨oc4, od4, .func (PySem.W.fnOf "joined" "joined" (defArgs s_joined) (defBody s_joined) (defScope s_joined) .none kV4 dc4 pm4 an4 cd4 ct4), sl4⟩)
    (c4 : PySem.W.codeIn K cd4 "joined" = true)
    (k4 : PySem.W.keepIn K (.ref f4) = true)
    (a5 : PySem.W.nsIn K mainGlobals "turned" = some (some (.ref f5)))
    (l5 : K.lookup f5 = some ⟨oc5, od5, .func (PySem.W.fnOf "turned" "turned" (defArgs s_turned) (defBody s_turned) (defScope s_turned) .none kV5 dc5 pm5 an5 cd5 ct5), sl5⟩)
    (c5 : PySem.W.codeIn K cd5 "turned" = true)
    (k5 : PySem.W.keepIn K (.ref f5) = true)
    (a6 : PySem.W.nsIn K mainGlobals "last_kinds" = some (some (.ref f6)))
    (l6 : K.lookup f6 = some ⟨oc6, od6, .func (PySem.W.fnOf "last_kinds" "last_kinds" (defArgs s_last_kinds) (defBody s_last_kinds) (defScope s_last_kinds) .none kV6 dc6 pm6 an6 cd6 ct6), sl6⟩)
    (c6 : PySem.W.codeIn K cd6 "last_kinds" = true)
    (k6 : PySem.W.keepIn K (.ref f6) = true)
    (a7 : PySem.W.nsIn K mainGlobals "fewest_left" = some (some (.ref f7)))
    (l7 : K.lookup f7 = some ⟨oc7, od7, .func (PySem.W.fnOf "fewest_left" "fewest_left" (defArgs s_fewest_left) (defBody s_fewest_left) (defScope s_fewest_left) .none kV7 dc7 pm7 an7 cd7 ct7), sl7⟩)
    (c7 : PySem.W.codeIn K cd7 "fewest_left" = true)
    (k7 : PySem.W.keepIn K (.ref f7) = true)
    (a8 : PySem.W.nsIn K mainGlobals "all_of" = some (some (.ref f8)))
    (l8 : K.lookup f8 = some ⟨oc8, od8, .func (PySem.W.fnOf "all_of" "all_of" (defArgs s_all_of) (defBody s_all_of) (defScope s_all_of) .none kV8 dc8 pm8 an8 cd8 ct8), sl8⟩)
    (c8 : PySem.W.codeIn K cd8 "all_of" = true)
    (k8 : PySem.W.keepIn K (.ref f8) = true)
    (a9 : PySem.W.nsIn K mainGlobals "met" = some (some (.ref f9)))
    (l9 : K.lookup f9 = some ⟨oc9, od9, .func (PySem.W.fnOf "met" "met" (defArgs s_met) (defBody s_met) (defScope s_met) .none kV9 dc9 pm9 an9 cd9 ct9), sl9⟩)
    (c9 : PySem.W.codeIn K cd9 "met" = true)
    (k9 : PySem.W.keepIn K (.ref f9) = true)
    (a10 : PySem.W.nsIn K mainGlobals "meetings" = some (some (.ref f10)))
    (l10 : K.lookup f10 = some ⟨oc10, od10, .func (PySem.W.fnOf "meetings" "meetings" (defArgs s_meetings) (defBody s_meetings) (defScope s_meetings) .none kV10 dc10 pm10 an10 cd10 ct10), sl10⟩)
    (c10 : PySem.W.codeIn K cd10 "meetings" = true)
    (k10 : PySem.W.keepIn K (.ref f10) = true)
    (a11 : PySem.W.nsIn K mainGlobals "kinds_there" = some (some (.ref f11)))
    (l11 : K.lookup f11 = some ⟨oc11, od11, .func (PySem.W.fnOf "kinds_there" "kinds_there" (defArgs s_kinds_there) (defBody s_kinds_there) (defScope s_kinds_there) .none kV11 dc11 pm11 an11 cd11 ct11), sl11⟩)
    (c11 : PySem.W.codeIn K cd11 "kinds_there" = true)
    (k11 : PySem.W.keepIn K (.ref f11) = true)
    (a12 : PySem.W.nsIn K mainGlobals "next_meeting" = some (some (.ref f12)))
    (l12 : K.lookup f12 = some ⟨oc12, od12, .func (PySem.W.fnOf "next_meeting" "next_meeting" (defArgs s_next_meeting) (defBody s_next_meeting) (defScope s_next_meeting) .none kV12 dc12 pm12 an12 cd12 ct12), sl12⟩)
    (c12 : PySem.W.codeIn K cd12 "next_meeting" = true)
    (k12 : PySem.W.keepIn K (.ref f12) = true)
    (a13 : PySem.W.nsIn K mainGlobals "to_fewest" = some (some (.ref f13)))
    (l13 : K.lookup f13 = some ⟨oc13, od13, .func (PySem.W.fnOf "to_fewest" "to_fewest" (defArgs s_to_fewest) (defBody s_to_fewest) (defScope s_to_fewest) .none kV13 dc13 pm13 an13 cd13 ct13), sl13⟩)
    (c13 : PySem.W.codeIn K cd13 "to_fewest" = true)
    (k13 : PySem.W.keepIn K (.ref f13) = true)
    (a14 : PySem.W.nsIn K mainGlobals "others_of" = some (some (.ref f14)))
    (l14 : K.lookup f14 = some ⟨oc14, od14, .func (PySem.W.fnOf "others_of" "others_of" (defArgs s_others_of) (defBody s_others_of) (defScope s_others_of) .none kV14 dc14 pm14 an14 cd14 ct14), sl14⟩)
    (c14 : PySem.W.codeIn K cd14 "others_of" = true)
    (k14 : PySem.W.keepIn K (.ref f14) = true)
    (a15 : PySem.W.nsIn K mainGlobals "steps_of" = some (some (.ref f15)))
    (l15 : K.lookup f15 = some ⟨oc15, od15, .func (PySem.W.fnOf "steps_of" "steps_of" (defArgs s_steps_of) (defBody s_steps_of) (defScope s_steps_of) .none kV15 dc15 pm15 an15 cd15 ct15), sl15⟩)
    (c15 : PySem.W.codeIn K cd15 "steps_of" = true)
    (k15 : PySem.W.keepIn K (.ref f15) = true)
    (a16 : PySem.W.nsIn K mainGlobals "to_kind" = some (some (.ref f16)))
    (l16 : K.lookup f16 = some ⟨oc16, od16, .func (PySem.W.fnOf "to_kind" "to_kind" (defArgs s_to_kind) (defBody s_to_kind) (defScope s_to_kind) .none kV16 dc16 pm16 an16 cd16 ct16), sl16⟩)
    (c16 : PySem.W.codeIn K cd16 "to_kind" = true)
    (k16 : PySem.W.keepIn K (.ref f16) = true)
    (a17 : PySem.W.nsIn K mainGlobals "_law_refused" = some (some (.ref f17)))
    (l17 : K.lookup f17 = some ⟨oc17, od17, .func (PySem.W.fnOf "_law_refused" "_law_refused" (defArgs s_law_refused) (defBody s_law_refused) (defScope s_law_refused) .none kV17 dc17 pm17 an17 cd17 ct17), sl17⟩)
    (c17 : PySem.W.codeIn K cd17 "_law_refused" = true)
    (k17 : PySem.W.keepIn K (.ref f17) = true)
    (a18 : PySem.W.nsIn K mainGlobals "_law_all" = some (some (.ref f18)))
    (l18 : K.lookup f18 = some ⟨oc18, od18, .func (PySem.W.fnOf "_law_all" "_law_all" (defArgs s_law_all) (defBody s_law_all) (defScope s_law_all) .none kV18 dc18 pm18 an18 cd18 ct18), sl18⟩)
    (c18 : PySem.W.codeIn K cd18 "_law_all" = true)
    (k18 : PySem.W.keepIn K (.ref f18) = true)
    (a19 : PySem.W.nsIn K mainGlobals "law" = some (some (.ref f19)))
    (l19 : K.lookup f19 = some ⟨oc19, od19, .func (PySem.W.fnOf "law" "law" (defArgs s_law) (defBody s_law) (defScope s_law) .none kV19 dc19 pm19 an19 (.ref cL) ct19), sl19⟩)
    (c19 : PySem.W.codeIn K (.ref cL) "law" = true)
    (lCo : K.lookup cL = some ⟨eCo, ddCo, .fields vsCo, slCo⟩)
    (v11 : vsCo[11]? = some (.ref TL))
    (nTL : K.lookup TL = none)
    (hdL : PySem.W.codeHdIn K cL TL = true) :
    LamX.LawAtS l w K (L2N.CX l.prog w) 7 63 "_law_script" mg fa h := by
  have e := hfa.symm.trans (PySem.W.mg_of X G a19)
  cases e
  have B : Bt mg := ⟨PySem.W.mg_none_of X G z_len, PySem.W.mg_none_of X G z_isinstance, PySem.W.mg_none_of X G z_sum, PySem.W.mg_none_of X G z_max, PySem.W.mg_none_of X G z_min, PySem.W.mg_none_of X G z_abs, PySem.W.mg_none_of X G z_all, PySem.W.mg_none_of X G z_any, PySem.W.mg_none_of X G z_sorted, PySem.W.mg_none_of X G z_list, PySem.W.mg_none_of X G z_tuple, PySem.W.mg_none_of X G z_range, PySem.W.mg_none_of X G z_enumerate, PySem.W.mg_none_of X G z_int, PySem.W.mg_none_of X G z_bool, PySem.W.mg_none_of X G z_str, PySem.W.mg_none_of X G z_ValueError⟩
  have e_BadBeads : ErrC K mg "BadBeads" C_BadBeads := ⟨PySem.W.mg_of X G ae_BadBeads, xe_BadBeads, ke_BadBeads, be_BadBeads, te_BadBeads⟩
  have e_BadMeeting : ErrC K mg "BadMeeting" C_BadMeeting := ⟨PySem.W.mg_of X G ae_BadMeeting, xe_BadMeeting, ke_BadMeeting, be_BadMeeting, te_BadMeeting⟩
  have e_BadKind : ErrC K mg "BadKind" C_BadKind := ⟨PySem.W.mg_of X G ae_BadKind, xe_BadKind, ke_BadKind, be_BadKind, te_BadKind⟩
  have e_TooMany : ErrC K mg "TooMany" C_TooMany := ⟨PySem.W.mg_of X G ae_TooMany, xe_TooMany, ke_TooMany, be_TooMany, te_TooMany⟩
  have y_BadBeads : ErrD K C_BadBeads C_BadMeeting C_BadKind C_TooMany C_BeadError C_BadBeads true false false false := ⟨⟨ge_BadBeads, he_BadBeads, be_BadBeads, de_BadBeads, ce_BadBeads, cn, ct, me_BadBeads⟩, kit_ownT cc_BadBeads te_BadBeads s_BadBeads_BadBeads, kit_ownF cc_BadMeeting te_BadMeeting s_BadBeads_BadMeeting s_BadMeeting_BadMeeting, kit_ownF cc_BadKind te_BadKind s_BadBeads_BadKind s_BadKind_BadKind, kit_ownF cc_TooMany te_TooMany s_BadBeads_TooMany s_TooMany_TooMany, kit_val ve_BadBeads, PySem.W.exm_ref be_BeadError de_BeadError te_BeadError se_BadBeads⟩
  have y_BadMeeting : ErrD K C_BadBeads C_BadMeeting C_BadKind C_TooMany C_BeadError C_BadMeeting false true false false := ⟨⟨ge_BadMeeting, he_BadMeeting, be_BadMeeting, de_BadMeeting, ce_BadMeeting, cn, ct, me_BadMeeting⟩, kit_ownF cc_BadBeads te_BadBeads s_BadMeeting_BadBeads s_BadBeads_BadBeads, kit_ownT cc_BadMeeting te_BadMeeting s_BadMeeting_BadMeeting, kit_ownF cc_BadKind te_BadKind s_BadMeeting_BadKind s_BadKind_BadKind, kit_ownF cc_TooMany te_TooMany s_BadMeeting_TooMany s_TooMany_TooMany, kit_val ve_BadMeeting, PySem.W.exm_ref be_BeadError de_BeadError te_BeadError se_BadMeeting⟩
  have y_BadKind : ErrD K C_BadBeads C_BadMeeting C_BadKind C_TooMany C_BeadError C_BadKind false false true false := ⟨⟨ge_BadKind, he_BadKind, be_BadKind, de_BadKind, ce_BadKind, cn, ct, me_BadKind⟩, kit_ownF cc_BadBeads te_BadBeads s_BadKind_BadBeads s_BadBeads_BadBeads, kit_ownF cc_BadMeeting te_BadMeeting s_BadKind_BadMeeting s_BadMeeting_BadMeeting, kit_ownT cc_BadKind te_BadKind s_BadKind_BadKind, kit_ownF cc_TooMany te_TooMany s_BadKind_TooMany s_TooMany_TooMany, kit_val ve_BadKind, PySem.W.exm_ref be_BeadError de_BeadError te_BeadError se_BadKind⟩
  have y_TooMany : ErrD K C_BadBeads C_BadMeeting C_BadKind C_TooMany C_BeadError C_TooMany false false false true := ⟨⟨ge_TooMany, he_TooMany, be_TooMany, de_TooMany, ce_TooMany, cn, ct, me_TooMany⟩, kit_ownF cc_BadBeads te_BadBeads s_TooMany_BadBeads s_BadBeads_BadBeads, kit_ownF cc_BadMeeting te_BadMeeting s_TooMany_BadMeeting s_BadMeeting_BadMeeting, kit_ownF cc_BadKind te_BadKind s_TooMany_BadKind s_BadKind_BadKind, kit_ownT cc_TooMany te_TooMany s_TooMany_TooMany, kit_val ve_TooMany, PySem.W.exm_ref be_BeadError de_BeadError te_BeadError se_TooMany⟩
  have g_errs : Errs K mg C_BadBeads C_BadMeeting C_BadKind C_TooMany C_BeadError := ⟨PySem.W.mg_of X G ae_BadBeads, PySem.W.mg_of X G ae_BadMeeting, PySem.W.mg_of X G ae_BadKind, PySem.W.mg_of X G ae_TooMany, PySem.W.mg_of X G ae_BeadError, y_BadBeads, y_BadMeeting, y_BadKind, y_TooMany⟩
  have g_PAIRS := PySem.W.mg_of X G aP
  have hP := pairs_written lP lA lB lC
  have g_MOST_joining : ∃ t, mg "MOST_joining" = some (.int 300 t) := ⟨tMOST_joining, PySem.W.mg_of X G aMOST_joining⟩
  have g_MOST_turning : ∃ t, mg "MOST_turning" = some (.int 300 t) := ⟨tMOST_turning, PySem.W.mg_of X G aMOST_turning⟩
  have D0 : DefAt K mg "is_whole" s_is_whole ["thing"] := defAt_mk X G (fun _ _ _ _ _ _ us hl => match us, hl with | [_], _ => rfl) a0 l0 c0 k0
  have D1 : DefAt K mg "asked_beads" s_asked_beads ["beads"] := defAt_mk X G (fun _ _ _ _ _ _ us hl => match us, hl with | [_], _ => rfl) a1 l1 c1 k1
  have D2 : DefAt K mg "asked_kind" s_asked_kind ["kind"] := defAt_mk X G (fun _ _ _ _ _ _ us hl => match us, hl with | [_], _ => rfl) a2 l2 c2 k2
  have D3 : DefAt K mg "asked_meeting" s_asked_meeting ["beads", "meeting"] := defAt_mk X G (fun _ _ _ _ _ _ us hl => match us, hl with | [_, _], _ => rfl) a3 l3 c3 k3
  have D4 : DefAt K mg "joined" s_joined ["beads", "meeting"] := defAt_mk X G (fun _ _ _ _ _ _ us hl => match us, hl with | [_, _], _ => rfl) a4 l4 c4 k4
  have D5 : DefAt K mg "turned" s_turned ["beads", "meeting"] := defAt_mk X G (fun _ _ _ _ _ _ us hl => match us, hl with | [_, _], _ => rfl) a5 l5 c5 k5
  have D6 : DefAt K mg "last_kinds" s_last_kinds ["beads"] := defAt_mk X G (fun _ _ _ _ _ _ us hl => match us, hl with | [_], _ => rfl) a6 l6 c6 k6
  have D7 : DefAt K mg "fewest_left" s_fewest_left ["beads"] := defAt_mk X G (fun _ _ _ _ _ _ us hl => match us, hl with | [_], _ => rfl) a7 l7 c7 k7
  have D8 : DefAt K mg "all_of" s_all_of ["beads", "kind"] := defAt_mk X G (fun _ _ _ _ _ _ us hl => match us, hl with | [_, _], _ => rfl) a8 l8 c8 k8
  have D9 : DefAt K mg "met" s_met ["beads", "meeting", "more"] := defAt_mk X G (fun _ _ _ _ _ _ us hl => match us, hl with | [_, _, _], _ => rfl) a9 l9 c9 k9
  have D10 : DefAt K mg "meetings" s_meetings ["beads"] := defAt_mk X G (fun _ _ _ _ _ _ us hl => match us, hl with | [_], _ => rfl) a10 l10 c10 k10
  have D11 : DefAt K mg "kinds_there" s_kinds_there ["beads"] := defAt_mk X G (fun _ _ _ _ _ _ us hl => match us, hl with | [_], _ => rfl) a11 l11 c11 k11
  have D12 : DefAt K mg "next_meeting" s_next_meeting ["beads"] := defAt_mk X G (fun _ _ _ _ _ _ us hl => match us, hl with | [_], _ => rfl) a12 l12 c12 k12
  have D13 : DefAt K mg "to_fewest" s_to_fewest ["beads"] := defAt_mk X G (fun _ _ _ _ _ _ us hl => match us, hl with | [_], _ => rfl) a13 l13 c13 k13
  have D14 : DefAt K mg "others_of" s_others_of ["kind"] := defAt_mk X G (fun _ _ _ _ _ _ us hl => match us, hl with | [_], _ => rfl) a14 l14 c14 k14
  have D15 : DefAt K mg "steps_of" s_steps_of ["beads", "kind"] := defAt_mk X G (fun _ _ _ _ _ _ us hl => match us, hl with | [_, _], _ => rfl) a15 l15 c15 k15
  have D16 : DefAt K mg "to_kind" s_to_kind ["beads", "kind"] := defAt_mk X G (fun _ _ _ _ _ _ us hl => match us, hl with | [_, _], _ => rfl) a16 l16 c16 k16
  have D17 : DefAt K mg "_law_refused" s_law_refused ["_law_ask", "_law_thing", "_law_due"] := defAt_mk X G (fun _ _ _ _ _ _ us hl => match us, hl with | [_, _, _], _ => rfl) a17 l17 c17 k17
  have D18 : DefAt K mg "_law_all" s_law_all ["_law_asks", "_law_things", "_law_due"] := defAt_mk X G (fun _ _ _ _ _ _ us hl => match us, hl with | [_, _, _], _ => rfl) a18 l18 c18 k18
  refine ⟨PySem.W.fnOf "law" "law" (defArgs s_law) (defBody s_law) (defScope s_law) .none kV19 dc19 pm19 an19 (.ref cL) ct19, [(cL, TL)], sp7 K TL, fun p hp => ?_, fun p hp => ?_, fun p hp => ?_, fun s u => .of_eq rfl, fun H a ns _ _ hT hS => law_sp7 (hT _ (List.mem_singleton.mpr rfl)) hS, fun base _ _ hTB => ?_⟩
  · rw [List.mem_singleton.mp hp]
    exact own cL TL _ _ _ _ _ _ l19 rfl rfl lCo v11
  · rw [List.mem_singleton.mp hp]
    exact nTL
  · rw [List.mem_singleton.mp hp]
    exact PySem.W.codeHd_of_K X hdL
  have d_is_whole := ok_is_whole (P := l.prog) (w := w) (base := base) B D0
  have d_asked_beads := ok_asked_beads (P := l.prog) (w := w) (base := base) B D1 e_BadBeads d_is_whole
  have d_asked_kind := ok_asked_kind (P := l.prog) (w := w) (base := base) B D2 e_BadKind d_is_whole
  have d_asked_meeting := ok_asked_meeting (P := l.prog) (w := w) (base := base) B D3 e_BadMeeting g_PAIRS hP d_is_whole
  have d_joined := ok_joined (P := l.prog) (w := w) (base := base) B D4 d_asked_beads d_asked_meeting
  have d_turned := ok_turned (P := l.prog) (w := w) (base := base) B D5 d_asked_beads d_asked_meeting
  have d_last_kinds := ok_last_kinds (P := l.prog) (w := w) (base := base) B D6 d_asked_beads
  have d_fewest_left := ok_fewest_left (P := l.prog) (w := w) (base := base) B D7 d_asked_beads
  have d_all_of := ok_all_of (P := l.prog) (w := w) (base := base) B D8 d_asked_beads d_asked_kind
  have d_met := ok_met (P := l.prog) (w := w) (base := base) B D9
  have d_meetings := ok_meetings (P := l.prog) (w := w) (base := base) B D10 g_PAIRS hP d_asked_beads
  have d_kinds_there := ok_kinds_there (P := l.prog) (w := w) (base := base) B D11
  have d_next_meeting := ok_next_meeting (P := l.prog) (w := w) (base := base) B D12
  have d_to_fewest := ok_to_fewest (P := l.prog) (w := w) (base := base) B D13 g_MOST_joining e_TooMany d_asked_beads d_kinds_there d_next_meeting d_met
  have d_others_of := ok_others_of (P := l.prog) (w := w) (base := base) B D14
  have d_steps_of := ok_steps_of (P := l.prog) (w := w) (base := base) B D15 d_others_of d_kinds_there
  have d_to_kind := ok_to_kind (P := l.prog) (w := w) (base := base) B D16 g_MOST_turning e_TooMany d_asked_beads d_asked_kind d_steps_of d_others_of d_met
  have d__law_refused := ok_law_refused (P := l.prog) (w := w) (base := base) B D17 g_errs
  have d__law_all := ok_law_all (P := l.prog) (w := w) (base := base) B D18 d__law_refused
  exact ok_law (P := l.prog) (w := w) (base := base) B l19 c19 (hTB _ (List.mem_singleton.mpr rfl)) D10 D6 D7 D13 d_meetings d_last_kinds d_fewest_left d_to_fewest d_joined d_turned d_all_of d_to_kind d__law_all
theorem walk {l : PySem.W.OpenLaw} {q : Program} {loose : List Str} {XP : (Str → Option Value) → Heap → Prop} {YP : World → Heap → Prop} {d : DefRec} {K : Params → PySem.W.Frag} (hn : l.most = some 63) (hdf : d.params.defaults = []) (hrec : ((recsOf q).any fun e => e.name == d.name) = true)
    (hY : ∀ (w : World) (h : Heap), YP w h → (K w.params).In h)
    (F : ∀ (w : World) (mg : Str → Option Value) (fa : Addr) (h : Heap), YP w h → (K w.params).In h → h.Ns mainGlobals mg → mg d.name = some (.ref fa) → LamX.OwnTab (K w.params) fa h → LamX.LawAtS l w (K w.params) (L2N.CX l.prog w) 7 63 "_law_script" mg fa h) :
    PySem.W.WalkO q loose XP YP l.row.toRowW d [] (fun f vs => PySem.call f vs) :=
  LamX.walk_ofOwn (n := 63) (k := 7) (CX := fun w => L2N.CX l.prog w) (x := "_law_script") hn (by decide) hdf ⟨rfl, by decide, by decide⟩ hrec hY F fun _ _ _ _ _ z => cx_false z
end
end My
open PySem PySem.W PyProof.Rows
set_option maxRecDepth 100000 in
set_option maxHeartbeats 0 in
theorem PySem.Challenge.cw_kindmeets_k07_refused_holds : PySem.Challenge.rw_kindmeets_k07_refused.Holds := by
  w_on; o_law; k_head; (case hw => w_witness2)
  k_fill
  refine My.walk (l := PySem.Challenge.rw_kindmeets_k07_refused) rfl rfl ?hrec (fun w h Y => PySem.W.km_in_of Y) ?F
  case hrec => first | decide +kernel | kernel_rfl | rfl
  case F =>
    intro w mg fa h Y KX G hmg own
    refine' My.all_mk KX G hmg own ?z_len ?z_isinstance ?z_sum ?z_max ?z_min ?z_abs ?z_all ?z_any ?z_sorted ?z_list ?z_tuple ?z_range ?z_enumerate ?z_int ?z_bool ?z_str ?z_ValueError ?ae_BeadError ?be_BeadError ?te_BeadError ?de_BeadError ?ae_BadBeads ?be_BadBeads ?te_BadBeads ?de_BadBeads ?xe_BadBeads ?ke_BadBeads ?ge_BadBeads ?he_BadBeads ?ce_BadBeads ?me_BadBeads ?ve_BadBeads ?se_BadBeads ?cc_BadBeads ?ae_BadMeeting ?be_BadMeeting ?te_BadMeeting ?de_BadMeeting ?xe_BadMeeting ?ke_BadMeeting ?ge_BadMeeting ?he_BadMeeting ?ce_BadMeeting ?me_BadMeeting ?ve_BadMeeting ?se_BadMeeting ?cc_BadMeeting ?ae_BadKind ?be_BadKind ?te_BadKind ?de_BadKind ?xe_BadKind ?ke_BadKind ?ge_BadKind ?he_BadKind ?ce_BadKind ?me_BadKind ?ve_BadKind ?se_BadKind ?cc_BadKind ?ae_TooMany ?be_TooMany ?te_TooMany ?de_TooMany ?xe_TooMany ?ke_TooMany ?ge_TooMany ?he_TooMany ?ce_TooMany ?me_TooMany ?ve_TooMany ?se_TooMany ?cc_TooMany ?cn ?ct ?s_BadBeads_BadBeads ?s_BadBeads_BadMeeting ?s_BadBeads_BadKind ?s_BadBeads_TooMany ?s_BadMeeting_BadBeads ?s_BadMeeting_BadMeeting ?s_BadMeeting_BadKind ?s_BadMeeting_TooMany ?s_BadKind_BadBeads ?s_BadKind_BadMeeting ?s_BadKind_BadKind ?s_BadKind_TooMany ?s_TooMany_BadBeads ?s_TooMany_BadMeeting ?s_TooMany_BadKind ?s_TooMany_TooMany ?aP ?lP ?lA ?lB ?lC ?aMOST_joining ?aMOST_turning ?a0 ?l0 ?c0 ?k0 ?a1 ?l1 ?c1 ?k1 ?a2 ?l2 ?c2 ?k2 ?a3 ?l3 ?c3 ?k3 ?a4 ?l4 ?c4 ?k4 ?a5 ?l5 ?c5 ?k5 ?a6 ?l6 ?c6 ?k6 ?a7 ?l7 ?c7 ?k7 ?a8 ?l8 ?c8 ?k8 ?a9 ?l9 ?c9 ?k9 ?a10 ?l10 ?c10 ?k10 ?a11 ?l11 ?c11 ?k11 ?a12 ?l12 ?c12 ?k12 ?a13 ?l13 ?c13 ?k13 ?a14 ?l14 ?c14 ?k14 ?a15 ?l15 ?c15 ?k15 ?a16 ?l16 ?c16 ?k16 ?a17 ?l17 ?c17 ?k17 ?a18 ?l18 ?c18 ?k18 ?a19 ?l19 ?c19 ?lCo ?v11 ?nTL ?hdL
    (case z_len => k_is)
    (case z_isinstance => k_is)
    (case z_sum => k_is)
    (case z_max => k_is)
    (case z_min => k_is)
    (case z_abs => k_is)
    (case z_all => k_is)
    (case z_any => k_is)
    (case z_sorted => k_is)
    (case z_list => k_is)
    (case z_tuple => k_is)
    (case z_range => k_is)
    (case z_enumerate => k_is)
    (case z_int => k_is)
    (case z_bool => k_is)
    (case z_str => k_is)
    (case z_ValueError => k_is)
    (case ae_BeadError => k_is)
    (case be_BeadError => k_is)
    (case te_BeadError => k_is)
    (case de_BeadError => k_is)
    (case ae_BadBeads => k_is)
    (case be_BadBeads => k_is)
    (case te_BadBeads => k_is)
    (case de_BadBeads => k_is)
    (case xe_BadBeads => k_exc)
    (case ke_BadBeads => k_is)
    (case ge_BadBeads => k_is)
    (case he_BadBeads => k_is)
    (case ce_BadBeads => k_is)
    (case me_BadBeads => k_is)
    (case ve_BadBeads => k_is)
    (case se_BadBeads => k_is)
    (case cc_BadBeads => k_is)
    (case ae_BadMeeting => k_is)
    (case be_BadMeeting => k_is)
    (case te_BadMeeting => k_is)
    (case de_BadMeeting => k_is)
    (case xe_BadMeeting => k_exc)
    (case ke_BadMeeting => k_is)
    (case ge_BadMeeting => k_is)
    (case he_BadMeeting => k_is)
    (case ce_BadMeeting => k_is)
    (case me_BadMeeting => k_is)
    (case ve_BadMeeting => k_is)
    (case se_BadMeeting => k_is)
    (case cc_BadMeeting => k_is)
    (case ae_BadKind => k_is)
    (case be_BadKind => k_is)
    (case te_BadKind => k_is)
    (case de_BadKind => k_is)
    (case xe_BadKind => k_exc)
    (case ke_BadKind => k_is)
    (case ge_BadKind => k_is)
    (case he_BadKind => k_is)
    (case ce_BadKind => k_is)
    (case me_BadKind => k_is)
    (case ve_BadKind => k_is)
    (case se_BadKind => k_is)
    (case cc_BadKind => k_is)
    (case ae_TooMany => k_is)
    (case be_TooMany => k_is)
    (case te_TooMany => k_is)
    (case de_TooMany => k_is)
    (case xe_TooMany => k_exc)
    (case ke_TooMany => k_is)
    (case ge_TooMany => k_is)
    (case he_TooMany => k_is)
    (case ce_TooMany => k_is)
    (case me_TooMany => k_is)
    (case ve_TooMany => k_is)
    (case se_TooMany => k_is)
    (case cc_TooMany => k_is)
    (case cn => k_is)
    (case ct => k_is)
    (case s_BadBeads_BadBeads => k_is)
    (case s_BadBeads_BadMeeting => k_is)
    (case s_BadBeads_BadKind => k_is)
    (case s_BadBeads_TooMany => k_is)
    (case s_BadMeeting_BadBeads => k_is)
    (case s_BadMeeting_BadMeeting => k_is)
    (case s_BadMeeting_BadKind => k_is)
    (case s_BadMeeting_TooMany => k_is)
    (case s_BadKind_BadBeads => k_is)
    (case s_BadKind_BadMeeting => k_is)
    (case s_BadKind_BadKind => k_is)
    (case s_BadKind_TooMany => k_is)
    (case s_TooMany_BadBeads => k_is)
    (case s_TooMany_BadMeeting => k_is)
    (case s_TooMany_BadKind => k_is)
    (case s_TooMany_TooMany => k_is)
    (case aP => k_is)
    (case lP => k_is)
    (case lA => k_is)
    (case lB => k_is)
    (case lC => k_is)
    (case aMOST_joining => k_is)
    (case aMOST_turning => k_is)
    (case a0 => k_is)
    (case l0 => k_is)
    (case c0 => k_is)
    (case k0 => k_is)
    (case a1 => k_is)
    (case l1 => k_is)
    (case c1 => k_is)
    (case k1 => k_is)
    (case a2 => k_is)
    (case l2 => k_is)
    (case c2 => k_is)
    (case k2 => k_is)
    (case a3 => k_is)
    (case l3 => k_is)
    (case c3 => k_is)
    (case k3 => k_is)
    (case a4 => k_is)
    (case l4 => k_is)
    (case c4 => k_is)
    (case k4 => k_is)
    (case a5 => k_is)
    (case l5 => k_is)
    (case c5 => k_is)
    (case k5 => k_is)
    (case a6 => k_is)
    (case l6 => k_is)
    (case c6 => k_is)
    (case k6 => k_is)
    (case a7 => k_is)
    (case l7 => k_is)
    (case c7 => k_is)
    (case k7 => k_is)
    (case a8 => k_is)
    (case l8 => k_is)
    (case c8 => k_is)
    (case k8 => k_is)
    (case a9 => k_is)
    (case l9 => k_is)
    (case c9 => k_is)
    (case k9 => k_is)
    (case a10 => k_is)
    (case l10 => k_is)
    (case c10 => k_is)
    (case k10 => k_is)
    (case a11 => k_is)
    (case l11 => k_is)
    (case c11 => k_is)
    (case k11 => k_is)
    (case a12 => k_is)
    (case l12 => k_is)
    (case c12 => k_is)
    (case k12 => k_is)
    (case a13 => k_is)
    (case l13 => k_is)
    (case c13 => k_is)
    (case k13 => k_is)
    (case a14 => k_is)
    (case l14 => k_is)
    (case c14 => k_is)
    (case k14 => k_is)
    (case a15 => k_is)
    (case l15 => k_is)
    (case c15 => k_is)
    (case k15 => k_is)
    (case a16 => k_is)
    (case l16 => k_is)
    (case c16 => k_is)
    (case k16 => k_is)
    (case a17 => k_is)
    (case l17 => k_is)
    (case c17 => k_is)
    (case k17 => k_is)
    (case a18 => k_is)
    (case l18 => k_is)
    (case c18 => k_is)
    (case k18 => k_is)
    (case a19 => k_is)
    (case l19 => k_is)
    (case c19 => k_is)
    (case lCo => k_is)
    (case v11 => exact rfl)
    (case nTL => first | kernel_rfl | exact rfl)
    (case hdL => first | kernel_rfl | exact rfl)
#print axioms PySem.Challenge.cw_kindmeets_k07_refused_holds
