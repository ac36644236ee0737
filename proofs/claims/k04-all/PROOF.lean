import PyProof.Rows.All
import Wide.All
import OpenK.AllK
import Wide.FinOn
import HandS.ForMost
import HandS.Exc
import HandS.TryOnly
import HandS.ExcOwn
import HandS.WordsExc
import HandS.Wide
import HandS.IsInst
import HandS.Deep
import HandS.Walk
import HandS.Style
import HandS.NoneIn
import HandS.SortInts
import HandS.SortRule
import HandS.SetFor
import HandS.EndBits
import HandS.Codes
import HandS.ExcIs
import HandS.CallLocal
import HandS.Conv
import KE.GoesEnum
import KE.GoesMore
import KE.KTupSum
import PyProof.WalkInts
import KE.KIndexOf
import HandS.New
import HandS.CallRecv
import KE.KDictDisplayH
import PySem.Challenge.RW_kindmeets_k04_whole_all
set_option Elab.async false
set_option linter.all false
set_option maxRecDepth 100000
set_option maxHeartbeats 4000000
/-! # A layer of big steps over the hand layer: what a reading gives, told over an abstract store -/
namespace Dx
open PySem PySem.Spec PyProof.Rows L2

/-! ## kinds of values: what is true of a value over a heap, and stays so while the heap grows -/
structure Kd where
  p : V → Hp → Prop
  up : ∀ {v : V} {H H' : Hp}, Same H H' → p v H → p v H'

abbrev AllK (H : Hp) : List V → List Kd → Prop := Paired fun v (k : Kd) => k.p v H
theorem AllK.up {H H' : Hp} (e : Same H H') : ∀ {vs : List V} {ks : List Kd}, AllK H vs ks → AllK H' vs ks
  | _, _, .nil => .nil
  | _, _, .cons h t => .cons (Kd.up _ e h) (AllK.up e t)
theorem AllK.len {H : Hp} {vs : List V} {ks : List Kd} (h : AllK H vs ks) : vs.length = ks.length := Paired.length h
theorem AllK.app {H : Hp} : ∀ {vs ws : List V} {ks ls : List Kd}, AllK H vs ks → AllK H ws ls → AllK H (vs ++ ws) (ks ++ ls)
  | _, _, _, _, .nil, s => s
  | _, _, _, _, .cons r t, s => .cons r (AllK.app t s)
theorem AllK.get {H : Hp} : ∀ {vs : List V} {ks : List Kd} {i : Nat} {v : V}, AllK H vs ks → vs[i]? = some v → ∃ k, ks[i]? = some k ∧ k.p v H
  | _, _, _, _, .nil, e => by simp at e
  | _, _, 0, _, .cons (b := k) r _, e => by
    simp at e
    subst e
    exact ⟨k, rfl, r⟩
  | _, _, i + 1, v, .cons _ t, e => by
    obtain ⟨k, h1, h2⟩ := AllK.get (i := i) (v := v) t (by simpa using e)
    exact ⟨k, by simpa using h1, h2⟩
theorem AllK.get' {H : Hp} : ∀ {vs : List V} {ks : List Kd} {i : Nat} {k : Kd}, AllK H vs ks → ks[i]? = some k → ∃ v, vs[i]? = some v ∧ k.p v H
  | _, _, _, _, .nil, e => by simp at e
  | _, _, 0, _, .cons (a := v) r _, e => by
    simp at e
    subst e
    exact ⟨v, rfl, r⟩
  | _, _, i + 1, v, .cons _ t, e => by
    obtain ⟨k, h1, h2⟩ := AllK.get' (i := i) (k := v) t (by simpa using e)
    exact ⟨k, by simpa using h1, h2⟩
theorem AllK.set {H : Hp} {v : V} {k : Kd} (r : k.p v H) : ∀ {vs : List V} {ks : List Kd} (i : Nat), AllK H vs ks → AllK H (vs.set i v) (ks.set i k)
  | _, _, _, .nil => .nil
  | _, _, 0, .cons _ t => .cons r t
  | _, _, i + 1, .cons q t => .cons q (AllK.set r i t)

theorem same_upd {H : Hp} {p : Addr} {o : HO} (h : H p = none) : Same H (upd H p o) := fun b x e => by
  rw [upd_ne (ne_of_none e h)]
  exact e
theorem Same.sqT {K : PySem.W.Frag} {H H' : Hp} {a : Addr} {xs : List V} (e : Same H H') (h : SqT K H a xs) : SqT K H' a xs := by
  rcases h with (h | ⟨o, h⟩) | h
  · exact .inl (.inl (e _ _ h))
  · exact .inl (.inr ⟨o, e _ _ h⟩)
  · exact .inr h

/-- just this value -/
def kE (x : V) : Kd := ⟨fun v _ => v = x, fun _ h => h⟩
abbrev kI (i : Int) : Kd := kE (.int i)
abbrev kB (b : Bool) : Kd := kE (.bl b)
abbrev kN : Kd := kE .non
/-- anything -/
def kAny : Kd := ⟨fun _ _ => True, fun _ h => h⟩
/-- a tuple -/
def kT (K : PySem.W.Frag) (ks : List Kd) : Kd := ⟨fun v H => ∃ a xs, v = .ref a ∧ SqT K H a xs ∧ AllK H xs ks, fun e ⟨a, xs, h1, h2, h3⟩ => ⟨a, xs, h1, Same.sqT e h2, h3.up e⟩⟩
/-- a list that stands still (any: the script, too) -/
def kS (K : PySem.W.Frag) (ks : List Kd) : Kd := ⟨fun v H => ∃ a xs, v = .ref a ∧ SqL K H a xs ∧ AllK H xs ks, fun e ⟨a, xs, h1, h2, h3⟩ => ⟨a, xs, h1, e.seq h2, h3.up e⟩⟩
/-- a list that the call has made -/
def kL (ks : List Kd) : Kd := ⟨fun v H => ∃ a xs, v = .ref a ∧ H a = some (.lst xs) ∧ AllK H xs ks, fun e ⟨a, xs, h1, h2, h3⟩ => ⟨a, xs, h1, e _ _ h2, h3.up e⟩⟩
/-- one or another -/
def kOr (k1 k2 : Kd) : Kd := ⟨fun v H => k1.p v H ∨ k2.p v H, fun e h => h.elim (fun h => .inl (k1.up e h)) fun h => .inr (k2.up e h)⟩
/-- an instance of the class at C, its attributes -/
def kO (C : Addr) (fs : List (Str × V)) : Kd := ⟨fun v H => ∃ a dx, v = .ref a ∧ H a = some (.ins C dx fs), fun e ⟨a, dx, h1, h2⟩ => ⟨a, dx, h1, e _ _ h2⟩⟩

def Kd.le (k k' : Kd) : Prop := ∀ v H, k.p v H → k'.p v H
theorem Kd.le.refl (k : Kd) : k.le k := fun _ _ h => h
theorem kL_le_kS {K : PySem.W.Frag} {ks : List Kd} : (kL ks).le (kS K ks) := fun _ _ ⟨a, xs, h1, h2, h3⟩ => ⟨a, xs, h1, SqL.of h2, h3⟩
theorem AllK.le {H : Hp} : ∀ {vs : List V} {ks ls : List Kd}, AllK H vs ks → Paired Kd.le ks ls → AllK H vs ls
  | _, _, _, .nil, .nil => .nil
  | _, _, _, .cons h t, .cons q r => .cons (q _ _ h) (AllK.le t r)
theorem kL_le {ks ls : List Kd} (h : Paired Kd.le ks ls) : (kL ks).le (kL ls) := fun _ _ ⟨a, xs, h1, h2, h3⟩ => ⟨a, xs, h1, h2, h3.le h⟩
theorem kT_le {K : PySem.W.Frag} {ks ls : List Kd} (h : Paired Kd.le ks ls) : (kT K ks).le (kT K ls) := fun _ _ ⟨a, xs, h1, h2, h3⟩ => ⟨a, xs, h1, h2, h3.le h⟩

/-! ## data -/
/-- a value of kind k is the data d -/
def IsD (K : PySem.W.Frag) (k : Kd) (d : PyData) : Prop := ∀ v H, k.p v H → Dp K H v d
def IsDs (K : PySem.W.Frag) (ks : List Kd) (ds : List PyData) : Prop := ∀ vs H, AllK H vs ks → DpAll K H vs ds
section
variable {K : PySem.W.Frag}
theorem isd_int {i : Int} : IsD K (kI i) (.int i) := fun v H (h : v = .int i) => by subst h; exact .int i
theorem isd_bl {b : Bool} : IsD K (kB b) (.bool b) := fun v H (h : v = .bl b) => by subst h; exact .bl b
theorem isd_non : IsD K kN .none := fun v H (h : v = .non) => by subst h; exact .non
theorem isd_str {x : Str} : IsD K (kE (.str x)) (.str x) := fun v H (h : v = .str x) => by subst h; exact .str x
theorem isds_nil : IsDs K [] [] := fun vs H h => by cases h; exact .nil
theorem isds_cons {k : Kd} {ks : List Kd} {d : PyData} {ds : List PyData} (h : IsD K k d) (t : IsDs K ks ds) : IsDs K (k :: ks) (d :: ds) := fun vs H q => by
  cases q with
  | cons q r => exact .cons (h _ _ q) (t _ _ r)
theorem isds_map {α : Type} {f : α → Kd} {g : α → PyData} (h : ∀ a, IsD K (f a) (g a)) : ∀ l : List α, IsDs K (l.map f) (l.map g)
  | [] => isds_nil
  | a :: l => isds_cons (h a) (isds_map h l)
theorem isd_tup {ks : List Kd} {ds : List PyData} (h : IsDs K ks ds) : IsD K (kT K ks) (.tuple ds) := fun v H ⟨a, xs, h1, h2, h3⟩ => by
  subst h1
  exact .tup h2 (h _ _ h3)
theorem isd_lst {ks : List Kd} {ds : List PyData} (h : IsDs K ks ds) : IsD K (kL ks) (.list ds) := fun v H ⟨a, xs, h1, h2, h3⟩ => by
  subst h1
  exact .lst (SqL.of h2) (h _ _ h3)
theorem isd_seq {ks : List Kd} {ds : List PyData} (h : IsDs K ks ds) : IsD K (kS K ks) (.list ds) := fun v H ⟨a, xs, h1, h2, h3⟩ => by
  subst h1
  exact .lst h2 (h _ _ h3)
end

/-! ## the abstract store -/
inductive Sl where
  /-- unknown -/
  | no
  /-- a value of this kind -/
  | sh (k : Kd)
  /-- a list that nobody else knows, its items' kinds -/
  | ow (ks : List Kd)

/-- Hb is what is known of the heap H; H0 is the heap at the def's entry -/
structure Sg (H0 Hb H : Hp) (σ : L2.St) (δ : List Sl) : Prop where
  ex : Same Hb H
  fr : Same H0 H
  len : σ.length = δ.length
  sh : ∀ (i : Nat) (k : Kd), δ[i]? = some (.sh k) → ∃ v, σ[i]? = some (some v) ∧ k.p v Hb
  ow : ∀ (i : Nat) (ks : List Kd), δ[i]? = some (.ow ks) → ∃ p xs, σ[i]? = some (some (.ref p)) ∧ Hb p = none ∧ H0 p = none ∧ H p = some (.lst xs) ∧ AllK Hb xs ks
  ne : ∀ (i j : Nat) (ks ls : List Kd) (p : Addr), δ[i]? = some (.ow ks) → δ[j]? = some (.ow ls) → σ[i]? = some (some (.ref p)) → σ[j]? = some (some (.ref p)) → i = j

/-- the known heap grows, by what the entry's heap H0 did not know -/
def NT (o : Option HO) : Prop := o ≠ none ∧ ∀ xs, o ≠ some (.tup xs)
theorem nt_lst {xs : List V} : NT (some (.lst xs)) := ⟨fun z => (nomatch z), fun _ z => (nomatch z)⟩
theorem NT.same {H0 H1 : Hp} {c : Addr} (e : Same H0 H1) (h : NT (H0 c)) : NT (H1 c) := by
  cases q : H0 c with
  | none => exact absurd q h.1
  | some o =>
    rw [e c o q, ← q]
    exact h
/-- .. tuples aside -/
def Gr (H0 Hb Hb' : Hp) : Prop := Same Hb Hb' ∧ ∀ b, NT (H0 b) → Hb b = none → Hb' b = none
theorem Gr.refl (H0 Hb : Hp) : Gr H0 Hb Hb := ⟨Same.refl _, fun _ _ h => h⟩
theorem Gr.trans {H0 Hb Hb' Hc : Hp} (a : Gr H0 Hb Hb') (b : Gr H0 Hb' Hc) : Gr H0 Hb Hc := ⟨a.1.trans b.1, fun c h q => b.2 c h (a.2 c h q)⟩
theorem Gr.mono {H0 H1 Hb Hb' : Hp} (e : Same H0 H1) (a : Gr H1 Hb Hb') : Gr H0 Hb Hb' := ⟨a.1, fun c h q => a.2 c (h.same e) q⟩
theorem Gr.new {H0 Hb : Hp} {p : Addr} {o : HO} (h0 : H0 p = none) (hb : Hb p = none) : Gr H0 Hb (upd Hb p o) := ⟨same_upd hb, fun b h q => by
  have hne : b ≠ p := fun z => h.1 (by rw [z]; exact h0)
  rw [upd_ne hne]
  exact q⟩

section
variable {H0 Hb H Hb' H' : Hp} {σ : L2.St} {δ : List Sl} {p : Addr} {o : HO}
theorem Sg.hb (g : Sg H0 Hb H σ δ) (h : H p = none) : Hb p = none := g.ex.free h
theorem Sg.h0 (g : Sg H0 Hb H σ δ) (h : H p = none) : H0 p = none := g.fr.free h
/-- a new object, known -/
theorem Sg.alloc (g : Sg H0 Hb H σ δ) (h : H p = none) : Sg H0 (upd Hb p o) (upd H p o) σ δ where
  ex := fun b x e => by
    by_cases hb : b = p
    · subst hb
      rw [upd_same] at e ⊢
      exact e
    · rw [upd_ne hb] at e ⊢
      exact g.ex b x e
  fr := g.fr.trans (same_upd h)
  len := g.len
  sh := fun i k e => by
    obtain ⟨v, h1, h2⟩ := g.sh i k e
    exact ⟨v, h1, k.up (same_upd (g.hb h)) h2⟩
  ow := fun i ks e => by
    obtain ⟨q, xs, h1, h2, h3, h4, h5⟩ := g.ow i ks e
    have hn : q ≠ p := ne_of_none h4 h
    exact ⟨q, xs, h1, by rw [upd_ne hn]; exact h2, h3, by rw [upd_ne hn]; exact h4, h5.up (same_upd (g.hb h))⟩
  ne := g.ne
/-- a new object, of which nothing is told -/
theorem Sg.drop (g : Sg H0 Hb H σ δ) (h : H p = none) : Sg H0 Hb (upd H p o) σ δ where
  ex := g.ex.trans (same_upd h)
  fr := g.fr.trans (same_upd h)
  len := g.len
  sh := g.sh
  ow := fun i ks e => by
    obtain ⟨q, xs, h1, h2, h3, h4, h5⟩ := g.ow i ks e
    exact ⟨q, xs, h1, h2, h3, by rw [upd_ne (ne_of_none h4 h)]; exact h4, h5⟩
  ne := g.ne
theorem Sg.gr (g : Sg H0 Hb H σ δ) (h : H p = none) : Gr H0 Hb (upd Hb p o) := Gr.new (g.h0 h) (g.hb h)
/-- the owned list at p is one of the store's -/
def Owns (σ : L2.St) (δ : List Sl) (p : Addr) : Prop := ∃ (i : Nat) (ks : List Kd), δ[i]? = some (.ow ks) ∧ σ[i]? = some (some (.ref p))
theorem Sg.owns (g : Sg H0 Hb H σ δ) (h : Owns σ δ p) : Hb p = none ∧ H0 p = none ∧ H p ≠ none := by
  obtain ⟨i, ks, e, e2⟩ := h
  obtain ⟨q, xs, h1, h2, h3, h4, _⟩ := g.ow i ks e
  rw [h1] at e2
  cases e2
  exact ⟨h2, h3, by rw [h4]; exact fun z => nomatch z⟩
/-- a list that nobody else knows becomes known -/
theorem Sg.know (g : Sg H0 Hb H σ δ) (hb : Hb p = none) (h : H p = some o) (hn : ¬ Owns σ δ p) : Sg H0 (upd Hb p o) H σ δ where
  ex := fun b x e => by
    by_cases hbp : b = p
    · subst hbp
      rw [upd_same] at e
      cases e
      exact h
    · rw [upd_ne hbp] at e
      exact g.ex b x e
  fr := g.fr
  len := g.len
  sh := fun i k e => by
    obtain ⟨v, h1, h2⟩ := g.sh i k e
    exact ⟨v, h1, k.up (same_upd hb) h2⟩
  ow := fun i ks e => by
    obtain ⟨q, xs, h1, h2, h3, h4, h5⟩ := g.ow i ks e
    have hne : q ≠ p := fun z => hn ⟨i, ks, e, z ▸ h1⟩
    exact ⟨q, xs, h1, by rw [upd_ne hne]; exact h2, h3, h4, h5.up (same_upd hb)⟩
  ne := g.ne
/-- behind a call: the callee knows Hb' of H' -/
theorem Sg.behind (g : Sg H0 Hb H σ δ) (gr : Gr H Hb Hb') (e : Same Hb' H') (f : Same H H') : Sg H0 Hb' H' σ δ where
  ex := e
  fr := g.fr.trans f
  len := g.len
  sh := fun i k e => by
    obtain ⟨v, h1, h2⟩ := g.sh i k e
    exact ⟨v, h1, k.up gr.1 h2⟩
  ow := fun i ks e => by
    obtain ⟨q, xs, h1, h2, h3, h4, h5⟩ := g.ow i ks e
    exact ⟨q, xs, h1, gr.2 q (by rw [h4]; exact nt_lst) h2, h3, f _ _ h4, h5.up gr.1⟩
  ne := g.ne
theorem Sg.gr' (g : Sg H0 Hb H σ δ) (gr : Gr H Hb Hb') : Gr H0 Hb Hb' := gr.mono g.fr
/-- a slot is stored, a value that is known -/
theorem Sg.set {i : Nat} {v : V} {k : Kd} (g : Sg H0 Hb H σ δ) (h : k.p v Hb) : Sg H0 Hb H (σ.set i (some v)) (δ.set i (.sh k)) where
  ex := g.ex
  fr := g.fr
  len := by rw [List.length_set, List.length_set]; exact g.len
  sh := fun j l e => by
    by_cases hj : i = j
    · subst hj
      have hl : i < δ.length := by
        have := (List.getElem?_eq_some_iff.mp e).1
        rw [List.length_set] at this
        exact this
      rw [List.getElem?_set_self hl] at e
      cases e
      exact ⟨v, List.getElem?_set_self (by rw [g.len]; exact hl), h⟩
    · rw [List.getElem?_set_ne hj] at e ⊢
      exact g.sh j l e
  ow := fun j ks e => by
    by_cases hj : i = j
    · subst hj
      have hl : i < δ.length := by
        have := (List.getElem?_eq_some_iff.mp e).1
        rw [List.length_set] at this
        exact this
      rw [List.getElem?_set_self hl] at e
      cases e
    · rw [List.getElem?_set_ne hj] at e ⊢
      exact g.ow j ks e
  ne := fun a b ks ls p e1 e2 q1 q2 => by
    have na : i ≠ a := fun z => by
      subst z
      have hl : i < δ.length := by
        have := (List.getElem?_eq_some_iff.mp e1).1
        rw [List.length_set] at this
        exact this
      rw [List.getElem?_set_self hl] at e1
      cases e1
    have nb : i ≠ b := fun z => by
      subst z
      have hl : i < δ.length := by
        have := (List.getElem?_eq_some_iff.mp e2).1
        rw [List.length_set] at this
        exact this
      rw [List.getElem?_set_self hl] at e2
      cases e2
    rw [List.getElem?_set_ne na] at e1 q1
    rw [List.getElem?_set_ne nb] at e2 q2
    exact g.ne a b ks ls p e1 e2 q1 q2
/-- .. a list that nobody else knows -/
theorem Sg.setO {i : Nat} {xs : List V} {ks : List Kd} (g : Sg H0 Hb H σ δ) (hb : Hb p = none) (h0 : H0 p = none) (h : H p = some (.lst xs)) (hx : AllK Hb xs ks) (hn : ∀ (j : Nat) (ls : List Kd), δ[j]? = some (.ow ls) → σ[j]? = some (some (.ref p)) → j = i) :
    Sg H0 Hb H (σ.set i (some (.ref p))) (δ.set i (.ow ks)) where
  ex := g.ex
  fr := g.fr
  len := by rw [List.length_set, List.length_set]; exact g.len
  sh := fun j l e => by
    by_cases hj : i = j
    · subst hj
      have hl : i < δ.length := by
        have := (List.getElem?_eq_some_iff.mp e).1
        rw [List.length_set] at this
        exact this
      rw [List.getElem?_set_self hl] at e
      cases e
    · rw [List.getElem?_set_ne hj] at e ⊢
      exact g.sh j l e
  ow := fun j ls e => by
    by_cases hj : i = j
    · subst hj
      have hl : i < δ.length := by
        have := (List.getElem?_eq_some_iff.mp e).1
        rw [List.length_set] at this
        exact this
      rw [List.getElem?_set_self hl] at e
      cases e
      exact ⟨p, xs, List.getElem?_set_self (by rw [g.len]; exact hl), hb, h0, h, hx⟩
    · rw [List.getElem?_set_ne hj] at e ⊢
      exact g.ow j ls e
  ne := fun a b ls ms q e1 e2 q1 q2 => by
    by_cases ha : i = a
    · by_cases hb' : i = b
      · exact ha.symm.trans hb'
      · subst ha
        rw [List.getElem?_set_ne hb'] at e2 q2
        have hl : i < σ.length := by
          have := (List.getElem?_eq_some_iff.mp q1).1
          rw [List.length_set] at this
          exact this
        rw [List.getElem?_set_self hl] at q1
        cases q1
        exact absurd (hn b ms e2 q2).symm hb'
    · rw [List.getElem?_set_ne ha] at e1 q1
      by_cases hb' : i = b
      · subst hb'
        have hl : i < σ.length := by
          have := (List.getElem?_eq_some_iff.mp q2).1
          rw [List.length_set] at this
          exact this
        rw [List.getElem?_set_self hl] at q2
        cases q2
        exact absurd (hn a ls e1 q1).symm ha
      · rw [List.getElem?_set_ne hb'] at e2 q2
        exact g.ne a b ls ms q e1 e2 q1 q2
/-- less is known -/
def Sl.le : Sl → Sl → Prop
  | _, .no => True
  | .sh k, .sh k' => k.le k'
  | .ow ks, .ow ls => Paired Kd.le ks ls
  | _, _ => False
theorem Paired.at {α β : Type} {F : α → β → Prop} : ∀ {l : List α} {m : List β} {i : Nat} {b : β}, Paired F l m → m[i]? = some b → ∃ a, l[i]? = some a ∧ F a b
  | _, _, _, _, .nil, e => by simp at e
  | _, _, 0, _, .cons (a := a) r _, e => by
    simp at e
    subst e
    exact ⟨a, rfl, r⟩
  | _, _, i + 1, b, .cons _ t, e => by
    obtain ⟨k, h1, h2⟩ := Paired.at (i := i) (b := b) t (by simpa using e)
    exact ⟨k, by simpa using h1, h2⟩
theorem Sg.weak {ε : List Sl} (g : Sg H0 Hb H σ δ) (w : Paired Sl.le δ ε) : Sg H0 Hb H σ ε where
  ex := g.ex
  fr := g.fr
  len := g.len.trans (Paired.length w)
  sh := fun i k e => by
    obtain ⟨s, h1, h2⟩ := Paired.at w e
    cases s with
    | no => exact h2.elim
    | sh k' =>
      obtain ⟨v, h3, h4⟩ := g.sh i k' h1
      exact ⟨v, h3, h2 _ _ h4⟩
    | ow ks => exact h2.elim
  ow := fun i ks e => by
    obtain ⟨s, h1, h2⟩ := Paired.at w e
    cases s with
    | no => exact h2.elim
    | sh k' => exact h2.elim
    | ow ls =>
      obtain ⟨p, xs, q1, q2, q3, q4, q5⟩ := g.ow i ls h1
      exact ⟨p, xs, q1, q2, q3, q4, q5.le h2⟩
  ne := fun a b ks ls p e1 e2 => by
    obtain ⟨s1, h1, h2⟩ := Paired.at w e1
    obtain ⟨s2, h3, h4⟩ := Paired.at w e2
    cases s1 with
    | no => exact h2.elim
    | sh k' => exact h2.elim
    | ow ls1 =>
      cases s2 with
      | no => exact h4.elim
      | sh k' => exact h4.elim
      | ow ls2 => exact g.ne a b _ _ p h1 h3
end
end Dx

namespace Dx
open PySem PySem.Spec PyProof.Rows L2
/-! ## what evaluates to what -/
def EvD (te : TE) (δ : List Sl) (k : Kd) : Prop := ∀ (H0 Hb H : Hp) (σ : L2.St), Sg H0 Hb H σ δ → ∀ Q : VK, (∀ Hb' H' v, Gr H0 Hb Hb' → Sg H0 Hb' H' σ δ → k.p v Hb' → Q v H') → te σ H Q
/-- a list that is new, and known to nobody -/
def EvN (te : TE) (δ : List Sl) (ks : List Kd) : Prop := ∀ (H0 Hb H : Hp) (σ : L2.St), Sg H0 Hb H σ δ → ∀ Q : VK,
  (∀ Hb' H' p xs, Gr H0 Hb Hb' → Sg H0 Hb' H' σ δ → Hb' p = none → H0 p = none → H' p = some (.lst xs) → AllK Hb' xs ks → ¬ Owns σ δ p → Q (.ref p) H') → te σ H Q
def EvT (tt : TT) (δ : List Sl) (b : Bool) : Prop := ∀ (H0 Hb H : Hp) (σ : L2.St), Sg H0 Hb H σ δ → ∀ Q : Bool → Hp → Prop, (∀ Hb' H', Gr H0 Hb Hb' → Sg H0 Hb' H' σ δ → Q b H') → tt σ H Q
def EvA (ta : TA) (δ : List Sl) (ks : List Kd) : Prop := ∀ (H0 Hb H : Hp) (σ : L2.St), Sg H0 Hb H σ δ → ∀ Q : List V → Hp → Prop, (∀ Hb' H' vs, Gr H0 Hb Hb' → Sg H0 Hb' H' σ δ → AllK Hb' vs ks → Q vs H') → ta σ H Q

section
variable {K : PySem.W.Frag} {δ : List Sl} {te ta tb tc : TE} {k k1 k2 k3 : Kd} {ks ls : List Kd} {t u : TT} {b b1 b2 : Bool} {ar : TA} {r r' : R2}
theorem ev_var {i : Nat} (h : δ[i]? = some (.sh k)) : EvD (tVar i) δ k := fun H0 Hb H σ g Q q => by
  obtain ⟨v, h1, h2⟩ := g.sh i k h
  exact ⟨v, h1, q Hb H v (Gr.refl _ _) g h2⟩
theorem ev_c {v : V} : EvD (tC v) δ (kE v) := fun H0 Hb H σ g Q q => q Hb H v (Gr.refl _ _) g rfl
theorem ev_le (h : EvD te δ k) (e : k.le k') : EvD te δ k' := fun H0 Hb H σ g Q q => h H0 Hb H σ g Q fun Hb' H' v a b c => q Hb' H' v a b (e _ _ c)
theorem ev_to {v w : V} (h : EvD te δ (kE v)) (e : v = w) : EvD te δ (kE w) := e ▸ h
theorem et_to (h : EvT t δ b1) (e : b1 = b2) : EvT t δ b2 := e ▸ h
theorem en_le (h : EvN te δ ks) (e : Paired Kd.le ks ls) : EvN te δ ls := fun H0 Hb H σ g Q q => h H0 Hb H σ g Q fun Hb' H' p xs a b c d e' f => q Hb' H' p xs a b c d e' (f.le e)
theorem en_to (h : EvN te δ ks) (e : ks = ls) : EvN te δ ls := e ▸ h
theorem ev_ofN (h : EvN te δ ks) : EvD te δ (kL ks) := fun H0 Hb H σ g Q q => h H0 Hb H σ g Q fun Hb' H' p xs a b c d e f n =>
  q _ H' _ (a.trans (Gr.new d c)) (b.know c e n) ⟨p, xs, rfl, upd_same, f.up (same_upd c)⟩
theorem ea_nil : EvA tNil δ [] := fun H0 Hb H σ g Q q => q Hb H [] (Gr.refl _ _) g .nil
theorem ea_cons (h : EvD te δ k) (t : EvA ar δ ks) : EvA (tCons te ar) δ (k :: ks) := fun H0 Hb H σ g Q q =>
  h H0 Hb H σ g _ fun Hb1 H1 v a b c => t H0 Hb1 H1 σ b _ fun Hb2 H2 vs a2 b2 c2 => q Hb2 H2 (v :: vs) (a.trans a2) b2 (.cons (k.up a2.1 c) c2)
theorem ev_tup (h : EvA ar δ ks) (hl : ks.length ≤ 1000) : EvD (tTup ar) δ (kT K ks) := fun H0 Hb H σ g Q q =>
  h H0 Hb H σ g _ fun Hb1 H1 vs a b c => ⟨by rw [c.len]; exact Nat.le_of_lt (small1000 hl), fun p hp => q _ _ _ (a.trans (b.gr hp)) (b.alloc hp) ⟨p, vs, rfl, SqT.of upd_same, c.up (same_upd (b.hb hp))⟩⟩
theorem Sg.notOwn {H0 Hb H : Hp} {σ : L2.St} {p : Addr} (g : Sg H0 Hb H σ δ) (h : H p = none) : ¬ Owns σ δ p := fun z => (g.owns z).2.2 h
theorem en_lst (h : EvA ar δ ks) (hl : ks.length ≤ 1000) : EvN (tLst ar) δ ks := fun H0 Hb H σ g Q q =>
  h H0 Hb H σ g _ fun Hb1 H1 vs a b c => ⟨by rw [c.len]; exact Nat.le_of_lt (small1000 hl), fun p hp => q _ _ _ vs a (b.drop hp) (b.hb hp) (b.h0 hp) upd_same c (b.notOwn hp)⟩

/-! operators by values -/
def Op (r : R2) (k1 k2 k3 : Kd) : Prop := ∀ (Hb H : Hp) (x y : V) (Q : VK), Same Hb H → k1.p x Hb → k2.p y Hb → (∀ z, k3.p z Hb → Q z H) → r x y H Q
def OpN (r : R2) (k1 k2 : Kd) (ks : List Kd) : Prop := ∀ (Hb H : Hp) (x y : V) (Q : VK), Same Hb H → k1.p x Hb → k2.p y Hb → (∀ p xs, H p = none → AllK Hb xs ks → Q (.ref p) (upd H p (.lst xs))) → r x y H Q
def Un1 (r : V → Hp → VK → Prop) (k1 k3 : Kd) : Prop := ∀ (Hb H : Hp) (x : V) (Q : VK), Same Hb H → k1.p x Hb → (∀ z, k3.p z Hb → Q z H) → r x H Q
def Ca (r : List V → Hp → VK → Prop) (ks : List Kd) (k : Kd) : Prop := ∀ (Hb H : Hp) (vs : List V) (Q : VK), Same Hb H → AllK Hb vs ks → (∀ z, k.p z Hb → Q z H) → r vs H Q
def CaN (r : List V → Hp → VK → Prop) (ks ls : List Kd) : Prop := ∀ (Hb H : Hp) (vs : List V) (Q : VK), Same Hb H → AllK Hb vs ks → (∀ p xs, H p = none → AllK Hb xs ls → Q (.ref p) (upd H p (.lst xs))) → r vs H Q
def CaU (r : List V → Hp → VK → Prop) (ks ls : List Kd) : Prop := ∀ (Hb H : Hp) (vs : List V) (Q : VK), Same Hb H → AllK Hb vs ks → (∀ p xs, H p = none → AllK Hb xs ls → Q (.ref p) (upd H p (.tup xs))) → r vs H Q
theorem ev_op (h1 : EvD ta δ k1) (h2 : EvD tb δ k2) (o : Op r k1 k2 k3) : EvD (tOp r ta tb) δ k3 := fun H0 Hb H σ g Q q =>
  h1 H0 Hb H σ g _ fun Hb1 H1 v a b c => h2 H0 Hb1 H1 σ b _ fun Hb2 H2 w a2 b2 c2 => o Hb2 H2 v w Q b2.ex (k1.up a2.1 c) c2 fun z hz => q Hb2 H2 z (a.trans a2) b2 hz
theorem en_op (h1 : EvD ta δ k1) (h2 : EvD tb δ k2) (o : OpN r k1 k2 ks) : EvN (tOp r ta tb) δ ks := fun H0 Hb H σ g Q q =>
  h1 H0 Hb H σ g _ fun Hb1 H1 v a b c => h2 H0 Hb1 H1 σ b _ fun Hb2 H2 w a2 b2 c2 => o Hb2 H2 v w Q b2.ex (k1.up a2.1 c) c2 fun p xs hp hx =>
    q Hb2 _ p xs (a.trans a2) (b2.drop hp) (b2.hb hp) (b2.h0 hp) upd_same hx (b2.notOwn hp)
theorem ev_un {r : V → Hp → VK → Prop} (h1 : EvD ta δ k1) (o : Un1 r k1 k3) : EvD (tUn r ta) δ k3 := fun H0 Hb H σ g Q q =>
  h1 H0 Hb H σ g _ fun Hb1 H1 v a b c => o Hb1 H1 v Q b.ex c fun z hz => q Hb1 H1 z a b hz
theorem ev_cb {r : List V → Hp → VK → Prop} (h : EvA ar δ ks) (o : Ca r ks k) : EvD (tCB r ar) δ k := fun H0 Hb H σ g Q q =>
  h H0 Hb H σ g _ fun Hb1 H1 vs a b c => o Hb1 H1 vs Q b.ex c fun z hz => q Hb1 H1 z a b hz
theorem en_cb {r : List V → Hp → VK → Prop} (h : EvA ar δ ks) (o : CaN r ks ls) : EvN (tCB r ar) δ ls := fun H0 Hb H σ g Q q =>
  h H0 Hb H σ g _ fun Hb1 H1 vs a b c => o Hb1 H1 vs Q b.ex c fun p xs hp hx => q Hb1 _ p xs a (b.drop hp) (b.hb hp) (b.h0 hp) upd_same hx (b.notOwn hp)
theorem ev_cbU {r : List V → Hp → VK → Prop} (h : EvA ar δ ks) (o : CaU r ks ls) : EvD (tCB r ar) δ (kT K ls) := fun H0 Hb H σ g Q q =>
  h H0 Hb H σ g _ fun Hb1 H1 vs a b c => o Hb1 H1 vs Q b.ex c fun p xs hp hx => q _ _ _ (a.trans (b.gr hp)) (b.alloc hp) ⟨p, xs, rfl, SqT.of upd_same, hx.up (same_upd (b.hb hp))⟩

/-! tests -/
theorem et_test (h : EvD te δ (kB b)) : EvT (tTest te) δ b := fun H0 Hb H σ g Q q => h H0 Hb H σ g _ fun Hb1 H1 v a b' (c : v = .bl b) => ⟨b, c, q Hb1 H1 a b'⟩
theorem et_b (h : EvD te δ (kB b)) : EvT (tB te) δ b := fun H0 Hb H σ g Q q => h H0 Hb H σ g _ fun Hb1 H1 v a b' (c : v = .bl b) => ⟨b, c, q Hb1 H1 a b'⟩
theorem et_not (h : EvT t δ b) : EvT (tNot t) δ (!b) := fun H0 Hb H σ g Q q => h H0 Hb H σ g _ fun Hb1 H1 a b' => q Hb1 H1 a b'
theorem et_and (h : EvT t δ b1) (h2 : b1 = true → EvT u δ b2) : EvT (tAnd t u) δ (b1 && b2) := fun H0 Hb H σ g Q q => h H0 Hb H σ g _ fun Hb1 H1 a c => by
  cases b1 with
  | true => exact iteT (h2 rfl H0 Hb1 H1 σ c Q fun Hb2 H2 a2 c2 => q Hb2 H2 (a.trans a2) c2)
  | false => exact iteF (q Hb1 H1 a c)
theorem et_or (h : EvT t δ b1) (h2 : b1 = false → EvT u δ b2) : EvT (tOr t u) δ (b1 || b2) := fun H0 Hb H σ g Q q => h H0 Hb H σ g _ fun Hb1 H1 a c => by
  cases b1 with
  | true => exact iteT (q Hb1 H1 a c)
  | false => exact iteF (h2 rfl H0 Hb1 H1 σ c Q fun Hb2 H2 a2 c2 => q Hb2 H2 (a.trans a2) c2)
theorem ev_and (h : EvD ta δ (kB b1)) (h2 : b1 = true → EvD tb δ (kB b2)) : EvD (tAndV ta tb) δ (kB (b1 && b2)) := fun H0 Hb H σ g Q q => h H0 Hb H σ g _ fun Hb1 H1 v a c (e : v = .bl b1) => by
  refine ⟨b1, e, ?_⟩
  cases b1 with
  | true => exact iteT (h2 rfl H0 Hb1 H1 σ c Q fun Hb2 H2 v2 a2 c2 e2 => q Hb2 H2 v2 (a.trans a2) c2 e2)
  | false => exact iteF (q Hb1 H1 _ a c rfl)
theorem ev_or (h : EvD ta δ (kB b1)) (h2 : b1 = false → EvD tb δ (kB b2)) : EvD (tOrV ta tb) δ (kB (b1 || b2)) := fun H0 Hb H σ g Q q => h H0 Hb H σ g _ fun Hb1 H1 v a c (e : v = .bl b1) => by
  refine ⟨b1, e, ?_⟩
  cases b1 with
  | true => exact iteT (q Hb1 H1 _ a c rfl)
  | false => exact iteF (h2 rfl H0 Hb1 H1 σ c Q fun Hb2 H2 v2 a2 c2 e2 => q Hb2 H2 v2 (a.trans a2) c2 e2)
theorem ev_not (h : EvD ta δ (kB b)) : EvD (tNotV ta) δ (kB (!b)) := fun H0 Hb H σ g Q q => h H0 Hb H σ g _ fun Hb1 H1 v a c (e : v = .bl b) => ⟨b, e, q Hb1 H1 _ a c rfl⟩
theorem ev_if (h : EvT t δ b) (h1 : b = true → EvD ta δ k) (h2 : b = false → EvD tb δ k) : EvD (tIf t ta tb) δ k := fun H0 Hb H σ g Q q => h H0 Hb H σ g _ fun Hb1 H1 a c => by
  cases b with
  | true => exact iteT (h1 rfl H0 Hb1 H1 σ c Q fun Hb2 H2 v2 a2 c2 e2 => q Hb2 H2 v2 (a.trans a2) c2 e2)
  | false => exact iteF (h2 rfl H0 Hb1 H1 σ c Q fun Hb2 H2 v2 a2 c2 e2 => q Hb2 H2 v2 (a.trans a2) c2 e2)
theorem en_if (h : EvT t δ b) (h1 : b = true → EvN ta δ ks) (h2 : b = false → EvN tb δ ks) : EvN (tIf t ta tb) δ ks := fun H0 Hb H σ g Q q => h H0 Hb H σ g _ fun Hb1 H1 a c => by
  cases b with
  | true => exact iteT (h1 rfl H0 Hb1 H1 σ c Q fun Hb2 H2 p xs a2 => q Hb2 H2 p xs (a.trans a2))
  | false => exact iteF (h2 rfl H0 Hb1 H1 σ c Q fun Hb2 H2 p xs a2 => q Hb2 H2 p xs (a.trans a2))
theorem ev_chain (h1 : EvD ta δ k1) (h2 : EvD tb δ k2) (o : Op r k1 k2 (kB b1)) (h3 : b1 = true → EvD tc δ k3) (o' : b1 = true → Op r' k2 k3 (kB b2)) : EvD (tChain r r' ta tb tc) δ (kB (b1 && b2)) := fun H0 Hb H σ g Q q =>
  h1 H0 Hb H σ g _ fun Hb1 H1 v a c e => h2 H0 Hb1 H1 σ c _ fun Hb2 H2 w a2 c2 e2 => o Hb2 H2 v w _ c2.ex (k1.up a2.1 e) e2 fun z (hz : z = .bl b1) => by
    refine ⟨b1, hz, ?_⟩
    cases b1 with
    | true => exact iteT (h3 rfl H0 Hb2 H2 σ c2 _ fun Hb3 H3 x3 a3 c3 e3 => o' rfl Hb3 H3 w x3 Q c3.ex (k2.up a3.1 e2) e3 fun z hz => q Hb3 H3 z ((a.trans a2).trans a3) c3 hz)
    | false => exact iteF (q Hb2 H2 _ (a.trans a2) c2 rfl)

/-! instances -/
theorem ev_fld {C : Addr} {fs : List (Str × V)} {f : Str} {v : V} (h : EvD ta δ (kO C fs)) (hc : Cls K C) (hn : NoAttr K C f) (hl : fs.lookup f = some v) : EvD (tFld K ta f) δ (kE v) := fun H0 Hb H σ g Q q =>
  h H0 Hb H σ g _ fun Hb1 H1 x a c ⟨p, dx, e1, e2⟩ => ⟨p, C, dx, fs, v, e1, c.ex _ _ e2, hc, hn, hl, q Hb1 H1 v a c rfl⟩

/-! ## what a def promises: by a relation of the arguments' kinds and the result -/
inductive Rs where
  /-- a value of this kind -/
  | v (k : Kd)
  /-- a new list -/
  | nl (ks : List Kd)
  /-- an error of the class at C -/
  | er (C : Addr)
def Fin1 (H Hb : Hp) (Q : VK) (E : XK) : Rs → Prop
  | .v k => ∀ Hb' H' v, Gr H Hb Hb' → Same Hb' H' → Same H H' → k.p v Hb' → Q v H'
  | .nl ks => ∀ Hb' H' p xs, Gr H Hb Hb' → Same Hb' H' → Same H H' → Hb' p = none → H p = none → H' p = some (.lst xs) → AllK Hb' xs ks → Q (.ref p) H'
  | .er C => ∀ H', Same H H' → E (.ref C) none H'
def spR (A : List Kd → Rs → Prop) : Sp := fun vs H Q E => ∃ (Hb : Hp) (ks : List Kd) (r : Rs), A ks r ∧ Same Hb H ∧ AllK Hb vs ks ∧ Fin1 H Hb Q E r
theorem app_nil' {vs : List V} : vs ++ [] = vs := List.append_nil vs
theorem ev_call {A : List Kd → Rs → Prop} {E : XK} (h : EvA ar δ ks) (ha : A ks (.v k)) : EvD (tCall (spR A) [] E ar) δ k := fun H0 Hb H σ g Q q =>
  h H0 Hb H σ g _ fun Hb1 H1 vs a c e => by
    rw [app_nil']
    exact ⟨Hb1, ks, .v k, ha, c.ex, e, fun Hb' H' v gr e1 e2 hv => q Hb' H' v (a.trans (c.gr' gr)) (c.behind gr e1 e2) hv⟩
theorem en_call {A : List Kd → Rs → Prop} {E : XK} (h : EvA ar δ ks) (ha : A ks (.nl ls)) : EvN (tCall (spR A) [] E ar) δ ls := fun H0 Hb H σ g Q q =>
  h H0 Hb H σ g _ fun Hb1 H1 vs a c e => by
    rw [app_nil']
    refine ⟨Hb1, ks, .nl ls, ha, c.ex, e, fun Hb' H' p xs gr e1 e2 hp0 hp1 hp2 hx => ?_⟩
    have hn : ¬ Owns σ δ p := fun z => (c.owns z).2.2 hp1
    exact q Hb' H' p xs (a.trans (c.gr' gr)) (c.behind gr e1 e2) hp0 (c.h0 hp1) hp2 hx hn
theorem ev_meth {A : List Kd → Rs → Prop} {E : XK} {C : Addr} {m : Str} {fs : List (Str × V)} (h : EvD ta δ (kO C fs)) (hl : fs.lookup m = none) (h2 : EvA ar δ ks) (ha : A (kO C fs :: ks) (.v k)) : EvD (tMeth C m (spR A) [] E ta ar) δ k := fun H0 Hb H σ g Q q =>
  h H0 Hb H σ g _ fun Hb1 H1 x a c ex => by
    have ex' := ex
    obtain ⟨p, dx, e1, e2⟩ := ex
    refine ⟨p, dx, fs, e1, c.ex _ _ e2, hl, h2 H0 Hb1 H1 σ c _ fun Hb2 H2 vs a2 c2 e3 => ?_⟩
    rw [app_nil']
    exact ⟨Hb2, kO C fs :: ks, .v k, ha, c2.ex, .cons ((kO C fs).up a2.1 ex') e3, fun Hb' H' v gr e1 e2 hv => q Hb' H' v ((a.trans a2).trans (c2.gr' gr)) (c2.behind gr e1 e2) hv⟩
end

/-! ## the owned lists read: known for a while -/
def fz1 : Sl → Sl
  | .ow ks => .sh (kL ks)
  | s => s
def fz (δ : List Sl) : List Sl := δ.map fz1
open Classical in
noncomputable def knowAll (σ : L2.St) (δ : List Sl) (Hb H : Hp) : Hp := fun b => if Owns σ δ b then H b else Hb b
open Classical in
noncomputable def hideO (σ : L2.St) (δ : List Sl) (Hb : Hp) : Hp := fun b => if Owns σ δ b then none else Hb b
section
variable {H0 Hb H Hb' H' : Hp} {σ : L2.St} {δ : List Sl}
theorem Sg.fz (g : Sg H0 Hb H σ δ) : Same Hb (knowAll σ δ Hb H) ∧ Sg H0 (knowAll σ δ Hb H) H σ (fz δ) := by
  have e1 : Same Hb (knowAll σ δ Hb H) := fun b o e => by
    unfold knowAll
    by_cases h : Owns σ δ b
    · have := (g.owns h).1
      rw [this] at e
      cases e
    · rw [if_neg h]
      exact e
  refine ⟨e1, ⟨fun b o e => ?_, g.fr, by unfold Dx.fz; rw [List.length_map]; exact g.len, fun i k e => ?_, fun i ks e => ?_, fun a b ks ls p e => ?_⟩⟩
  · unfold knowAll at e
    by_cases h : Owns σ δ b
    · rw [if_pos h] at e
      exact e
    · rw [if_neg h] at e
      exact g.ex b o e
  · unfold Dx.fz at e
    rw [List.getElem?_map] at e
    cases hs : δ[i]? with
    | none => rw [hs] at e; cases e
    | some s =>
      rw [hs] at e
      cases s with
      | no => cases e
      | sh k' =>
        cases e
        obtain ⟨v, h1, h2⟩ := g.sh i _ hs
        exact ⟨v, h1, Kd.up _ e1 h2⟩
      | ow ks =>
        cases e
        obtain ⟨p, xs, h1, h2, h3, h4, h5⟩ := g.ow i _ hs
        refine ⟨_, h1, p, xs, rfl, ?_, h5.up e1⟩
        unfold knowAll
        rw [if_pos ⟨i, ks, hs, h1⟩]
        exact h4
  · unfold Dx.fz at e
    rw [List.getElem?_map] at e
    cases hs : δ[i]? with
    | none => rw [hs] at e; cases e
    | some s =>
      rw [hs] at e
      cases s <;> cases e
  · unfold Dx.fz at e
    rw [List.getElem?_map] at e
    cases hs : δ[a]? with
    | none => rw [hs] at e; cases e
    | some s =>
      rw [hs] at e
      cases s <;> cases e
theorem Sg.unfz (g : Sg H0 Hb H σ δ) (gr : Gr H0 (knowAll σ δ Hb H) Hb') (g' : Sg H0 Hb' H' σ (Dx.fz δ)) : Gr H0 Hb (hideO σ δ Hb') ∧ Sg H0 (hideO σ δ Hb') H' σ δ := by
  have e0 : Same Hb (hideO σ δ Hb') := fun b o e => by
    unfold hideO
    by_cases h : Owns σ δ b
    · have := (g.owns h).1
      rw [this] at e
      cases e
    · rw [if_neg h]
      exact gr.1 b o (g.fz.1 b o e)
  refine ⟨⟨e0, fun b h q => ?_⟩, ⟨fun b o e => ?_, g'.fr, g.len, fun i k e => ?_, fun i ks e => ?_, g.ne⟩⟩
  · unfold hideO
    by_cases hb : Owns σ δ b
    · rw [if_pos hb]
    · rw [if_neg hb]
      refine gr.2 b h ?_
      unfold knowAll
      rw [if_neg hb]
      exact q
  · unfold hideO at e
    by_cases hb : Owns σ δ b
    · rw [if_pos hb] at e
      cases e
    · rw [if_neg hb] at e
      exact g'.ex b o e
  · obtain ⟨v, h1, h2⟩ := g.sh i k e
    exact ⟨v, h1, k.up e0 h2⟩
  · obtain ⟨p, xs, h1, h2, h3, h4, h5⟩ := g.ow i ks e
    have ho : Owns σ δ p := ⟨i, ks, e, h1⟩
    refine ⟨p, xs, h1, by unfold hideO; rw [if_pos ho], h3, ?_, h5.up e0⟩
    refine g'.ex p _ (gr.1 p _ ?_)
    unfold knowAll
    rw [if_pos ho]
    exact h4
theorem et_fz {t : TT} {b : Bool} (h : EvT t (fz δ) b) : EvT t δ b := fun H0 Hb H σ g Q q => h H0 _ H σ g.fz.2 Q fun Hb' H' gr g' =>
  let ⟨a, c⟩ := g.unfz gr g'
  q _ H' a c
theorem ev_fz {te : TE} {v : V} (h : EvD te (fz δ) (kE v)) : EvD te δ (kE v) := fun H0 Hb H σ g Q q => h H0 _ H σ g.fz.2 Q fun Hb' H' w gr g' e =>
  let ⟨a, c⟩ := g.unfz gr g'
  q _ H' w a c e
end
end Dx

namespace Dx
open PySem PySem.Spec PyProof.Rows L2
/-! ## statements -/
inductive Out where
  | nx (δ : List Sl)
  | rt (k : Kd)
  | rn (ks : List Kd)
def Tk (D : Ends) (H0 Hb : Hp) : Out → Prop
  | .nx δ => ∀ Hb' H' σ', Gr H0 Hb Hb' → Sg H0 Hb' H' σ' δ → D.nx σ' H'
  | .rt k => ∀ Hb' H' v, Gr H0 Hb Hb' → Same Hb' H' → Same H0 H' → k.p v Hb' → D.rt v H'
  | .rn ks => ∀ Hb' H' p xs, Gr H0 Hb Hb' → Same Hb' H' → Same H0 H' → Hb' p = none → H0 p = none → H' p = some (.lst xs) → AllK Hb' xs ks → D.rt (.ref p) H'
theorem Tk.up {D : Ends} {H0 Hb Hb' : Hp} (g : Gr H0 Hb Hb') : ∀ {o : Out}, Tk D H0 Hb o → Tk D H0 Hb' o
  | .nx _, t => fun Hc H' σ' a b => t Hc H' σ' (g.trans a) b
  | .rt _, t => fun Hc H' v a b => t Hc H' v (g.trans a) b
  | .rn _, t => fun Hc H' p xs a b => t Hc H' p xs (g.trans a) b
def Does (t : TS) (δ : List Sl) (o : Out) : Prop := ∀ (H0 Hb H : Hp) (σ : L2.St) (D : Ends), Sg H0 Hb H σ δ → Tk D H0 Hb o → t D σ H
/-- what stores a value of kind k: at the slots ws alone -/
def Bnd (g : TG) (ws : List Nat) (k : Kd) (δ δ1 : List Sl) : Prop := (∀ i, i ∉ ws → δ1[i]? = δ[i]?) ∧ ∀ (H0 Hb H : Hp) (σ : L2.St) (x : V), Sg H0 Hb H σ δ → k.p x Hb → ∀ Q : L2.St → Hp → Prop,
  (∀ σ', Sg H0 Hb H σ' δ1 → (∀ i, i ∉ ws → σ'[i]? = σ[i]?) → σ'.length = σ.length → Q σ' H) → g x σ H Q
def BndS (g : TGs) (ws : List Nat) (ks : List Kd) (δ δ1 : List Sl) : Prop := (∀ i, i ∉ ws → δ1[i]? = δ[i]?) ∧ ∀ (H0 Hb H : Hp) (σ : L2.St) (xs : List V), Sg H0 Hb H σ δ → AllK Hb xs ks → ∀ Q : L2.St → Hp → Prop,
  (∀ σ', Sg H0 Hb H σ' δ1 → (∀ i, i ∉ ws → σ'[i]? = σ[i]?) → σ'.length = σ.length → Q σ' H) → g xs σ H Q

section
variable {K : PySem.W.Frag} {δ δ1 δ2 : List Sl} {te ta tb : TE} {k k1 k2 k3 : Kd} {ks ls : List Kd} {c : TT} {b : Bool} {ar : TA} {t u : TS} {o : Out} {g : TG} {i j : Nat} {ws : List Nat}
theorem d_next : Does tNext δ (.nx δ) := fun H0 Hb H σ D s tk => tk Hb H σ (Gr.refl _ _) s
theorem d_seq (h1 : Does t δ (.nx δ1)) (h2 : Does u δ1 o) : Does (tSeq t u) δ o := fun H0 Hb H σ D s tk =>
  h1 H0 Hb H σ _ s fun Hb' H' σ' a b => h2 H0 Hb' H' σ' D b (tk.up a)
theorem d_ret1 (h1 : Does t δ (.rt k)) : Does (tSeq t u) δ (.rt k) := fun H0 Hb H σ D s tk => h1 H0 Hb H σ _ s tk
theorem d_ret2 (h1 : Does t δ (.rn ks)) : Does (tSeq t u) δ (.rn ks) := fun H0 Hb H σ D s tk => h1 H0 Hb H σ _ s tk
theorem d_if (h : EvT c δ b) (h1 : b = true → Does t δ o) (h2 : b = false → Does u δ o) : Does (tIfS c t u) δ o := fun H0 Hb H σ D s tk => h H0 Hb H σ s _ fun Hb1 H1 a e => by
  cases b with
  | true => exact iteT (h1 rfl H0 Hb1 H1 σ D e (tk.up a))
  | false => exact iteF (h2 rfl H0 Hb1 H1 σ D e (tk.up a))
theorem d_no (h : EvT c δ false) (h2 : Does u δ o) : Does (tIfS c t u) δ o := d_if h (fun z => nomatch z) fun _ => h2
theorem d_yes (h : EvT c δ true) (h1 : Does t δ o) : Does (tIfS c t u) δ o := d_if h (fun _ => h1) fun z => nomatch z
theorem d_asg (h : EvD te δ k) : Does (tAsg te (gName i)) δ (.nx (δ.set i (.sh k))) := fun H0 Hb H σ D s tk => h H0 Hb H σ s _ fun Hb1 H1 v a e q => tk Hb1 H1 _ a (e.set q)
theorem d_asgG (h : EvD te δ k) (hb : Bnd g ws k δ δ1) : Does (tAsg te g) δ (.nx δ1) := fun H0 Hb H σ D s tk => h H0 Hb H σ s _ fun Hb1 H1 v a e q =>
  hb.2 H0 Hb1 H1 σ v e q _ fun σ' s' _ _ => tk Hb1 H1 σ' a s'
theorem d_asgN (h : EvN te δ ks) : Does (tAsg te (gName i)) δ (.nx (δ.set i (.ow ks))) := fun H0 Hb H σ D s tk => h H0 Hb H σ s _ fun Hb1 H1 p xs a e q0 q1 q2 q3 hn =>
  tk Hb1 H1 _ a (e.setO q0 q1 q2 q3 fun j ls e1 e2 => absurd ⟨j, ls, e1, e2⟩ hn)
theorem d_drop (h : EvD te δ k) : Does (tDrop te) δ (.nx δ) := fun H0 Hb H σ D s tk => h H0 Hb H σ s _ fun Hb1 H1 v a e q => tk Hb1 H1 σ a e
theorem d_ret (h : EvD te δ k) : Does (tRet te) δ (.rt k) := fun H0 Hb H σ D s tk => h H0 Hb H σ s _ fun Hb1 H1 v a e q => tk Hb1 H1 v a e.ex e.fr q
theorem d_retN (h : EvN te δ ks) : Does (tRet te) δ (.rn ks) := fun H0 Hb H σ D s tk => h H0 Hb H σ s _ fun Hb1 H1 p xs a e q0 q1 q2 q3 _ => tk Hb1 H1 p xs a e.ex e.fr q0 q1 q2 q3
theorem d_retO (h : δ[i]? = some (.ow ks)) : Does (tRet (tVar i)) δ (.rn ks) := fun H0 Hb H σ D s tk => by
  obtain ⟨p, xs, h1, h2, h3, h4, h5⟩ := s.ow i ks h
  exact ⟨.ref p, h1, tk Hb H p xs (Gr.refl _ _) s.ex s.fr h2 h3 h4 h5⟩
theorem d_retNone : Does tRetN δ (.rt kN) := fun H0 Hb H σ D s tk => tk Hb H .non (Gr.refl _ _) s.ex s.fr rfl
theorem d_le (h : Does t δ (.rt k)) (e : k.le k') : Does t δ (.rt k') := fun H0 Hb H σ D s tk => h H0 Hb H σ D s fun Hb1 H1 v a e1 e2 q => tk Hb1 H1 v a e1 e2 (e _ _ q)
theorem d_to {v w : V} (h : Does t δ (.rt (kE v))) (e : v = w) : Does t δ (.rt (kE w)) := e ▸ h
theorem d_rto (h : Does t δ (.rn ks)) (e : ks = ls) : Does t δ (.rn ls) := e ▸ h
theorem d_weak (h : Does t δ (.nx δ1)) (w : Paired Sl.le δ1 δ2) : Does t δ (.nx δ2) := fun H0 Hb H σ D s tk => h H0 Hb H σ D s fun Hb1 H1 σ' a e => tk Hb1 H1 σ' a (e.weak w)
theorem d_pre (h : Does t δ1 o) (w : Paired Sl.le δ δ1) : Does t δ o := fun H0 Hb H σ D s tk => h H0 Hb H σ D (s.weak w) tk
theorem d_nx (h : Does t δ (.nx δ1)) (e : δ1 = δ2) : Does t δ (.nx δ2) := e ▸ h
/-- an owned list is known from here on -/
theorem set_same {α : Type} : ∀ {l : List α} {i : Nat} {a : α}, l[i]? = some a → l.set i a = l
  | [], _, _, _ => rfl
  | x :: r, 0, a, h => by
    have e : x = a := Option.some.inj h
    subst e
    rfl
  | x :: r, i + 1, a, h => by
    show x :: r.set i a = x :: r
    rw [set_same (l := r) (by simpa using h)]
theorem d_frz (h : δ[i]? = some (.ow ks)) (d : Does t (δ.set i (.sh (kL ks))) o) : Does t δ o := fun H0 Hb H σ D s tk => by
  obtain ⟨p, xs, h1, h2, h3, h4, h5⟩ := s.ow i ks h
  -- the slot forgotten, then the list known, then the slot stored
  have s1 : Sg H0 Hb H (σ.set i (some .non)) (δ.set i (.sh kAny)) := s.set (k := kAny) trivial
  have hn : ¬ Owns (σ.set i (some .non)) (δ.set i (.sh kAny)) p := by
    rintro ⟨j, ls, e1, e2⟩
    by_cases hj : i = j
    · subst hj
      have hl := (List.getElem?_eq_some_iff.mp e1).1
      rw [List.getElem?_set_self (by rw [List.length_set] at hl; exact hl)] at e1
      cases e1
    · rw [List.getElem?_set_ne hj] at e1 e2
      exact hj (s.ne i j ks ls p h e1 h1 e2)
  have s2 := s1.know (o := .lst xs) h2 h4 hn
  have s3 := s2.set (i := i) (v := .ref p) (k := kL ks) ⟨p, xs, rfl, upd_same, h5.up (same_upd h2)⟩
  have e1 : (σ.set i (some V.non)).set i (some (V.ref p)) = σ := by rw [List.set_set]; exact set_same h1
  have e2 : (δ.set i (Sl.sh kAny)).set i (Sl.sh (kL ks)) = δ.set i (.sh (kL ks)) := List.set_set ..
  rw [e1, e2] at s3
  exact d H0 _ H σ D s3 (tk.up (Gr.new h3 h2))
/-- a, b = x, y -/
theorem d_par (h1 : EvD ta δ k1) (h2 : EvD tb δ k2) : Does (tPar i j (tCons ta (tCons tb tNil))) δ (.nx ((δ.set i (.sh k1)).set j (.sh k2))) := fun H0 Hb H σ D s tk =>
  h1 H0 Hb H σ s _ fun Hb1 H1 v a e q => h2 H0 Hb1 H1 σ e _ fun Hb2 H2 w a2 e2 q2 => ⟨v, w, rfl, tk Hb2 H2 _ (a.trans a2) ((e2.set (k1.up a2.1 q)).set q2)⟩
theorem d_parN2 (h1 : EvD ta δ k1) (h2 : EvN tb δ ks) : Does (tPar i j (tCons ta (tCons tb tNil))) δ (.nx ((δ.set i (.sh k1)).set j (.ow ks))) := fun H0 Hb H σ D s tk =>
  h1 H0 Hb H σ s _ fun Hb1 H1 v a e q => h2 H0 Hb1 H1 σ e _ fun Hb2 H2 p xs a2 e2 q0 q1 q2 q3 hn => ⟨v, .ref p, rfl, tk Hb2 H2 _ (a.trans a2) ((e2.set (k1.up a2.1 q)).setO q0 q1 q2 q3 fun l ls z1 z2 => by
    by_cases hl : i = l
    · subst hl
      have hh := (List.getElem?_eq_some_iff.mp z1).1
      rw [List.getElem?_set_self (by rw [List.length_set] at hh; exact hh)] at z1
      cases z1
    · rw [List.getElem?_set_ne hl] at z1 z2
      exact absurd ⟨l, ls, z1, z2⟩ hn)⟩
/-- the first new and owned, the second evaluated where the first is framed -/
theorem d_parN1 (h1 : EvN ta δ ks) (h2 : EvD tb δ k2) (hij : i ≠ j) : Does (tPar i j (tCons ta (tCons tb tNil))) δ (.nx ((δ.set i (.ow ks)).set j (.sh k2))) := fun H0 Hb H σ D s tk =>
  h1 H0 Hb H σ s _ fun Hb1 H1 p xs a e q0 q1 q2 q3 hn => by
    -- the new list framed by the entry's heap
    have e' : Sg (upd H0 p (.lst xs)) Hb1 H1 σ δ := ⟨e.ex, fun b o z => by
        by_cases hb : b = p
        · subst hb
          rw [upd_same] at z
          cases z
          exact q2
        · rw [upd_ne hb] at z
          exact e.fr b o z, e.len, e.sh, fun l ls z => by
        obtain ⟨p', ys, r1, r2, r3, r4, r5⟩ := e.ow l ls z
        exact ⟨p', ys, r1, r2, by rw [upd_ne (fun y => hn ⟨l, ls, z, by rw [← y]; exact r1⟩)]; exact r3, r4, r5⟩, e.ne⟩
    refine h2 _ Hb1 H1 σ e' _ fun Hb2 H2 w a2 e2 q => ⟨.ref p, w, rfl, ?_⟩
    have a2' : Gr H0 Hb1 Hb2 := a2.mono (same_upd q1)
    have hp2 : Hb2 p = none := a2.2 p (by rw [upd_same]; exact nt_lst) q0
    have hH2 : H2 p = some (.lst xs) := e2.fr p _ upd_same
    have e3 : Sg H0 Hb2 H2 σ δ := ⟨e2.ex, (same_upd q1).trans e2.fr, e2.len, e2.sh, fun l ls z => by
        obtain ⟨p', ys, r1, r2, r3, r4, r5⟩ := e2.ow l ls z
        exact ⟨p', ys, r1, r2, (same_upd q1).free r3, r4, r5⟩, e2.ne⟩
    exact tk Hb2 H2 _ (a.trans a2') ((e3.setO hp2 q1 hH2 (q3.up a2.1) fun l ls z1 z2 => absurd ⟨l, ls, z1, z2⟩ hn).set q)
/-- found.append(e) -/
theorem d_appendB (h : δ[i]? = some (.ow ks)) (he : EvD te δ k) (hl : ks.length < sizeLine) : Does (tDrop (tBM K "list" rAppend (tVar i) (tCons te tNil))) δ (.nx (δ.set i (.ow (ks ++ [k])))) := fun H0 Hb H σ D s tk => by
  obtain ⟨p, xs, h1, h2, h3, h4, h5⟩ := s.ow i ks h
  refine ⟨.ref p, h1, .inl ⟨rfl, xs, SqL.of h4⟩, he H0 Hb H σ s _ fun Hb1 H1 v a e q => ?_⟩
  obtain ⟨p', xs', r1, r2, r3, r4, r5⟩ := e.ow i ks h
  rw [h1] at r1
  cases r1
  refine ⟨p, xs', v, rfl, rfl, r4, by rw [r5.len]; exact hl, ?_⟩
  have e2 : Sg H0 Hb1 (upd H1 p (.lst (xs' ++ [v]))) (σ.set i (some .non)) (δ.set i (.sh kAny)) := by
    have e1 := e.set (i := i) (v := .non) (k := kAny) trivial
    refine ⟨fun b o z => ?_, fun b o z => ?_, e1.len, e1.sh, fun l ls z => ?_, e1.ne⟩
    · rw [upd_ne (fun y => by rw [y, r2] at z; cases z)]
      exact e1.ex b o z
    · rw [upd_ne (fun y => by rw [y, r3] at z; cases z)]
      exact e1.fr b o z
    · obtain ⟨p2, ys, w1, w2, w3, w4, w5⟩ := e1.ow l ls z
      have hne : p2 ≠ p := fun y => by
        subst y
        by_cases hj : i = l
        · subst hj
          have hh := (List.getElem?_eq_some_iff.mp z).1
          rw [List.getElem?_set_self (by rw [List.length_set] at hh; exact hh)] at z
          cases z
        · rw [List.getElem?_set_ne hj] at z w1
          exact hj (e.ne i l ks ls p2 h z h1 w1)
      exact ⟨p2, ys, w1, w2, w3, by rw [upd_ne hne]; exact w4, w5⟩
  have e3 := e2.setO (i := i) (p := p) (xs := xs' ++ [v]) (ks := ks ++ [k]) r2 r3 upd_same (r5.app (.cons q .nil)) fun l ls z1 z2 => by
    by_cases hj : i = l
    · exact hj.symm
    · rw [List.getElem?_set_ne hj] at z1 z2
      exact (e.ne i l ks ls p h z1 h1 z2).symm
  have w1 : (σ.set i (some V.non)).set i (some (V.ref p)) = σ := by rw [List.set_set]; exact set_same h1
  have w2 : (δ.set i (Sl.sh kAny)).set i (Sl.ow (ks ++ [k])) = δ.set i (.ow (ks ++ [k])) := List.set_set ..
  rw [w1, w2] at e3
  exact tk Hb1 _ σ a e3

/-! targets -/
theorem d_append (h : δ[i]? = some (.ow ks)) (he : EvD te δ k) (hl : ks.length ≤ 1000) : Does (tDrop (tBM K "list" rAppend (tVar i) (tCons te tNil))) δ (.nx (δ.set i (.ow (ks ++ [k])))) := d_appendB h he (small1000 hl)
theorem b_name : Bnd (gName i) [i] k δ (δ.set i (.sh k)) := ⟨fun j hj => List.getElem?_set_ne (fun z => hj (by simp [z])), fun H0 Hb H σ x s hx Q q => q _ (s.set hx) (fun j hj => List.getElem?_set_ne (fun z => hj (by simp [z]))) (List.length_set ..)⟩
theorem bs_nil : BndS gNil [] [] δ δ := ⟨fun _ _ => rfl, fun H0 Hb H σ xs s hx Q q => by
  cases hx
  exact ⟨rfl, q σ s (fun _ _ => rfl) rfl⟩⟩
theorem bs_cons {gs : TGs} {vs : List Nat} (h : Bnd g ws k δ δ1) (t : BndS gs vs ks δ1 δ2) : BndS (gCons g gs) (ws ++ vs) (k :: ks) δ δ2 := ⟨fun j hj => by rw [t.1 j (fun z => hj (List.mem_append_right _ z)), h.1 j (fun z => hj (List.mem_append_left _ z))], fun H0 Hb H σ xs s hx Q q => by
  cases hx with
  | cons hx hr =>
    refine ⟨_, _, rfl, h.2 H0 Hb H σ _ s hx _ fun σ1 s1 k1 l1 => t.2 H0 Hb H σ1 _ s1 hr _ fun σ2 s2 k2 l2 => q σ2 s2 (fun j hj => ?_) (l2.trans l1)⟩
    rw [k2 j (fun z => hj (List.mem_append_right _ z)), k1 j (fun z => hj (List.mem_append_left _ z))]⟩
theorem b_tup {gs : TGs} {n : Nat} (h : BndS gs ws ks δ δ1) (hn : ks.length = n) : Bnd (gTup K n gs) ws (kT K ks) δ δ1 := ⟨h.1, fun H0 Hb H σ x s ⟨a, xs, e1, e2, e3⟩ Q q =>
  ⟨a, xs, e1, Same.sqT s.ex e2, e3.len.trans hn, h.2 H0 Hb H σ xs s e3 Q q⟩⟩
end
end Dx

namespace Dx
open PySem PySem.Spec PyProof.Rows L2
/-- a tuple that is tracked -/
def kTr (ks : List Kd) : Kd := ⟨fun v H => ∃ a xs, v = .ref a ∧ H a = some (.tup xs) ∧ AllK H xs ks, fun e ⟨a, xs, h1, h2, h3⟩ => ⟨a, xs, h1, e _ _ h2, h3.up e⟩⟩
theorem kTr_le {K : PySem.W.Frag} {ks : List Kd} : (kTr ks).le (kT K ks) := fun _ _ ⟨a, xs, h1, h2, h3⟩ => ⟨a, xs, h1, SqT.of h2, h3⟩
theorem Gr.cap {H0 Hb : Hp} {q : Addr} {o : HO} (h : ¬ NT (H0 q)) (hb : Hb q = none) : Gr H0 Hb (upd Hb q o) := ⟨same_upd hb, fun b n z => by
  rw [upd_ne (fun e => h (by rw [← e]; exact n))]
  exact z⟩
/-- a tuple that the heap tracks is known from here on -/
theorem Sg.cap {H0 Hb H : Hp} {σ : L2.St} {δ : List Sl} {T : Addr} {xs : List V} (g : Sg H0 Hb H σ δ) (h : H T = some (.tup xs)) : ∃ Hb', Gr H0 Hb Hb' ∧ Sg H0 Hb' H σ δ ∧ Hb' T = some (.tup xs) := by
  cases q : Hb T with
  | some o =>
    have e := g.ex _ _ q
    rw [h] at e
    cases e
    exact ⟨Hb, Gr.refl _ _, g, q⟩
  | none =>
    refine ⟨upd Hb T (.tup xs), Gr.cap (fun n => ?_) q, ⟨fun b o z => ?_, g.fr, g.len, fun i k e => ?_, fun i ks e => ?_, g.ne⟩, upd_same⟩
    · cases z : H0 T with
      | none => exact n.1 z
      | some o =>
        have e := g.fr _ _ z
        rw [h] at e
        cases e
        exact n.2 _ z
    · by_cases hb : b = T
      · subst hb
        rw [upd_same] at z
        rw [h]
        exact z
      · rw [upd_ne hb] at z
        exact g.ex b o z
    · obtain ⟨v, h1, h2⟩ := g.sh i k e
      exact ⟨v, h1, k.up (same_upd q) h2⟩
    · obtain ⟨p, ys, h1, h2, h3, h4, h5⟩ := g.ow i ks e
      have hne : p ≠ T := fun z => by
        rw [z, h] at h4
        cases h4
      exact ⟨p, ys, h1, by rw [upd_ne hne]; exact h2, h3, h4, h5.up (same_upd q)⟩
/-! ## what is walked: items of known kinds -/
structure Wk (Hb : Hp) (J : It) (ys : List Kd) : Prop where
  goes : ∀ (i : Nat) (H : Hp), i < ys.length → Same Hb H → J.go i H
  stops : ∀ (H : Hp), Same Hb H → J.stop ys.length H
  yields : ∀ (i : Nat) (H : Hp) (x : V) (H' : Hp) (k : Kd), ys[i]? = some k → Same Hb H → J.yld i H x H' →
    (H' = H ∧ k.p x Hb) ∨ (∃ (T : Addr) (xs : List V) (ls : List Kd) (K : PySem.W.Frag), x = .ref T ∧ H T = none ∧ H' = upd H T (.tup xs) ∧ AllK Hb xs ls ∧ (kT K ls).le k) ∨
      ∃ (T : Addr) (xs : List V) (ls : List Kd), x = .ref T ∧ H T = some (.tup xs) ∧ H' = H ∧ AllK Hb xs ls ∧ (kTr ls).le k
theorem Wk.up {Hb Hb' : Hp} {J : It} {ys : List Kd} (w : Wk Hb J ys) (e : Same Hb Hb') : Wk Hb' J ys where
  goes := fun i H hi s => w.goes i H hi (e.trans s)
  stops := fun H s => w.stops H (e.trans s)
  yields := fun i H x H' k hk s y => by
    rcases w.yields i H x H' k hk (e.trans s) y with ⟨h1, h2⟩ | ⟨T, xs, ls, K, h1, h2, h3, h4, h5⟩ | ⟨T, xs, ls, h1, h2, h3, h4, h5⟩
    · exact .inl ⟨h1, k.up e h2⟩
    · exact .inr (.inl ⟨T, xs, ls, K, h1, h2, h3, h4.up e, h5⟩)
    · exact .inr (.inr ⟨T, xs, ls, h1, h2, h3, h4.up e, h5⟩)
def Src (wi : TI) (δ : List Sl) (ys : List Kd) : Prop := ∀ (H0 Hb H : Hp) (σ : L2.St), Sg H0 Hb H σ δ → ∀ R : It → Hp → Prop,
  (∀ Hb' H' J, Gr H0 Hb Hb' → Sg H0 Hb' H' σ δ → Wk Hb' J ys → R J H') → wi σ H R
section
variable {K : PySem.W.Frag} {δ δ1 δ2 : List Sl} {te ta tb : TE} {k k1 k2 k3 : Kd} {ks ls ys out : List Kd} {c : TT} {b : Bool} {ar : TA} {t u tbd : TS} {o : Out} {g : TG} {i j : Nat} {ws vs : List Nat} {wi : TI}
theorem wk_list {Hb : Hp} {a : Addr} {xs : List V} (h : SqL K Hb a xs) (hx : AllK Hb xs ys) : Wk Hb (Itl K a) ys where
  goes := fun i H hi s => (walk_list (K := K) (a := a) (xs := xs)).goes i H (by rw [hx.len]; exact hi) (s.seq h)
  stops := fun H s => by rw [← hx.len]; exact (walk_list (K := K) (a := a) (xs := xs)).stops H (s.seq h)
  yields := fun i H x H' k hk s y => by
    have hi : i < xs.length := by rw [hx.len]; exact (List.getElem?_eq_some_iff.mp hk).1
    obtain ⟨e1, e2⟩ := (walk_list (K := K) (a := a) (xs := xs)).yields i H x H' hi (s.seq h) y
    obtain ⟨k', e3, e4⟩ := hx.get e2
    rw [hk] at e3
    cases e3
    exact .inl ⟨e1, e4⟩
theorem wk_tup {Hb : Hp} {a : Addr} {xs : List V} (h : SqT K Hb a xs) (hx : AllK Hb xs ys) : Wk Hb (Itt K a) ys where
  goes := fun i H hi s => (walk_tup (K := K) (a := a) (xs := xs)).goes i H (by rw [hx.len]; exact hi) (Same.sqT s h)
  stops := fun H s => by rw [← hx.len]; exact (walk_tup (K := K) (a := a) (xs := xs)).stops H (Same.sqT s h)
  yields := fun i H x H' k hk s y => by
    have hi : i < xs.length := by rw [hx.len]; exact (List.getElem?_eq_some_iff.mp hk).1
    obtain ⟨e1, e2⟩ := (walk_tup (K := K) (a := a) (xs := xs)).yields i H x H' hi (Same.sqT s h) y
    obtain ⟨k', e3, e4⟩ := hx.get e2
    rw [hk] at e3
    cases e3
    exact .inl ⟨e1, e4⟩
theorem src_seq (h : EvD te δ (kS K ys)) : Src (iList K te) δ ys := fun H0 Hb H σ s R q => h H0 Hb H σ s _ fun Hb1 H1 v a e ⟨p, xs, e1, e2, e3⟩ =>
  ⟨p, e1, ⟨xs, e.ex.seq e2⟩, q Hb1 H1 _ a e (wk_list e2 e3)⟩
theorem src_list (h : EvD te δ (kL ys)) : Src (iList K te) δ ys := src_seq (ev_le h kL_le_kS)
theorem src_tup (h : EvD te δ (kT K ys)) : Src (iTup K te) δ ys := fun H0 Hb H σ s R q => h H0 Hb H σ s _ fun Hb1 H1 v a e ⟨p, xs, e1, e2, e3⟩ =>
  ⟨p, e1, ⟨xs, Same.sqT e.ex e2⟩, q Hb1 H1 _ a e (wk_tup e2 e3)⟩
/-- range(n) -/
def rangeK (n : Nat) : List Kd := (List.range n).map fun i => kI (i : Nat)
theorem src_range {n : Nat} (h : EvD te δ (kI (n : Nat))) (hn : n ≤ 1000) : Src (iRng1 (tCons te tNil)) δ (rangeK n) := fun H0 Hb H σ s R q => h H0 Hb H σ s _ fun Hb1 H1 v a e (ev : v = .int (n : Nat)) => by
  refine ⟨(n : Nat), by rw [ev], by omega, by omega, q Hb1 H1 _ a e ?_⟩
  have hl : (rangeK n).length = n := by unfold rangeK; rw [List.length_map, List.length_range]
  refine ⟨fun i H hi _ => ?_, fun H _ => ?_, fun i H x H' k hk _ y => .inl ?_⟩
  · rw [hl] at hi
    show i < ((n : Nat) : Int).toNat
    omega
  · rw [hl]
    show ((n : Nat) : Int).toNat ≤ n
    omega
  · obtain ⟨y1, y2⟩ := y
    refine ⟨y1, ?_⟩
    unfold rangeK at hk
    rw [List.getElem?_map] at hk
    cases hr : (List.range n)[i]? with
    | none => rw [hr] at hk; cases hk
    | some j =>
      rw [hr] at hk
      cases hk
      have : j = i := by
        obtain ⟨h1, h2⟩ := List.getElem?_eq_some_iff.mp hr
        rw [List.getElem_range] at h2
        exact h2.symm
      subst this
      rw [y2]
      show V.int (0 + (j : Int)) = V.int (j : Int)
      rw [Int.zero_add]

/-! ## comprehensions -/
def wipeD (δ : List Sl) : List Nat → List Sl
  | [] => δ
  | v :: vs => (wipeD δ vs).set v .no
theorem Sg.set0 {H0 Hb H : Hp} {σ : L2.St} {i : Nat} (g : Sg H0 Hb H σ δ) : Sg H0 Hb H (σ.set i none) (δ.set i .no) where
  ex := g.ex
  fr := g.fr
  len := by rw [List.length_set, List.length_set]; exact g.len
  sh := fun j l e => by
    by_cases hj : i = j
    · subst hj
      have hl := (List.getElem?_eq_some_iff.mp e).1
      rw [List.length_set] at hl
      rw [List.getElem?_set_self hl] at e
      cases e
    · rw [List.getElem?_set_ne hj] at e ⊢
      exact g.sh j l e
  ow := fun j ks e => by
    by_cases hj : i = j
    · subst hj
      have hl := (List.getElem?_eq_some_iff.mp e).1
      rw [List.length_set] at hl
      rw [List.getElem?_set_self hl] at e
      cases e
    · rw [List.getElem?_set_ne hj] at e ⊢
      exact g.ow j ks e
  ne := fun a b ks ls p e1 e2 q1 q2 => by
    have na : i ≠ a := fun z => by
      subst z
      have hl := (List.getElem?_eq_some_iff.mp e1).1
      rw [List.length_set] at hl
      rw [List.getElem?_set_self hl] at e1
      cases e1
    have nb : i ≠ b := fun z => by
      subst z
      have hl := (List.getElem?_eq_some_iff.mp e2).1
      rw [List.length_set] at hl
      rw [List.getElem?_set_self hl] at e2
      cases e2
    rw [List.getElem?_set_ne na] at e1 q1
    rw [List.getElem?_set_ne nb] at e2 q2
    exact g.ne a b ks ls p e1 e2 q1 q2
theorem Sg.wipe {H0 Hb H : Hp} {σ : L2.St} (g : Sg H0 Hb H σ δ) : ∀ vs : List Nat, Sg H0 Hb H (L2.wipe σ vs) (wipeD δ vs)
  | [] => g
  | v :: vs => (Sg.wipe g vs).set0
theorem wipe_get {σ : L2.St} {vs : List Nat} {i : Nat} : (L2.wipe σ vs)[i]? = if i ∈ vs then (if i < σ.length then some none else none) else σ[i]? := by
  induction vs with
  | nil => simp [L2.wipe]
  | cons v vs ih =>
    unfold L2.wipe
    by_cases hi : v = i
    · subst hi
      rw [if_pos List.mem_cons_self]
      by_cases hl : v < σ.length
      · rw [if_pos hl, List.getElem?_set_self (by rw [wipe_length]; exact hl)]
      · rw [if_neg hl, List.getElem?_eq_none (by rw [List.length_set, wipe_length]; omega)]
    · rw [List.getElem?_set_ne hi, ih]
      have : (i ∈ v :: vs) ↔ i ∈ vs := by simp [Ne.symm hi]
      by_cases hm : i ∈ vs
      · rw [if_pos hm, if_pos (this.mpr hm)]
      · rw [if_neg hm, if_neg (fun z => hm (this.mp z))]
theorem wipe_eq {σ σ' : L2.St} {vs ws : List Nat} (hw : ∀ w ∈ ws, w ∈ vs) (h : ∀ i, i ∉ ws → σ'[i]? = (L2.wipe σ vs)[i]?) (hl : σ'.length = (L2.wipe σ vs).length) : L2.wipe σ' vs = L2.wipe σ vs := by
  apply List.ext_getElem?
  intro i
  rw [wipe_get]
  by_cases hi : i ∈ vs
  · rw [if_pos hi, wipe_get, if_pos hi, hl, wipe_length]
  · rw [if_neg hi, h i (fun z => hi (hw i z))]
/-- the turns of a comprehension, the items' kinds on the left, what is made on the right -/
inductive LcRun (g : TG) (tt : TT) (te : TE) (vs : List Nat) (δ : List Sl) : List Kd → List Kd → Prop where
  | nil : LcRun g tt te vs δ [] []
  | keep {k k' : Kd} {ys out : List Kd} {δ1 : List Sl} {ws : List Nat} (hb : Bnd g ws k (wipeD δ vs) δ1) (hw : ∀ w ∈ ws, w ∈ vs) (ht : EvT tt δ1 true) (he : EvD te δ1 k') (r : LcRun g tt te vs δ ys out) : LcRun g tt te vs δ (k :: ys) (k' :: out)
  | skip {k : Kd} {ys out : List Kd} {δ1 : List Sl} {ws : List Nat} (hb : Bnd g ws k (wipeD δ vs) δ1) (hw : ∀ w ∈ ws, w ∈ vs) (ht : EvT tt δ1 false) (r : LcRun g tt te vs δ ys out) : LcRun g tt te vs δ (k :: ys) out
theorem LcRun.len {tt : TT} (r : LcRun g tt te vs δ ys out) : out.length ≤ ys.length := by
  induction r with
  | nil => exact Nat.le_refl _
  | keep _ _ _ _ _ ih => simpa using ih
  | skip _ _ _ _ ih => exact Nat.le_succ_of_le ih
theorem et_yes : EvT tYes δ true := fun H0 Hb H σ g Q q => q Hb H (Gr.refl _ _) g
/-- a heap of the entry that knows one thing more: a frame -/
theorem Sg.frame {H0 Hb H : Hp} {σ : L2.St} {p : Addr} {o : HO} (g : Sg H0 Hb H σ δ) (h : H p = some o) (h0 : H0 p = none) (hn : ¬ Owns σ δ p) : Sg (upd H0 p o) Hb H σ δ := ⟨g.ex, fun b x z => by
    by_cases hb : b = p
    · subst hb
      rw [upd_same] at z
      cases z
      exact h
    · rw [upd_ne hb] at z
      exact g.fr b x z, g.len, g.sh, fun l ls z => by
    obtain ⟨p', ys, r1, r2, r3, r4, r5⟩ := g.ow l ls z
    exact ⟨p', ys, r1, r2, by rw [upd_ne (fun y => hn ⟨l, ls, z, by rw [← y]; exact r1⟩)]; exact r3, r4, r5⟩, g.ne⟩
theorem Sg.unframe {H0 Hb H : Hp} {σ : L2.St} {p : Addr} {o : HO} (g : Sg (upd H0 p o) Hb H σ δ) (h0 : H0 p = none) : Sg H0 Hb H σ δ := ⟨g.ex, (same_upd h0).trans g.fr, g.len, g.sh, fun l ls z => by
    obtain ⟨p', ys, r1, r2, r3, r4, r5⟩ := g.ow l ls z
    exact ⟨p', ys, r1, r2, (same_upd h0).free r3, r4, r5⟩, g.ne⟩
/-- none of these slots holds an owned list -/
def noOw (δ : List Sl) (vs : List Nat) : Bool := vs.all fun i => match δ[i]? with
  | some (.ow _) => false
  | _ => true
theorem noOw_ne (h : noOw δ vs = true) (hi : δ[i]? = some (.ow ks)) : i ∉ vs := fun hm => by
  have := List.all_eq_true.mp h i hm
  rw [hi] at this
  cases this
theorem wipeD_get : ∀ {vs : List Nat}, i ∉ vs → (wipeD δ vs)[i]? = δ[i]?
  | [], _ => rfl
  | v :: vs, h => by
    unfold wipeD
    rw [List.getElem?_set_ne (fun z => h (by simp [z])), wipeD_get (fun z => h (List.mem_cons_of_mem _ z))]
theorem en_lc {tt : TT} (hs : Src wi δ ys) (r : LcRun g tt te vs δ ys out) (hl : ys.length ≤ 100000) (hno : noOw δ vs = true) : EvN (tLc wi g tt te vs) δ out := fun H0 Hb H σ s Q q =>
  hs H0 Hb H σ s _ fun Hb1 H1 J a1 s1 wk D hD => by
    have hbD : Hb1 D = none := s1.hb hD
    have h0D : H0 D = none := s1.h0 hD
    have nD : ¬ Owns σ δ D := s1.notOwn hD
    refine ⟨fun i m H2 => m = ys.length - i ∧ i ≤ ys.length ∧ ∃ (Hb2 : Hp) (acc : List V) (o1 o2 : List Kd), Gr H0 Hb1 Hb2 ∧ Sg (upd H0 D (.lst acc)) Hb2 H2 σ δ ∧ Hb2 D = none ∧ AllK Hb2 acc o1 ∧ out = o1 ++ o2 ∧ o1.length ≤ i ∧ LcRun g tt te vs δ (ys.drop i) o2,
      ⟨ys.length, by simp, Nat.zero_le _, Hb1, [], [], out, Gr.refl _ _, (s1.drop hD).frame upd_same h0D nD, hbD, .nil, rfl, Nat.le_refl _, r⟩, ?_⟩
    rintro i m H2 ⟨rfl, hi, Hb2, acc, o1, o2, a2, s2, hb2, hacc, rfl, ho1, r2⟩
    have w2 := wk.up a2.1
    have hH2 : H2 D = some (.lst acc) := s2.fr D _ upd_same
    by_cases hlt : i < ys.length
    · refine .inr ⟨w2.goes i H2 hlt s2.ex, fun H' => ∃ (Hb2 : Hp) (acc : List V) (o1' o2' : List Kd), Gr H0 Hb1 Hb2 ∧ Sg (upd H0 D (.lst acc)) Hb2 H' σ δ ∧ Hb2 D = none ∧ AllK Hb2 acc o1' ∧ o1 ++ o2 = o1' ++ o2' ∧ o1'.length ≤ i + 1 ∧ LcRun g tt te vs δ (ys.drop (i + 1)) o2',
        fun H' ⟨Hb2, acc, o1', o2', z⟩ => ⟨ys.length - (i + 1), by omega, rfl, hlt, Hb2, acc, o1', o2', z⟩, fun x H' y => ?_⟩
      have hk : ys[i]? = some ys[i] := List.getElem?_eq_getElem hlt
      -- the item stands, its tuple known
      obtain ⟨Hb3, a3, s3, hb3, hx3⟩ : ∃ Hb3, Gr (upd H0 D (.lst acc)) Hb2 Hb3 ∧ Sg (upd H0 D (.lst acc)) Hb3 H' σ δ ∧ Hb3 D = none ∧ ys[i].p x Hb3 := by
        rcases w2.yields i H2 x H' ys[i] hk s2.ex y with ⟨h1, h2⟩ | ⟨T, xs, ls, K, h1, h2, h3, h4, h5⟩ | ⟨T, xs, ls, h1, h2, h3, h4, h5⟩
        · subst h1
          exact ⟨Hb2, Gr.refl _ _, s2, hb2, h2⟩
        · subst h3
          have hTD : D ≠ T := ne_of_none hH2 h2
          refine ⟨upd Hb2 T (.tup xs), s2.gr h2, s2.alloc h2, by rw [upd_ne hTD]; exact hb2, h5 _ _ ⟨T, xs, h1, SqT.of upd_same, h4.up (same_upd (s2.hb h2))⟩⟩
        · subst h3
          obtain ⟨Hb3, c1, c2, c3⟩ := s2.cap h2
          exact ⟨Hb3, c1, c2, c1.2 D (by rw [upd_same]; exact nt_lst) hb2, h5 _ _ ⟨T, xs, h1, c3, h4.up c1.1⟩⟩
      have hd : ys.drop i = ys[i] :: ys.drop (i + 1) := List.drop_eq_getElem_cons hlt
      rw [hd] at r2
      have ga : Gr H0 Hb1 Hb3 := a2.trans (a3.mono (same_upd h0D))
      have accLen : acc.length < sizeLine := Nat.lt_of_le_of_lt (m := 100000) (by rw [hacc.len]; omega) (by decide)
      -- the store behind the block
      have back : ∀ {Hb5 H5 : Hp} {σ2 : L2.St} {δ1 : List Sl} {ws : List Nat}, (∀ w ∈ ws, w ∈ vs) → (∀ i, i ∉ ws → δ1[i]? = (wipeD δ vs)[i]?) → (∀ i, i ∉ ws → σ2[i]? = (L2.wipe σ vs)[i]?) →
          Gr (upd H0 D (.lst acc)) Hb3 Hb5 → Sg (upd H0 D (.lst acc)) Hb5 H5 σ2 δ1 → Sg (upd H0 D (.lst acc)) Hb5 H5 σ δ := by
        intro Hb5 H5 σ2 δ1 ws hw e0 e1 a35 s6
        refine ⟨s6.ex, s6.fr, s.len, fun j l z => ?_, fun j l z => ?_, s.ne⟩
        · obtain ⟨v', q1, q2⟩ := s3.sh j l z
          exact ⟨v', q1, l.up a35.1 q2⟩
        · have nj : j ∉ vs := noOw_ne hno z
          have nw : j ∉ ws := fun y => nj (hw j y)
          have zz : δ1[j]? = some (.ow l) := by rw [e0 j nw, wipeD_get nj]; exact z
          obtain ⟨p', xs', q1, q2⟩ := s6.ow j l zz
          refine ⟨p', xs', ?_, q2⟩
          rw [e1 j nw, wipe_get, if_neg nj] at q1
          exact q1
      generalize hyi : ys[i] = yi at r2 hx3
      cases r2 with
      | @keep _ k' _ out' δ1 ws hb hw ht he r3 =>
        refine hb.2 _ Hb3 H' _ x (s3.wipe vs) hx3 _ fun σ2 s4 e1 e2 => ⟨wipe_eq hw e1 e2, ht _ Hb3 H' σ2 s4 _ fun Hb4 H4 a4 s5 => iteT (he _ Hb4 H4 σ2 s5 _ fun Hb5 H5 v a5 s6 hv => ?_)⟩
        have a35 := a4.trans a5
        have hb5 : Hb5 D = none := a35.2 D (by rw [upd_same]; exact nt_lst) hb3
        have hH5 : H5 D = some (.lst acc) := s6.fr D _ upd_same
        have s7 := back hw hb.1 e1 a35 s6
        have s8 : Sg (upd H0 D (.lst (acc ++ [v]))) Hb5 (upd H5 D (.lst (acc ++ [v]))) σ δ := by
          refine ⟨fun b o z => ?_, fun b o z => ?_, s7.len, s7.sh, fun j l z => ?_, s7.ne⟩
          · have hne : b ≠ D := fun y => by rw [y, hb5] at z; cases z
            rw [upd_ne hne]
            exact s7.ex b o z
          · by_cases hbD2 : b = D
            · rw [hbD2] at z ⊢
              rw [upd_same] at z ⊢
              exact z
            · rw [upd_ne hbD2] at z ⊢
              exact s7.fr b o (by rw [upd_ne hbD2]; exact z)
          · obtain ⟨p', xs', q1, q2, q3, q4, q5⟩ := s7.ow j l z
            have hne : p' ≠ D := fun y => by rw [y, upd_same] at q3; cases q3
            exact ⟨p', xs', q1, q2, by rw [upd_ne hne]; rw [upd_ne hne] at q3; exact q3, by rw [upd_ne hne]; exact q4, q5⟩
        exact ⟨acc, hH5, accLen, Hb5, acc ++ [v], o1 ++ [k'], out', ga.trans (a35.mono (same_upd h0D)), s8, hb5, ((hacc.up a3.1).up a35.1).app (.cons hv .nil), by rw [List.append_assoc]; rfl, by rw [List.length_append]; exact Nat.succ_le_succ ho1, r3⟩
      | @skip _ _ _ δ1 ws hb hw ht r3 =>
        refine hb.2 _ Hb3 H' _ x (s3.wipe vs) hx3 _ fun σ2 s4 e1 e2 => ⟨wipe_eq hw e1 e2, ht _ Hb3 H' σ2 s4 _ fun Hb4 H4 a4 s5 => iteF ?_⟩
        have hb5 : Hb4 D = none := a4.2 D (by rw [upd_same]; exact nt_lst) hb3
        exact ⟨Hb4, acc, o1, o2, ga.trans (a4.mono (same_upd h0D)), back hw hb.1 e1 a4 s5, hb5, (hacc.up a3.1).up a4.1, rfl, Nat.le_succ_of_le ho1, r3⟩
    · have e : i = ys.length := by omega
      subst e
      rw [List.drop_length] at r2
      cases r2
      refine .inl ⟨w2.stops H2 s2.ex, q Hb2 H2 D acc (a1.trans a2) (s2.unframe h0D) hb2 h0D hH2 (by rw [List.append_nil]; exact hacc) nD⟩

/-! ## loops -/
/-- the turns of a for loop -/
inductive ForRun (g : TG) (tb : TS) : List Kd → List Sl → List Sl → Prop where
  | nil {δ : List Sl} : ForRun g tb [] δ δ
  | cons {k : Kd} {ys : List Kd} {δ δ1 δ2 δ3 : List Sl} {ws : List Nat} (hb : Bnd g ws k δ δ1) (h : Does tb δ1 (.nx δ2)) (r : ForRun g tb ys δ2 δ3) : ForRun g tb (k :: ys) δ δ3
theorem ForRun.inv {tb : TS} (P : Nat → List Sl) : ∀ (ys : List Kd) (j : Nat), (∀ i k, ys[i]? = some k → ∃ ws δ1, Bnd g ws k (P (j + i)) δ1 ∧ Does tb δ1 (.nx (P (j + i + 1)))) → ForRun g tb ys (P j) (P (j + ys.length))
  | [], j, _ => .nil
  | k :: ys, j, h => by
    obtain ⟨ws, δ1, h1, h2⟩ := h 0 k rfl
    have e : j + (k :: ys).length = (j + 1) + ys.length := by rw [List.length_cons]; omega
    rw [e]
    refine .cons h1 h2 (ForRun.inv P ys (j + 1) fun i k' hk => ?_)
    obtain ⟨ws', δ1', h3, h4⟩ := h (i + 1) k' hk
    have e2 : j + (i + 1) = j + 1 + i := by omega
    rw [e2] at h3 h4
    exact ⟨ws', δ1', h3, h4⟩
theorem d_for {tb : TS} (hs : Src wi δ ys) (r : ForRun g tb ys δ δ1) : Does (tFor wi g tb) δ (.nx δ1) := fun H0 Hb H σ D s tk =>
  hs H0 Hb H σ s _ fun Hb1 H1 J a1 s1 wk => by
    refine ⟨fun i m σ2 H2 => m = ys.length - i ∧ i ≤ ys.length ∧ ∃ (Hb2 : Hp) (δ2 : List Sl), Gr H0 Hb1 Hb2 ∧ Sg H0 Hb2 H2 σ2 δ2 ∧ ForRun g tb (ys.drop i) δ2 δ1,
      ⟨ys.length, by simp, Nat.zero_le _, Hb1, δ, Gr.refl _ _, s1, r⟩, ?_⟩
    rintro i m σ2 H2 ⟨rfl, hi, Hb2, δ2, a2, s2, r2⟩
    have w2 := wk.up a2.1
    by_cases hlt : i < ys.length
    · refine .inr ⟨w2.goes i H2 hlt s2.ex, fun σ' H' => ∃ (Hb2 : Hp) (δ2 : List Sl), Gr H0 Hb1 Hb2 ∧ Sg H0 Hb2 H' σ' δ2 ∧ ForRun g tb (ys.drop (i + 1)) δ2 δ1,
        fun σ' H' z => ⟨ys.length - (i + 1), by omega, rfl, hlt, z⟩, fun x H' y => ?_⟩
      have hk : ys[i]? = some ys[i] := List.getElem?_eq_getElem hlt
      obtain ⟨Hb3, a3, s3, hx3⟩ : ∃ Hb3, Gr H0 Hb2 Hb3 ∧ Sg H0 Hb3 H' σ2 δ2 ∧ ys[i].p x Hb3 := by
        rcases w2.yields i H2 x H' ys[i] hk s2.ex y with ⟨h1, h2⟩ | ⟨T, xs, ls, K, h1, h2, h3, h4, h5⟩ | ⟨T, xs, ls, h1, h2, h3, h4, h5⟩
        · subst h1
          exact ⟨Hb2, Gr.refl _ _, s2, h2⟩
        · subst h3
          exact ⟨upd Hb2 T (.tup xs), s2.gr h2, s2.alloc h2, h5 _ _ ⟨T, xs, h1, SqT.of upd_same, h4.up (same_upd (s2.hb h2))⟩⟩
        · subst h3
          obtain ⟨Hb3, c1, c2, c3⟩ := s2.cap h2
          exact ⟨Hb3, c1, c2, h5 _ _ ⟨T, xs, h1, c3, h4.up c1.1⟩⟩
      have hd : ys.drop i = ys[i] :: ys.drop (i + 1) := List.drop_eq_getElem_cons hlt
      rw [hd] at r2
      generalize hyi : ys[i] = yi at r2 hx3
      cases r2 with
      | cons hb h r3 =>
        refine hb.2 H0 Hb3 H' σ2 x s3 hx3 _ fun σ3 s4 _ _ => h H0 Hb3 H' σ3 _ s4 fun Hb4 H4 σ4 a4 s5 => ?_
        exact ⟨Hb4, _, (a2.trans a3).trans a4, s5, r3⟩
    · have e : i = ys.length := by omega
      subst e
      rw [List.drop_length] at r2
      cases r2
      exact .inl ⟨w2.stops H2 s2.ex, tk Hb2 H2 σ2 (a1.trans a2) s2⟩
/-- a for loop over an owned list, which stays -/
theorem d_forO {tb : TS} (h : δ[i]? = some (.ow ys)) (r : ∀ p, ForRun g tb ys (δ.set i (.sh (kE (.ref p)))) (δ1.set i (.sh (kE (.ref p))))) (hl : i < δ1.length) : Does (tFor (iList K (tVar i)) g tb) δ (.nx (δ1.set i (.ow ys))) := fun H0 Hb H σ D s tk => by
  obtain ⟨p, xs, h1, h2, h3, h4, h5⟩ := s.ow i ys h
  have s1 : Sg H0 Hb H σ (δ.set i (.sh (kE (.ref p)))) := by
    have q := s.set (i := i) (v := .ref p) (k := kE (.ref p)) rfl
    rw [set_same h1] at q
    exact q
  have hn : ¬ Owns σ (δ.set i (.sh (kE (.ref p)))) p := by
    rintro ⟨j, ls, e1, e2⟩
    by_cases hj : i = j
    · subst hj
      have hh := (List.getElem?_eq_some_iff.mp e1).1
      rw [List.getElem?_set_self (by rw [List.length_set] at hh; exact hh)] at e1
      cases e1
    · rw [List.getElem?_set_ne hj] at e1
      exact hj (s.ne i j ys ls p h e1 h1 e2)
  -- the list framed while the loop runs
  have s2 := s1.frame h4 h3 hn
  refine ⟨.ref p, h1, p, rfl, ⟨xs, SqL.of h4⟩, ?_⟩
  have hlen := h5.len
  have wg : ∀ {H2 : Hp}, H2 p = some (.lst xs) → SqL K H2 p xs := fun z => SqL.of z
  refine ⟨fun i' m σ2 H2 => m = ys.length - i' ∧ i' ≤ ys.length ∧ ∃ (Hb2 : Hp) (δ2 : List Sl), Gr (upd H0 p (.lst xs)) Hb Hb2 ∧ Sg (upd H0 p (.lst xs)) Hb2 H2 σ2 δ2 ∧ ForRun g tb (ys.drop i') δ2 (δ1.set i (.sh (kE (.ref p)))),
    ⟨ys.length, by simp, Nat.zero_le _, Hb, _, Gr.refl _ _, s2, r p⟩, ?_⟩
  rintro i' m σ2 H2 ⟨rfl, hi, Hb2, δ2, a2, s3, r2⟩
  have hp2 : H2 p = some (.lst xs) := s3.fr p _ upd_same
  by_cases hlt : i' < ys.length
  · refine .inr ⟨(walk_list (K := K) (a := p) (xs := xs)).goes i' H2 (by rw [hlen]; exact hlt) (wg hp2), fun σ' H' => ∃ (Hb2 : Hp) (δ2 : List Sl), Gr (upd H0 p (.lst xs)) Hb Hb2 ∧ Sg (upd H0 p (.lst xs)) Hb2 H' σ' δ2 ∧ ForRun g tb (ys.drop (i' + 1)) δ2 (δ1.set i (.sh (kE (.ref p)))),
      fun σ' H' z => ⟨ys.length - (i' + 1), by omega, rfl, hlt, z⟩, fun x H' y => ?_⟩
    obtain ⟨e1, e2⟩ := (walk_list (K := K) (a := p) (xs := xs)).yields i' H2 x H' (by rw [hlen]; exact hlt) (wg hp2) y
    subst e1
    obtain ⟨k', e3, e4⟩ := (h5.up a2.1).get e2
    have hd : ys.drop i' = ys[i'] :: ys.drop (i' + 1) := List.drop_eq_getElem_cons hlt
    rw [hd] at r2
    have hk : ys[i']? = some ys[i'] := List.getElem?_eq_getElem hlt
    rw [hk] at e3
    cases e3
    generalize hyi : ys[i'] = yi at r2 e4
    cases r2 with
    | cons hb h r3 =>
      refine hb.2 _ Hb2 H' σ2 x s3 e4 _ fun σ3 s4 _ _ => h _ Hb2 H' σ3 _ s4 fun Hb4 H4 σ4 a4 s5 => ?_
      exact ⟨Hb4, _, a2.trans a4, s5, r3⟩
  · have e : i' = ys.length := by omega
    subst e
    rw [List.drop_length] at r2
    generalize hδ : δ1.set i (.sh (kE (.ref p))) = δ3 at r2
    cases r2
    subst hδ
    refine .inl ⟨by rw [← hlen]; exact (walk_list (K := K) (a := p) (xs := xs)).stops H2 (wg hp2), ?_⟩
    have hb2 : Hb2 p = none := a2.2 p (by rw [upd_same]; exact nt_lst) h2
    have s4 := s3.unframe h3
    obtain ⟨v, q1, q2⟩ := s4.sh i (kE (.ref p)) (List.getElem?_set_self hl)
    have q2' : v = .ref p := q2
    subst q2'
    have s5 := s4.setO (i := i) hb2 h3 hp2 (h5.up a2.1) fun l ls z1 z2 => by
      exfalso
      have z3 := (s3.ow l ls z1)
      obtain ⟨p', xs', w1, w2, w3, w4⟩ := z3
      rw [z2] at w1
      cases w1
      rw [upd_same] at w3
      cases w3
    rw [set_same q1, List.set_set] at s5
    exact tk Hb2 H2 σ2 (a2.mono (same_upd h3)) s5
/-- the turns of a while loop -/
inductive WhRun (c : TT) (tb : TS) : Nat → List Sl → List Sl → Prop where
  | stop {δ : List Sl} (hc : EvT c δ false) : WhRun c tb 0 δ δ
  | turn {n : Nat} {δ δ1 δ2 : List Sl} (hc : EvT c δ true) (h : Does tb δ (.nx δ1)) (r : WhRun c tb n δ1 δ2) : WhRun c tb (n + 1) δ δ2
theorem d_while {c : TT} {tb : TS} {n : Nat} (r : WhRun c tb n δ δ1) : Does (tWhile c tb) δ (.nx δ1) := fun H0 Hb H σ D s tk => by
  refine ⟨fun m σ2 H2 => ∃ (Hb2 : Hp) (δ2 : List Sl), Gr H0 Hb Hb2 ∧ Sg H0 Hb2 H2 σ2 δ2 ∧ WhRun c tb m δ2 δ1, ⟨n, Hb, δ, Gr.refl _ _, s, r⟩, ?_⟩
  rintro m σ2 H2 ⟨Hb2, δ2, a2, s2, r2⟩
  cases r2 with
  | stop hc => exact hc H0 Hb2 H2 σ2 s2 _ fun Hb3 H3 a3 s3 => iteF (tk Hb3 H3 σ2 (a2.trans a3) s3)
  | @turn n _ δ4 _ hc h r3 =>
    refine hc H0 Hb2 H2 σ2 s2 _ fun Hb3 H3 a3 s3 => iteT ⟨fun σ' H' => ∃ (Hb4 : Hp), Gr H0 Hb Hb4 ∧ Sg H0 Hb4 H' σ' δ4, fun σ' H' ⟨Hb4, z1, z2⟩ => ⟨n, Nat.lt_succ_self n, Hb4, δ4, z1, z2, r3⟩, ?_⟩
    exact h H0 Hb3 H3 σ2 _ s3 fun Hb4 H4 σ4 a4 s4 => ⟨Hb4, (a2.trans a3).trans a4, s4⟩
end
end Dx

namespace Dx
open PySem PySem.Spec PyProof.Rows L2
/-! ## rules that the layer lacks: sum and max of a tuple, enumerate of a tuple, in of a tuple of data, products of great ints -/
section
variable {prog : Program} {w : World} {A : Around} {E : Value → Shared → Prop} {s : Shared} {l : Addr} {its : List Value} {ns : List Int} {Q : Value → Shared → Prop}
theorem sum_rawT (hh : A.handled = none) (hl : s.heap.IsTuple l its.toArray) (hi : IntsAre its ns)
    (h : ∀ h' tk t', (∀ b o, s.heap.get? b = some o → h'.get? b = some o) → Q (.int ns.sum t') { s with heap := h', toks := tk }) : wpAny (model prog w) A (call (.builtin "sum") [.ref l]) Q E s := by
  obtain ⟨xs, e⟩ := hi.allInts.items
  have hn : numsOf (intItems xs).toList = ns := by rw [← e]; exact hi.numsOf
  rw [nums_intItems] at hn
  rw [e] at hl
  refine PySem.W.ktm_sumG hh hl fun h' tk t' hk => ?_
  have := h h' tk t' hk
  rw [preSum_eq, List.take_of_length_le (by simp), hn]; exact this
theorem max_intTup {xs : Array (Int × Tok)} (hh : A.handled = none) (hl : s.heap.IsTuple l (intItems xs)) (hne : 0 < xs.size)
    (h : ∀ v h' tk, (intItems xs)[argBest (fun i j => decide (numAt xs i > numAt xs j)) (xs.size - 1)]? = some v → (∀ b o, s.heap.get? b = some o → h'.get? b = some o) → Q v { s with heap := h', toks := tk }) :
    wpAny (model prog w) A (call (.builtin "max") [.ref l]) Q E s := by
  obtain ⟨o, ho, hc, n, hd⟩ := id hl
  have hlt : l < s.heap.objs.size := Heap.lt_size ho
  have hne' : l ≠ s.heap.objs.size := Nat.ne_of_lt hlt
  refine call_max_walk (wpAny_pyIter_tuple hl ?_)
  refine ⟨s.heap.objs.size, _, _, _, _, _, _, rfl, Walks.tuple (A := A.in1) hh _ l hne' (intItems xs), ⟨⟨_, Heap.get?_push_size _ rfl, rfl, rfl⟩, hl.at fun o e => Heap.get?_push_of_some _ e⟩, fun b hb => ?_, by simpa [intItems] using hne, CmpOf.ints_gt (numAt xs) (fun _ _ => intItems_at), fun v h' tk hP hk => ?_⟩
  · rcases List.mem_cons.mp hb with rfl | hb
    · exact Heap.lt_size (Heap.get?_push_size _ rfl)
    · obtain rfl := List.mem_singleton.mp hb
      exact Heap.lt_size (Heap.get?_push_of_some _ ho)
  · refine h v h' tk (by simpa [intItems] using hP) fun b o e => hk b o (fun hm => ?_) (Heap.get?_push_of_some _ e)
    obtain rfl := List.mem_singleton.mp hm
    exact absurd (Heap.lt_size e) (Nat.lt_irrefl _)
theorem max_rawT (hh : A.handled = none) (hl : s.heap.IsTuple l its.toArray) (hi : IntsAre its ns) (hne : 0 < ns.length)
    (h : ∀ h' tk M t', (∀ b o, s.heap.get? b = some o → h'.get? b = some o) → M ∈ ns → (∀ a, a ∈ ns → a ≤ M) → Q (.int M t') { s with heap := h', toks := tk }) : wpAny (model prog w) A (call (.builtin "max") [.ref l]) Q E s := by
  obtain ⟨xs, e⟩ := hi.allInts.items
  have hn : numsOf (intItems xs).toList = ns := by rw [← e]; exact hi.numsOf
  rw [nums_intItems] at hn
  subst hn
  rw [e] at hl
  have hsz : 0 < xs.size := by simpa using hne
  refine max_intTup hh hl hsz fun v h' tk hv hk => ?_
  obtain ⟨t, rfl⟩ := intItems_at hv
  obtain ⟨h1, h2⟩ := argBest_gt (numAt xs) (xs.size - 1)
  refine h h' tk _ t hk ?_ fun a ha => ?_
  · rw [numAt_eq]; exact PySem.getD_mem (by rw [List.length_map, Array.length_toList]; omega)
  · obtain ⟨j, hj, rfl⟩ := mem_getD ha
    rw [List.length_map, Array.length_toList] at hj
    rw [← numAt_eq]; exact h2 j (by omega)
end
section
variable {X : Cx}
def rSumT (K : PySem.W.Frag) : List V → Hp → VK → Prop := fun vs H Q => ∃ (a : Addr) (ns : List Int), vs = [V.ref a] ∧ SqT K H a (ns.map V.int) ∧ Q (.int ns.sum) H
def rMaxT (K : PySem.W.Frag) : List V → Hp → VK → Prop := fun vs H Q => ∃ (a : Addr) (ns : List Int), vs = [V.ref a] ∧ SqT K H a (ns.map V.int) ∧ 0 < ns.length ∧ ∀ m, m ∈ ns → (∀ y, y ∈ ns → y ≤ m) → Q (.int m) H
theorem isTuple_of {h : Heap} {a : Addr} {vs : Array Value} (h1 : IsTup h a vs) : h.IsTuple a vs := h1
theorem cr_sumT (hc : X.calm = true) : CallR X (.builtin "sum") (rSumT X.K) := by
  intro pins s σ H vs us Q I r h
  obtain ⟨a, ns, rfl, hs, q⟩ := h
  obtain ⟨its, rv, hl, _⟩ := I.tuple hs
  rw [Vals.ref1 r]
  exact sum_rawT (I.ok.hd hc) (isTuple_of hl) rv.ints fun h' tk t' hk => ⟨.int _, H, I.kept hk, ⟨_, rfl⟩, q⟩
theorem cr_maxT (hc : X.calm = true) : CallR X (.builtin "max") (rMaxT X.K) := by
  intro pins s σ H vs us Q I r h
  obtain ⟨a, ns, rfl, hs, hne, q⟩ := h
  obtain ⟨its, rv, hl, _⟩ := I.tuple hs
  rw [Vals.ref1 r]
  exact max_rawT (I.ok.hd hc) (isTuple_of hl) rv.ints hne fun h' tk m t' hk h1 h2 => ⟨.int _, H, I.kept hk, ⟨_, rfl⟩, q m h1 h2⟩
/-- x in t, t a tuple of data -/
def rInDT (K : PySem.W.Frag) : R2 := fun x y H Q => ∃ d ds, Dp K H x d ∧ Dp K H y (.tuple ds) ∧ SeqAt.shaped d = true ∧ SeqAt.shaped (.tuple ds) = true ∧ Q (.bl (ds.any fun z => PyData.eqv z d)) H
def rNotInDT (K : PySem.W.Frag) : R2 := fun x y H Q => ∃ d ds, Dp K H x d ∧ Dp K H y (.tuple ds) ∧ SeqAt.shaped d = true ∧ SeqAt.shaped (.tuple ds) = true ∧ Q (.bl (!ds.any fun z => PyData.eqv z d)) H
theorem op_inDT (hu : X.A.units + 65 < cLine) : OpR X (compareOp .In) (rInDT X.K) := by
  intro pins s σ H x y v u Q I rx ry h
  obtain ⟨d, ds, hd, he, sd, se, q⟩ := h
  obtain ⟨as, r1⟩ := Dp.reads I d x v hd rx
  obtain ⟨bs, r2⟩ := Dp.reads I (.tuple ds) y u he ry
  exact SeqAt.in_tuple_reads r2 r1 (SeqAt.canLay_of_shaped se) (SeqAt.canLay_of_shaped sd) (room_in_shaped sd hu) ⟨.bl _, H, I, rfl, q⟩
theorem op_notInDT (hu : X.A.units + 65 < cLine) : OpR X (compareOp .NotIn) (rNotInDT X.K) := by
  intro pins s σ H x y v u Q I rx ry h
  obtain ⟨d, ds, hd, he, sd, se, q⟩ := h
  obtain ⟨as, r1⟩ := Dp.reads I d x v hd rx
  obtain ⟨bs, r2⟩ := Dp.reads I (.tuple ds) y u he ry
  exact SeqAt.notIn_tuple_reads r2 r1 (SeqAt.canLay_of_shaped se) (SeqAt.canLay_of_shaped sd) (room_in_shaped sd hu) ⟨.bl _, H, I, rfl, q⟩
/-- * of two factors of together less than a hundred million bits -/
def CMulB (i j : Int) : Prop := Builtin.Int.intBits i + Builtin.Int.intBits j ≤ 100000000
theorem CMulB.ok {i j : Int} (h : CMulB i j) : IntMulOk i j := by
  have h3 : Builtin.Int.intBits i + Builtin.Int.intBits j ≤ 100000000 := h
  have e : bitsLine = 134217728 := by decide
  unfold IntMulOk
  intro z
  rw [Bool.and_eq_true] at z
  have z2 := z.2
  unfold Builtin.Int.intTooBig at z2
  have z3 := of_decide_eq_true z2
  rw [e] at z3
  omega
theorem op_mulB : OpR X (binaryOp .Mult) (rI CMulB fun i j => .int (i * j)) := opI fun _ _ _ _ _ _ _ hc q => mul_int q hc.ok
end

/-! ### enumerate of a tuple -/
set_option maxHeartbeats 2000000 in
theorem meets_enumerate_newT {v : Value} {o : Obj} {H : Heap → Prop} (B : Begins v o H) :
    Meets (Builtin.«enumerate.__new__» ⟨[.type "enumerate", v], []⟩) (fun _ R s => H s.heap ∧
      R (.ok (.ret (.ref (s.heap.push o).objs.size))) { s with heap := (s.heap.push o).push { cls := .type "enumerate", data := .fields #[.none, .bool false, .ref s.heap.objs.size, rawInt 0, .none, .none] } }) :=
  .of_wp fun prog w A R s h => by
    obtain ⟨hp, g, d, tk, os⟩ := s; obtain ⟨h1, h⟩ := h
    have hsub := sub_enumerate
    have q1 : ∀ {A' : Around} {E : Value → Shared → Prop} {Q : Value → Shared → Prop}, Q (.ref hp.objs.size) ⟨hp.push o, g, d, tk, os⟩ → wpAny (model prog w) A' (pyIter v) Q E ⟨hp, g, d, tk, os⟩ :=
      fun q => B.iter prog w _ _ ⟨hp, g, d, tk, os⟩ _ h1 q
    wp_walk using q1
    refine wpAny_stack_any fun st => wpAny_pure ?_
    split
    · rename_i c _ _ _ _ _
      cases (c == Value.type "enumerate")
      · wp_walk using q1
        exact ⟨_, rfl, h⟩
      · wp_walk using q1
        exact ⟨_, rfl, h⟩
    · wp_walk using q1
      exact ⟨_, rfl, h⟩
theorem enum_beginsT {prog : Program} {w : World} {A : Around} {E : Value → Shared → Prop} {s : Shared} {v : Value} {o : Obj} {H : Heap → Prop} {Q : Value → Shared → Prop} (B : Begins v o H) (h1 : H s.heap)
    (h : ∀ h', IsEnum h' (s.heap.objs.size + 1) s.heap.objs.size 0 .none → h'.get? s.heap.objs.size = some o → h'.objs.size = s.heap.objs.size + 2 →
      (∀ b o, s.heap.get? b = some o → h'.get? b = some o) → Q (.ref (s.heap.objs.size + 1)) { s with heap := h' }) :
    wpAny (model prog w) A (call (.type "enumerate") [v]) Q E s := by
  refine callType_new F.called_enumerate (by decide) (F.typeCall_enumerate_1 _) (F.newCall_enumerate_1 _) (fun obj => F.args_object_init_2 obj _) F.entry_enumerate_new
    (meets_enumerate_newT B) ⟨h1, ?_⟩
  have hz : (s.heap.push o).objs.size = s.heap.objs.size + 1 := Heap.size_push ..
  show _ ∧ _
  rw [hz]
  have he : IsEnum ((s.heap.push o).push { cls := .type "enumerate", data := .fields #[.none, .bool false, .ref s.heap.objs.size, rawInt 0, .none, .none] }) (s.heap.objs.size + 1) s.heap.objs.size 0 .none := by
    have := Heap.get?_push_size (s.heap.push o) (o := { cls := .type "enumerate", data := .fields #[.none, .bool false, .ref s.heap.objs.size, rawInt 0, .none, .none] }) rfl
    rw [hz] at this; exact this
  refine ⟨⟨_, he, rfl⟩, h _ he (Heap.get?_push_of_some _ (Heap.get?_push_size _ B.free)) (by rw [Heap.size_push, hz]) fun b o x => Heap.get?_push_of_some _ (Heap.get?_push_of_some _ x)⟩
theorem enum_endT {prog : Program} {w : World} {A : Around} {E : Value → Shared → Prop} {s : Shared} {e it l : Addr} {i : Nat} {items : Array Value} {old : Value} {Q : Option Value → Shared → Prop} (hh : A.handled = none)
    (he : IsEnum s.heap e it i old) (hit : s.heap.IsTupleIter it l i) (hl : s.heap.IsTuple l items) (hx : items[i]? = none)
    (hQ : ∀ h', Heap.ExtBut it s.heap h' → Q none { s with heap := h' }) : wpAny (model prog w) A (pyNext (.ref e)) Q E s := by
  have hT : s.TypeIs (.ref e) "enumerate" := ⟨_, he, rfl⟩
  unfold pyNext
  refine wpAny_bind (wpAny_attempt (wpAny_callSpecial?_slot (name := Str.ofString "__next__") hT F.slot_enumerate_next
    (wpAny_call_entry F.slot_enumerate_next hT F.entry_enumerate_next ?_ (F.args_enumerate_next_1 _))))
  show wpAny _ _ (field (.ref e) 2 >>= _) _ _ _
  refine wpAny_bind (wpAny_field he rfl (x := .ref it) rfl ?_)
  refine wpAny_bind (wpAny_nextOf_tuple_end hh hit hl hx fun h' x he' hx' => ?_)
  obtain ⟨o, ho, hc⟩ := hx'
  refine wpAny_bind (wpAny_isInstance (T := "StopIteration") (b := true) ⟨o, ho, hc⟩ isSubtype_stop ?_)
  exact wpAny_pure (hQ _ he')
/-- the tuple at a, its items in new pairs -/
def Itet (K : PySem.W.Frag) (a : Addr) : It :=
  ⟨fun i H => ∃ (xs : List V) (x : V), SqT K H a xs ∧ xs[i]? = some x, fun i H v H' => ∃ T x, v = .ref T ∧ H T = none ∧ H' = upd H T (.tup [.int (i : Nat), x]) ∧ ∀ xs, SqT K H a xs → xs[i]? = some x, fun i H => ∃ xs : List V, SqT K H a xs ∧ xs.length ≤ i⟩
theorem turn_enumT {P : Program} {w : World} {K : PySem.W.Frag} {elts : List Expr} {kk : Nat} {tpos : Pos} (a e it : Addr) (hai : a ≠ it) (hea : e ≠ a) :
    Turn P w K (.Tuple elts kk tpos) (Itet K a) [e, it] e (fun i h => (∃ old, IsEnum h e it ((i : Nat) : Int) old) ∧ h.IsTupleIter it a i ∧ e ≠ it) where
  mem := by simp
  obj := fun i h st b hb => by
    obtain ⟨⟨old, he⟩, ⟨o, ho, hc, hd⟩, _⟩ := st
    have e' : b = e ∨ b = it := by simpa using hb
    rcases e' with z | z
    · rw [z]; exact ⟨_, he, fun v q => nomatch q⟩
    · rw [z]; exact ⟨o, ho, fun v q => by rw [hd] at q; cases q⟩
  keep := fun i h h' st k => let ⟨⟨old, he⟩, hi, hne⟩ := st; ⟨⟨old, k e (by simp) _ he⟩, hi.at fun o q => k it (by simp) o q, hne⟩
  item := by
    intro X hP hw hK hc i pins s σ H E I hf st hg
    subst hP hw hK
    obtain ⟨⟨old, he⟩, hit, hne⟩ := st
    obtain ⟨xs, x, hq, hx⟩ := hg
    obtain ⟨its, rv, p, hz⟩ := I.tuple hq
    obtain ⟨u, hu, ru⟩ := rv.get hx
    have hel : e < s.heap.objs.size := Heap.lt_size he
    have hil : it < s.heap.objs.size := by obtain ⟨_, q, _⟩ := hit; exact Heap.lt_size q
    have hlt : i < its.toArray.size := by
      have := (List.getElem?_eq_some_iff.mp hu).1
      simpa using this
    have D := Draws.tuple (prog := X.prog) (w := X.w) (A := X.A.in1) (I.ok.hd hc) it a hai its.toArray
    refine wpAny_pyNext_enum_itemD D he ⟨hit, isTuple_of p⟩ hlt hne (by simp; exact ⟨hne, hea⟩) fun x' h' tk hP ho hst hT hsz hk => ?_
    have hxu : x' = u := by
      have h1 : its.toArray[i]? = some x' := hP
      have h2 : its.toArray[i]? = some u := by simpa using hu
      rw [h1] at h2
      exact Option.some.inj h2
    subst hxu
    refine ⟨_, rfl, wpAny_letOwnedTupleGo_enum (s := { s with heap := h', toks := tk + 1 }) ho fun h'' he' sb => ?_⟩
    have hT2 : h''.get? s.heap.objs.size = some { cls := .type "tuple", data := .seq #[.int i tk, x'] } := (sb.2 _ (Nat.ne_of_gt hel)).trans hT
    have new : ObjOk X.prog X.w (upd H s.heap.objs.size (.tup [.int (i : Nat), x])) h'' s.heap.objs.size (.tup [.int (i : Nat), x]) :=
      ⟨by show 2 ≤ sizeLine; decide, [.int i tk, x'], .cons ⟨_, rfl⟩ (.cons ru .nil), ⟨_, hT2, rfl, _, rfl⟩⟩
    have I1 : Inv X pins σ (upd H s.heap.objs.size (.tup [.int (i : Nat), x])) { s with heap := h'', toks := tk + 1 } :=
      I.turnedNew (ch := [e, it]) (fun b ob hb q => (sb.2 b (fun z => hb (by simp [z]))).trans (hk b ob (fun z => hb (by simp [z])) (fun z => hb (by simp [z])) q)) hf (Nat.le_refl _) new
    refine ⟨.ref s.heap.objs.size, _, I1, rfl, ⟨_, x, rfl, I.hok.fresh (Nat.le_refl _), rfl, fun ys hy => by rw [I.tuple_inj hy hq]; exact hx⟩, ⟨⟨x', ?_⟩, hst.1.at fun o q => (sb.2 it (Ne.symm hne)).trans q, hne⟩, fun b hb => ?_⟩
    · have e1 : ((i + 1 : Nat) : Int) = (i : Int) + 1 := by omega
      rw [e1]; exact he'
    · have hb' : b < s.heap.objs.size := by
        have e' : b = e ∨ b = it := by simpa using hb
        rcases e' with z | z
        · rw [z]; exact hel
        · rw [z]; exact hil
      rw [upd_ne (Nat.ne_of_lt hb')]
      exact (hf b hb).1
  done := by
    intro X hP hw hK hc i pins s σ H E I hf st hg
    subst hP hw hK
    obtain ⟨⟨old, he⟩, hit, hne⟩ := st
    obtain ⟨xs, hq, hx⟩ := hg
    obtain ⟨its, rv, p, hz⟩ := I.tuple hq
    obtain ⟨f0, f1, f2, f3, f4, f5⟩ := hf it (by simp)
    have hl := rv.length
    have hx2 : its.toArray[i]? = none := by
      apply Array.getElem?_eq_none
      simp only [List.size_toArray]
      omega
    exact enum_endT (I.ok.hd hc) he hit (isTuple_of p) hx2 fun h' eb => ⟨rfl, I.turned (t' := s.toks) (fun b o hb q => eb b o hb q) f0 f1 f3 f4 f5⟩
  self := fun A i s Q E st h => let ⟨⟨_, he⟩, _⟩ := st; wpAny_pyIter_enum he h
def iEnumT (K : PySem.W.Frag) (ta : TA) : TI := fun σ H R => ta σ H fun vs H1 => ∃ a xs, vs = [.ref a] ∧ SqT K H1 a xs ∧ R (Itet K a) H1
theorem pi_enumT {X : Cx} {e : Expr} {ta : TA} {p pos tpos : Pos} {elts : List Expr} {kk : Nat} (hg : Gl X "enumerate") (hm : X.mg "enumerate" = none) (ha : PA X [e] ta) (hs : starEach [e] X.env = [(false, eval e X.env)] := by rfl) :
    PI X (.Tuple elts kk tpos) (.Call (.Name "enumerate" p) [e] [] pos) (iEnumT X.K ta) := by
  refine ⟨fun pins s σ H R I h => ?_⟩
  refine Call_ (ld_blt I hg hm boot_enumerate (PyProof.Rows.callWith_type1 (thn (ha.run pos pins s σ H _ I h) fun us s1 ⟨vs, H1, I1, r1, q1⟩ => ?_) hs rfl))
  obtain ⟨a, xs, ex, hq, q⟩ := q1
  subst ex
  cases r1 with
  | cons r rr =>
    cases rr
    cases r
    obtain ⟨its, rv, p', hz⟩ := I1.tuple hq
    have hal : a < s1.heap.objs.size := by obtain ⟨o, ho, _⟩ := p'; exact Heap.lt_size ho
    refine enum_beginsT (begins_tuple a its.toArray) (isTuple_of p') fun h' he hit hsz hk => wpAny_pyIter_enum he ?_
    have I2 : Inv X pins σ H1 { s1 with heap := h' } := I1.kept (t' := s1.toks) hk
    refine ⟨s1.heap.objs.size + 1, [s1.heap.objs.size + 1, s1.heap.objs.size], _, _, H1, rfl, I2, turn_enumT a (s1.heap.objs.size + 1) s1.heap.objs.size (Nat.ne_of_lt hal) (Nat.ne_of_gt (Nat.lt_succ_of_lt hal)), ⟨⟨.none, he⟩, ⟨_, hit, rfl, rfl⟩, Nat.succ_ne_self _⟩, fun b hb => ?_, q⟩
    have e' : b = s1.heap.objs.size + 1 ∨ b = s1.heap.objs.size := by simpa using hb
    have hle : s1.heap.objs.size ≤ b := by
      rcases e' with z | z
      · rw [z]; exact Nat.le_add_right _ _
      · rw [z]; exact Nat.le_refl _
    exact I1.fpOk hle (I1.hok.fresh hle)
end Dx

namespace Dx
open PySem PySem.Spec PyProof.Rows L2
/-! ## operators, by kinds -/
section
variable {K : PySem.W.Frag} {k k1 k2 k3 : Kd} {ks ls : List Kd} {x y : V}
theorem op_I0 {g : Int → Int → V} {i j : Int} : Op (rI0 g) (kI i) (kI j) (kE (g i j)) := fun Hb H x y Q e (h1 : x = .int i) (h2 : y = .int j) q => ⟨i, j, h1, h2, q _ rfl⟩
theorem op_I {C : Int → Int → Prop} {g : Int → Int → V} {i j : Int} (c : C i j) : Op (rI C g) (kI i) (kI j) (kE (g i j)) := fun Hb H x y Q e (h1 : x = .int i) (h2 : y = .int j) q => ⟨i, j, h1, h2, c, q _ rfl⟩
theorem op_eqk {d e : PyData} (h1 : IsD K k1 d) (h2 : IsD K k2 e) (s1 : SeqAt.shaped d = true) (s2 : SeqAt.shaped e = true) : Op (rEqD K) k1 k2 (kB (PyData.eqv d e)) := fun Hb H x y Q ex p1 p2 q =>
  ⟨d, e, h1 _ _ (k1.up ex p1), h2 _ _ (k2.up ex p2), s1, s2, q _ rfl⟩
theorem op_nek {d e : PyData} (h1 : IsD K k1 d) (h2 : IsD K k2 e) (s1 : SeqAt.shaped d = true) (s2 : SeqAt.shaped e = true) : Op (rNeD K) k1 k2 (kB (!PyData.eqv d e)) := fun Hb H x y Q ex p1 p2 q =>
  ⟨d, e, h1 _ _ (k1.up ex p1), h2 _ _ (k2.up ex p2), s1, s2, q _ rfl⟩
theorem op_eqE (h : scal x y = true) : Op rEq (kE x) (kE y) (kB (decide (x = y))) := fun Hb H a b Q e (h1 : a = x) (h2 : b = y) q => by
  subst h1 h2
  exact ⟨h, q _ rfl⟩
theorem op_neE (h : scal x y = true) : Op rNe (kE x) (kE y) (kB (!decide (x = y))) := fun Hb H a b Q e (h1 : a = x) (h2 : b = y) q => by
  subst h1 h2
  exact ⟨h, q _ rfl⟩
/-- x is None -/
theorem op_isNk {b : Bool} (h : ∀ v H, k.p v H → decide (v = .non) = b) : Op (fun x y H Q => y = .non ∧ Q (.bl (decide (x = .non))) H) k kN (kB b) := fun Hb H a c Q e h1 (h2 : c = .non) q => ⟨h2, by rw [h a Hb h1]; exact q _ rfl⟩
theorem op_notNk {b : Bool} (h : ∀ v H, k.p v H → decide (v = .non) = b) : Op (fun x y H Q => y = .non ∧ Q (.bl (!decide (x = .non))) H) k kN (kB (!b)) := fun Hb H a c Q e h1 (h2 : c = .non) q => ⟨h2, by rw [h a Hb h1]; exact q _ rfl⟩
theorem at_kd {vs : List V} {H : Hp} {i : Int} (h : AllK H vs ks) (e : (ixN ks.length i).bind (fun j => ks[j]?) = some k) : ∃ v, atI vs i = some v ∧ k.p v H := by
  unfold atI
  rw [h.len]
  cases hj : ixN ks.length i with
  | none => rw [hj] at e; cases e
  | some j =>
    rw [hj] at e
    obtain ⟨v, h1, h2⟩ := h.get' (show ks[j]? = some k from e)
    exact ⟨v, h1, h2⟩
theorem op_ixT {i : Int} (e : (ixN ks.length i).bind (fun j => ks[j]?) = some k) : Op (rIxT K) (kT K ks) (kI i) k := fun Hb H x y Q ex ⟨a, xs, e1, e2, e3⟩ (h2 : y = .int i) q => by
  obtain ⟨v, h3, h4⟩ := at_kd e3 e
  exact ⟨a, xs, i, v, e1, h2, Same.sqT ex e2, h3, q v h4⟩
theorem op_ixS {i : Int} (e : (ixN ks.length i).bind (fun j => ks[j]?) = some k) : Op (rIxL K) (kS K ks) (kI i) k := fun Hb H x y Q ex ⟨a, xs, e1, e2, e3⟩ (h2 : y = .int i) q => by
  obtain ⟨v, h3, h4⟩ := at_kd e3 e
  exact ⟨a, xs, i, v, e1, h2, ex.seq e2, h3, q v h4⟩
theorem op_ixL {i : Int} (e : (ixN ks.length i).bind (fun j => ks[j]?) = some k) : Op (rIxL K) (kL ks) (kI i) k := fun Hb H x y Q ex h1 h2 q => op_ixS (K := K) e Hb H x y Q ex (kL_le_kS x Hb h1) h2 q
theorem allK_kE {H : Hp} : ∀ {vs xs : List V}, AllK H vs (xs.map kE) → vs = xs
  | [], [], _ => rfl
  | [], _ :: _, h => by cases h
  | _ :: _, [], h => by cases h
  | v :: vs, x :: xs, .cons h t => by
    have h1 : v = x := h
    rw [h1, allK_kE t]
theorem allK_of_kE {H : Hp} : ∀ (xs : List V), AllK H xs (xs.map kE)
  | [] => .nil
  | x :: xs => .cons rfl (allK_of_kE xs)
/-- x in t, all flat -/
theorem op_inT {neg : Bool} {xs : List V} (hx : flatV x = true) (hf : xs.all flatV = true) : Op (rIn K neg) (kE x) (kT K (xs.map kE)) (kB (if neg then !inV x xs else inV x xs)) := fun Hb H a b Q ex (h1 : a = x) ⟨p, vs, e1, e2, e3⟩ q => by
  subst h1
  have := allK_kE e3
  subst this
  exact ⟨p, vs, e1, .inr (Same.sqT ex e2), hx, hf, q _ rfl⟩
theorem op_inS {neg : Bool} {xs : List V} (hx : flatV x = true) (hf : xs.all flatV = true) : Op (rIn K neg) (kE x) (kS K (xs.map kE)) (kB (if neg then !inV x xs else inV x xs)) := fun Hb H a b Q ex (h1 : a = x) ⟨p, vs, e1, e2, e3⟩ q => by
  subst h1
  have := allK_kE e3
  subst this
  exact ⟨p, vs, e1, .inl (ex.seq e2), hx, hf, q _ rfl⟩
theorem op_inL {neg : Bool} {xs : List V} (hx : flatV x = true) (hf : xs.all flatV = true) : Op (rIn K neg) (kE x) (kL (xs.map kE)) (kB (if neg then !inV x xs else inV x xs)) := fun Hb H a b Q ex h1 h2 q => op_inS (K := K) hx hf Hb H a b Q ex h1 (kL_le_kS b Hb h2) q
/-- x in xs, data -/
theorem op_inDk {d : PyData} {ds : List PyData} (h1 : IsD K k1 d) (h2 : IsD K k2 (.list ds)) (s1 : SeqAt.shaped d = true) (s2 : SeqAt.shaped (.list ds) = true) : Op (rInD K) k1 k2 (kB (ds.any fun z => PyData.eqv z d)) := fun Hb H x y Q ex p1 p2 q =>
  ⟨d, ds, h1 _ _ (k1.up ex p1), h2 _ _ (k2.up ex p2), s1, s2, q _ rfl⟩
theorem op_notInDk {d : PyData} {ds : List PyData} (h1 : IsD K k1 d) (h2 : IsD K k2 (.list ds)) (s1 : SeqAt.shaped d = true) (s2 : SeqAt.shaped (.list ds) = true) : Op (rNotInD K) k1 k2 (kB (!ds.any fun z => PyData.eqv z d)) := fun Hb H x y Q ex p1 p2 q =>
  ⟨d, ds, h1 _ _ (k1.up ex p1), h2 _ _ (k2.up ex p2), s1, s2, q _ rfl⟩
theorem op_notInDTk {d : PyData} {ds : List PyData} (h1 : IsD K k1 d) (h2 : IsD K k2 (.tuple ds)) (s1 : SeqAt.shaped d = true) (s2 : SeqAt.shaped (.tuple ds) = true) : Op (rNotInDT K) k1 k2 (kB (!ds.any fun z => PyData.eqv z d)) := fun Hb H x y Q ex p1 p2 q =>
  ⟨d, ds, h1 _ _ (k1.up ex p1), h2 _ _ (k2.up ex p2), s1, s2, q _ rfl⟩
/-- xs + ys -/
theorem op_catk (hl : ks.length + ls.length ≤ 1000) : OpN rCat (kL ks) (kL ls) (ks ++ ls) := fun Hb H x y Q ex ⟨a, xs, e1, e2, e3⟩ ⟨b, ys, f1, f2, f3⟩ q =>
  ⟨a, b, xs, ys, e1, f1, ex _ _ e2, ex _ _ f2, by rw [e3.len, f3.len]; exact Nat.le_of_lt (small1000 hl), fun p hp => q p _ hp (e3.app f3)⟩
theorem un_neg1 {i : Int} : Un1 (rU fun i => .int (-i)) (kI i) (kI (-i)) := fun Hb H x Q e (h : x = .int i) q => ⟨i, h, q _ rfl⟩
/-- a is b, of truths -/
theorem op_isB {a b : Bool} : Op rIsB (kB a) (kB b) (kB (decide (a = b))) := fun Hb H x y Q e (h1 : x = .bl a) (h2 : y = .bl b) q => ⟨a, b, h1, h2, q _ rfl⟩

/-! ## built-ins, by kinds -/
theorem ca_len_T : Ca (fun xs H Q => ∃ p ys, xs = [.ref p] ∧ (SqL K H p ys ∨ SqT K H p ys) ∧ Q (.int ys.length) H) [kT K ks] (kI ks.length) := fun Hb H vs Q ex h q => by
  cases h with
  | cons h t =>
    cases t
    obtain ⟨a, xs, e1, e2, e3⟩ := h
    subst e1
    exact ⟨a, xs, rfl, .inr (Same.sqT ex e2), by rw [e3.len]; exact q _ rfl⟩
theorem ca_len_S : Ca (fun xs H Q => ∃ p ys, xs = [.ref p] ∧ (SqL K H p ys ∨ SqT K H p ys) ∧ Q (.int ys.length) H) [kS K ks] (kI ks.length) := fun Hb H vs Q ex h q => by
  cases h with
  | cons h t =>
    cases t
    obtain ⟨a, xs, e1, e2, e3⟩ := h
    subst e1
    exact ⟨a, xs, rfl, .inl (ex.seq e2), by rw [e3.len]; exact q _ rfl⟩
theorem ca_le1 {r : List V → Hp → VK → Prop} (h : Ca r [k2] k3) (e : k1.le k2) : Ca r [k1] k3 := fun Hb H vs Q ex a q => h Hb H vs Q ex (a.le (.cons e .nil)) q
theorem ca_len_L : Ca (fun xs H Q => ∃ p ys, xs = [.ref p] ∧ (SqL K H p ys ∨ SqT K H p ys) ∧ Q (.int ys.length) H) [kL ks] (kI ks.length) := ca_le1 ca_len_S kL_le_kS
theorem map_kI (ns : List Int) : ns.map kI = (ns.map V.int).map kE := by rw [List.map_map]; rfl
theorem map_kB (bs : List Bool) : bs.map kB = (bs.map V.bl).map kE := by rw [List.map_map]; rfl
theorem allK_ints {H : Hp} {vs : List V} {ns : List Int} (h : AllK H vs (ns.map kI)) : vs = ns.map V.int := by
  rw [map_kI] at h
  exact allK_kE h
theorem allK_bools {H : Hp} {vs : List V} {bs : List Bool} (h : AllK H vs (bs.map kB)) : vs = bs.map V.bl := by
  rw [map_kB] at h
  exact allK_kE h
theorem ca_sumS {ns : List Int} : Ca (rSum K) [kS K (ns.map kI)] (kI ns.sum) := fun Hb H vs Q ex h q => by
  cases h with
  | cons h t =>
    cases t
    obtain ⟨a, xs, e1, e2, e3⟩ := h
    subst e1
    have := allK_ints e3
    subst this
    exact ⟨a, ns, rfl, ex.seq e2, q _ rfl⟩
theorem ca_sumL {ns : List Int} : Ca (rSum K) [kL (ns.map kI)] (kI ns.sum) := ca_le1 ca_sumS kL_le_kS
theorem ca_sumT {ns : List Int} : Ca (rSumT K) [kT K (ns.map kI)] (kI ns.sum) := fun Hb H vs Q ex h q => by
  cases h with
  | cons h t =>
    cases t
    obtain ⟨a, xs, e1, e2, e3⟩ := h
    subst e1
    have := allK_ints e3
    subst this
    exact ⟨a, ns, rfl, Same.sqT ex e2, q _ rfl⟩
theorem ca_maxL {ns : List Int} {m : Int} (h0 : 0 < ns.length) (hm : ∀ z, z ∈ ns → (∀ y, y ∈ ns → y ≤ z) → z = m) : Ca (rMax K) [kL (ns.map kI)] (kI m) := fun Hb H vs Q ex h q => by
  cases h with
  | cons h t =>
    cases t
    obtain ⟨a, xs, e1, e2, e3⟩ := h
    subst e1
    have := allK_ints e3
    subst this
    exact ⟨a, ns, rfl, SqL.of (ex _ _ e2), h0, fun z h1 h2 => by rw [hm z h1 h2]; exact q _ rfl⟩
theorem ca_minL {ns : List Int} {m : Int} (h0 : 0 < ns.length) (hm : ∀ z, z ∈ ns → (∀ y, y ∈ ns → z ≤ y) → z = m) : Ca (rMin K) [kL (ns.map kI)] (kI m) := fun Hb H vs Q ex h q => by
  cases h with
  | cons h t =>
    cases t
    obtain ⟨a, xs, e1, e2, e3⟩ := h
    subst e1
    have := allK_ints e3
    subst this
    exact ⟨a, ns, rfl, SqL.of (ex _ _ e2), h0, fun z h1 h2 => by rw [hm z h1 h2]; exact q _ rfl⟩
theorem ca_maxT {ns : List Int} {m : Int} (h0 : 0 < ns.length) (hm : ∀ z, z ∈ ns → (∀ y, y ∈ ns → y ≤ z) → z = m) : Ca (rMaxT K) [kT K (ns.map kI)] (kI m) := fun Hb H vs Q ex h q => by
  cases h with
  | cons h t =>
    cases t
    obtain ⟨a, xs, e1, e2, e3⟩ := h
    subst e1
    have := allK_ints e3
    subst this
    exact ⟨a, ns, rfl, Same.sqT ex e2, h0, fun z h1 h2 => by rw [hm z h1 h2]; exact q _ rfl⟩
theorem ca_max2 {i j : Int} : Ca (fun xs H Q => ∃ i j, xs = [.int i, .int j] ∧ Q (.int (if j > i then j else i)) H) [kI i, kI j] (kI (if j > i then j else i)) := fun Hb H vs Q ex h q => by
  have := allK_kE (xs := [V.int i, V.int j]) h
  subst this
  exact ⟨i, j, rfl, q _ rfl⟩
theorem ca_abs {i : Int} : Ca (fun xs H Q => ∃ i, xs = [.int i] ∧ Q (.int (if i < 0 then -i else i)) H) [kI i] (kI (if i < 0 then -i else i)) := fun Hb H vs Q ex h q => by
  have := allK_kE (xs := [V.int i]) h
  subst this
  exact ⟨i, rfl, q _ rfl⟩
theorem ca_all {bs : List Bool} : Ca (rAll K) [kL (bs.map kB)] (kB (bs.all id)) := fun Hb H vs Q ex h q => by
  cases h with
  | cons h t =>
    cases t
    obtain ⟨a, xs, e1, e2, e3⟩ := h
    subst e1
    have := allK_bools e3
    subst this
    exact ⟨a, bs, rfl, SqL.of (ex _ _ e2), q _ rfl⟩
theorem ca_any {bs : List Bool} : Ca (rAny K) [kL (bs.map kB)] (kB (bs.any id)) := fun Hb H vs Q ex h q => by
  cases h with
  | cons h t =>
    cases t
    obtain ⟨a, xs, e1, e2, e3⟩ := h
    subst e1
    have := allK_bools e3
    subst this
    exact ⟨a, bs, rfl, SqL.of (ex _ _ e2), q _ rfl⟩
/-- sorted of whole numbers -/
theorem can_sortI {ns ms : List Int} (h : ∀ l : List Int, l.Perm ns → l.Pairwise (· ≤ ·) → l = ms) : CaN (rSortedI K) [kL (ns.map kI)] (ms.map kI) := fun Hb H vs Q ex a q => by
  cases a with
  | cons a t =>
    cases t
    obtain ⟨p, xs, e1, e2, e3⟩ := a
    subst e1
    have := allK_ints e3
    subst this
    refine ⟨p, ns, rfl, SqL.of (ex _ _ e2), fun l p' h1 h2 h3 => ?_⟩
    have := h l h1 h2
    subst this
    refine q p' _ h3 ?_
    rw [map_kI]
    exact allK_of_kE _
/-- tuple(xs), list(t) -/
theorem cau_tuple : CaU (fun xs H Q => ∃ p ys, xs = [.ref p] ∧ ((SqL K H p ys ∧ ∀ l, H l = none → Q (.ref l) (upd H l (.tup ys))) ∨ (SqT K H p ys ∧ Q (.ref p) H))) [kL ks] ks := fun Hb H vs Q ex a q => by
  cases a with
  | cons a t =>
    cases t
    obtain ⟨p, xs, e1, e2, e3⟩ := a
    subst e1
    exact ⟨p, xs, rfl, .inl ⟨SqL.of (ex _ _ e2), fun l hl => q l xs hl e3⟩⟩
theorem can_list : CaN (fun xs H Q => ∃ p ys, xs = [.ref p] ∧ (SqL K H p ys ∨ SqT K H p ys) ∧ ∀ l, H l = none → Q (.ref l) (upd H l (.lst ys))) [kT K ks] ks := fun Hb H vs Q ex a q => by
  cases a with
  | cons a t =>
    cases t
    obtain ⟨p, xs, e1, e2, e3⟩ := a
    subst e1
    exact ⟨p, xs, rfl, .inr (Same.sqT ex e2), fun l hl => q l xs hl e3⟩
/-- isinstance -/
def TyK (K : PySem.W.Frag) (k : Kd) (t : Value) : Prop := ∀ v H, k.p v H → TyX K H v t
theorem ca_isi {t u : Value} {c : V} {b : Bool} (hc : ClsV c u) (ht : TyK K k t) (h : PySem.W.kitOne K t u = some b) : Ca (rIsi K) [k, kE c] (kB b) := fun Hb H vs Q ex a q => by
  cases a with
  | cons a r =>
    cases r with
    | cons a2 r2 =>
      cases r2
      have e2 : _ = c := a2
      subst e2
      exact ⟨_, _, t, u, b, rfl, hc, ht _ _ (k.up ex a), h, q _ rfl⟩
theorem ty_int {i : Int} : TyK K (kI i) (.type "int") := fun v H (h : v = .int i) => by subst h; exact .base (.int i)
theorem ty_bl {b : Bool} : TyK K (kB b) (.type "bool") := fun v H (h : v = .bl b) => by subst h; exact .base (.bl b)
theorem ty_str {b : Str} : TyK K (kE (.str b)) (.type "str") := fun v H (h : v = .str b) => by subst h; exact .base (.str b)
theorem ty_non : TyK K kN (.type "NoneType") := fun v H (h : v = .non) => by subst h; exact .base .non
theorem ty_lst : TyK K (kL ks) (.type "list") := fun v H ⟨a, xs, h1, h2, h3⟩ => by subst h1; exact .base (.lst h2)
theorem ty_tup : TyK K (kT K ks) (.type "tuple") := fun v H ⟨a, xs, h1, h2, h3⟩ => by
  subst h1
  rcases h2 with (h2 | ⟨o, h2⟩) | ⟨o, its, n, h2, h4, _⟩
  · exact .base (.tup h2)
  · exact .fTuple h2
  · exact .kTuple h2 h4

/-! ## more that is walked -/
def enumK (K : PySem.W.Frag) : Nat → List Kd → List Kd
  | _, [] => []
  | n, k :: ks => kT K [kI (n : Nat), k] :: enumK K (n + 1) ks
theorem enumK_get : ∀ {ks : List Kd} {n i : Nat} {k : Kd}, (enumK K n ks)[i]? = some k → ∃ k', ks[i]? = some k' ∧ k = kT K [kI ((n + i : Nat) : Int), k']
  | [], _, _, _, h => by simp [enumK] at h
  | k' :: ks, n, 0, k, h => by
    have e : kT K [kI (n : Nat), k'] = k := Option.some.inj h
    exact ⟨k', rfl, e.symm⟩
  | _ :: ks, n, i + 1, k, h => by
    obtain ⟨k', h1, h2⟩ := enumK_get (ks := ks) (n := n + 1) (i := i) (k := k) h
    refine ⟨k', h1, ?_⟩
    rw [h2, show n + 1 + i = n + (i + 1) by omega]
theorem enumK_len : ∀ (ks : List Kd) (n : Nat), (enumK K n ks).length = ks.length
  | [], _ => rfl
  | _ :: ks, n => congrArg (· + 1) (enumK_len ks (n + 1))
theorem src_enumT {te : TE} {δ : List Sl} (h : EvD te δ (kT K ks)) : Src (iEnumT K (tCons te tNil)) δ (enumK K 0 ks) := fun H0 Hb H σ s R q => h H0 Hb H σ s _ fun Hb1 H1 v a e ⟨p, xs, e1, e2, e3⟩ => by
  refine ⟨p, xs, by rw [e1], Same.sqT e.ex e2, q Hb1 H1 _ a e ⟨fun i H hi s => ?_, fun H s => ?_, fun i H x H' k hk s y => .inr ?_⟩⟩
  · rw [enumK_len, ← e3.len] at hi
    exact ⟨xs, xs[i], Same.sqT s e2, List.getElem?_eq_getElem hi⟩
  · exact ⟨xs, Same.sqT s e2, by rw [enumK_len, e3.len]; exact Nat.le_refl _⟩
  · obtain ⟨T, z, y1, y2, y3, y4⟩ := y
    obtain ⟨k', h1, h2⟩ := enumK_get hk
    have hz := y4 xs (Same.sqT s e2)
    obtain ⟨k2, h3, h4⟩ := e3.get hz
    rw [h1] at h3
    cases h3
    refine .inl ⟨T, [.int (i : Nat), z], [kI (i : Nat), k'], K, y1, y2, y3, .cons rfl (.cons h4 .nil), ?_⟩
    rw [h2, Nat.zero_add]
    exact Kd.le.refl _
end

/-! ## a def's promise -/
def DoesE (E : XK) (t : TS) (δ : List Sl) (C : Addr) : Prop := ∀ (H0 Hb H : Hp) (σ : L2.St) (D : Ends), Sg H0 Hb H σ δ → (∀ H', Same H0 H' → E (.ref C) none H') → t D σ H
def EvE (E : XK) (te : TE) (δ : List Sl) (C : Addr) : Prop := ∀ (H0 Hb H : Hp) (σ : L2.St), Sg H0 Hb H σ δ → (∀ H', Same H0 H' → E (.ref C) none H') → ∀ Q : VK, te σ H Q
def DoesR (E : XK) (t : TS) (δ : List Sl) : Rs → Prop
  | .v k => Does t δ (.rt k) ∨ ∃ δ1, Does t δ (.nx δ1) ∧ kN.le k
  | .nl ks => Does t δ (.rn ks)
  | .er C => DoesE E t δ C
def argsδ (ks : List Kd) (n : Nat) : List Sl := ks.map .sh ++ List.replicate (n - ks.length) .no
theorem start_sg {H Hb : Hp} {N : List Str} {vs : List V} {ks : List Kd} (e : Same Hb H) (h : AllK Hb vs ks) : Sg H Hb H (L2.start N vs) (argsδ ks N.length) where
  ex := e
  fr := Same.refl _
  len := by
    unfold L2.start argsδ
    rw [List.length_append, List.length_append, List.length_map, List.length_map, List.length_replicate, List.length_replicate, h.len]
  sh := fun i k hk => by
    unfold argsδ at hk
    by_cases hi : i < ks.length
    · rw [List.getElem?_append_left (by simpa using hi), List.getElem?_map] at hk
      cases hq : ks[i]? with
      | none => rw [hq] at hk; cases hk
      | some k' =>
        rw [hq] at hk
        cases hk
        obtain ⟨v, h1, h2⟩ := h.get' hq
        refine ⟨v, ?_, h2⟩
        unfold L2.start
        rw [List.getElem?_append_left (by rw [List.length_map, h.len]; exact hi), List.getElem?_map, h1]
        rfl
    · rw [List.getElem?_append_right (by simpa using hi), List.getElem?_replicate] at hk
      split at hk <;> cases hk
  ow := fun i ls hk => by
    unfold argsδ at hk
    by_cases hi : i < ks.length
    · rw [List.getElem?_append_left (by simpa using hi), List.getElem?_map] at hk
      cases hq : ks[i]? with
      | none => rw [hq] at hk; cases hk
      | some k' => rw [hq] at hk; cases hk
    · rw [List.getElem?_append_right (by simpa using hi), List.getElem?_replicate] at hk
      split at hk <;> cases hk
  ne := fun a b ls ms p hk => by
    unfold argsδ at hk
    by_cases hi : a < ks.length
    · rw [List.getElem?_append_left (by simpa using hi), List.getElem?_map] at hk
      cases hq : ks[a]? with
      | none => rw [hq] at hk; cases hk
      | some k' => rw [hq] at hk; cases hk
    · rw [List.getElem?_append_right (by simpa using hi), List.getElem?_replicate] at hk
      split at hk <;> cases hk
section
variable {P : Program} {w : World} {K : PySem.W.Frag} {mg : Str → Option Value} {base : Heap}
/-- a def by its body -/
theorem fn_do {x qual : Str} {st : Stmt} {f : Addr} {fd : FuncData} {N ps : List Str} {k : Nat} {A : List Kd → Rs → Prop} (F : Fun K x qual st f fd) (S : FnScope N ps (defScope st)) (hl : ∀ ks r, A ks r → ks.length = ps.length)
    (body : ∀ (cdv : Value) (Ar : Around) (outer : List Env) (s : Shared) (H : Hp) (E : XK), Room k (Ar.deeper (envOfC qual (defScope st) s.heap.objs.size f cdv)) →
      ∃ t, PSs (cxOf (L2.CX P w) P w K mg base N qual (defScope st) f cdv Ar outer s H E) (defBody st) t ∧ ∀ ks r, A ks r → DoesR E t (argsδ ks N.length) r) :
    FnOk P w K mg base (L2.CX P w) (k + 1) f fd ps (spR A) := by
  refine F.okX S (fun vs H Q E h => ?_) (fun cdv Ar outer s H vs Q E hr h => ?_)
  · obtain ⟨Hb, ks, r, h1, h2, h3, _⟩ := h
    rw [h3.len]
    exact hl ks r h1
  · obtain ⟨Hb, ks, r, h1, h2, h3, h4⟩ := h
    obtain ⟨t, ht, hd⟩ := body cdv Ar outer s H E hr
    refine ⟨t, ht, ?_⟩
    have g : Sg H Hb H (L2.start N vs) (argsδ ks N.length) := start_sg h2 h3
    have d := hd ks r h1
    cases r with
    | v k =>
      rcases d with d | ⟨δ1, d, hk⟩
      · exact d H Hb H _ _ g fun Hb' H' v a b c e => h4 Hb' H' v a b c e
      · exact d H Hb H _ _ g fun Hb' H' σ' a b => h4 Hb' H' .non a b.ex b.fr (hk _ _ rfl)
    | nl ks => exact d H Hb H _ _ g fun Hb' H' p xs a b c e1 e2 e3 e4 => h4 Hb' H' p xs a b c e1 e2 e3 e4
    | er C => exact d H Hb H _ _ g h4
end
section
variable {δ δ1 : List Sl} {t u : TS} {c : TT} {b : Bool} {E : XK} {C : Addr} {te : TE} {ar : TA} {ks : List Kd} {A : List Kd → Rs → Prop}
theorem de_seq1 (h : DoesE E t δ C) : DoesE E (tSeq t u) δ C := fun H0 Hb H σ D s q => h H0 Hb H σ _ s q
theorem de_seq2 (h1 : Does t δ (.nx δ1)) (h2 : DoesE E u δ1 C) : DoesE E (tSeq t u) δ C := fun H0 Hb H σ D s q => h1 H0 Hb H σ _ s fun Hb' H' σ' a e => h2 H0 Hb' H' σ' D e q
theorem de_if (h : EvT c δ b) (h1 : b = true → DoesE E t δ C) (h2 : b = false → DoesE E u δ C) : DoesE E (tIfS c t u) δ C := fun H0 Hb H σ D s q => h H0 Hb H σ s _ fun Hb1 H1 a e => by
  cases b with
  | true => exact iteT (h1 rfl H0 Hb1 H1 σ D e q)
  | false => exact iteF (h2 rfl H0 Hb1 H1 σ D e q)
theorem de_drop (h : EvE E te δ C) : DoesE E (tDrop te) δ C := fun H0 Hb H σ D s q => h H0 Hb H σ s q _
theorem de_ret (h : EvE E te δ C) : DoesE E (tRet te) δ C := fun H0 Hb H σ D s q => h H0 Hb H σ s q _
theorem ee_call (h : EvA ar δ ks) (ha : A ks (.er C)) : EvE E (tCall (spR A) [] E ar) δ C := fun H0 Hb H σ s q Q => h H0 Hb H σ s _ fun Hb1 H1 vs a e f => by
  rw [app_nil']
  exact ⟨Hb1, ks, .er C, ha, e.ex, f, fun H' z => q H' (e.fr.trans z)⟩
/-- raise C('..') -/
theorem de_raise {W : WX} (hW : W = fun cls d _ H => E cls d H) : DoesE E (fun _ σ H => (fun _ H (Q : XK) => Q (.ref C) none H) σ H fun cls d H' => W cls d σ H') δ C := fun H0 Hb H σ D s q => by
  subst hW
  exact q H s.fr
end
end Dx

namespace Dx
open PySem PySem.Spec PyProof.Rows L2
/-! ## defs and facts of the top, bundled -/
structure CallD (P : Program) (w : World) (K : PySem.W.Frag) (mg : Str → Option Value) (base : Heap) (k : Nat) (x : Str) (sp : Sp) : Prop where
  ex : ∃ (f : Addr) (fd : FuncData) (ps : List Str), FnOk P w K mg base (L2.CX P w) k f fd ps sp ∧ mg x = some (.ref f) ∧ PySem.W.keepIn K (.ref f) = true ∧ Binds K fd ps []
structure DefAt (K : PySem.W.Frag) (mg : Str → Option Value) (x : Str) (st : Stmt) (ps : List Str) : Prop where
  ex : ∃ (f : Addr) (fd : FuncData), Fun K x x st f fd ∧ mg x = some (.ref f) ∧ Binds K fd ps []
section
variable {X : Cx} {j k : Nat} {x : Str} {sp : Sp} {e : Expr} {es : List Expr} {t : TA} {p pos : Pos}
theorem pe_d (c : CallD X.prog X.w X.K X.mg X.base k x sp) (hr : Room j X.A) (hk : k ≤ j) (ha : PA X (e :: es) t) (hg : Gl X x := by rfl) (hdb : (x == ("__debug__" : Str)) = false := by decide) (he : starEach (e :: es) X.env = (false, eval e X.env) :: starEach es X.env := by rfl) (hpl : (backTo pos (starEach es X.env)).any (·.1) = false := by rfl) :
    PE X (.Call (.Name x p) (e :: es) [] pos) (tCall sp [] E0 t) := by
  obtain ⟨f, fd, ps, F, hm, hkp, hb⟩ := c.ex
  exact pe_call F (hr.mono hk) hg hm hkp hb .nil passL ha hdb he hpl
theorem pe_dE {W : WX} {E : XK} (c : CallD X.prog X.w X.K X.mg X.base k x sp) (hr : Room j X.A) (hk : k ≤ j) (tk : Takes X W) (hW : ∀ cls d σ H, E cls d H → W cls d σ H) (ha : PA X (e :: es) t) (hg : Gl X x := by rfl) (hdb : (x == ("__debug__" : Str)) = false := by decide) (he : starEach (e :: es) X.env = (false, eval e X.env) :: starEach es X.env := by rfl) (hpl : (backTo pos (starEach es X.env)).any (·.1) = false := by rfl) :
    PE X (.Call (.Name x p) (e :: es) [] pos) (tCall sp [] E t) := by
  obtain ⟨f, fd, ps, F, hm, hkp, hb⟩ := c.ex
  exact pe_call F (hr.mono hk) hg hm hkp hb .nil (passes_call tk hW) ha hdb he hpl
theorem hu65 {A : Around} (r : Room k A) : A.units + 65 < cLine := by have := r.un; omega
end
section
variable {P : Program} {w : World} {K : PySem.W.Frag} {mg : Str → Option Value} {base : Heap}
theorem callD_of {x : Str} {st : Stmt} {N ps : List Str} {k : Nat} {A : List Kd → Rs → Prop} (D : DefAt K mg x st ps) (S : FnScope N ps (defScope st)) (hl : ∀ ks r, A ks r → ks.length = ps.length)
    (body : ∀ (f : Addr) (cdv : Value) (Ar : Around) (outer : List Env) (s : Shared) (H : Hp) (E : XK), Room k (Ar.deeper (envOfC x (defScope st) s.heap.objs.size f cdv)) →
      ∃ t, PSs (cxOf (L2.CX P w) P w K mg base N x (defScope st) f cdv Ar outer s H E) (defBody st) t ∧ ∀ ks r, A ks r → DoesR E t (argsδ ks N.length) r) :
    CallD P w K mg base (k + 1) x (spR A) := by
  obtain ⟨f, fd, F, hm, hb⟩ := D.ex
  exact ⟨f, fd, ps, fn_do F S hl (body f), hm, F.kp, hb⟩
theorem defAt_mk {x : Str} {st : Stmt} {ps : List Str} {h : Heap} {f : Addr} {oc : Value} {od an : Option Addr} {osl : Array (Option Value)} {kV doc pm cdv ct : Value} (X : K.In h) (G : h.Ns mainGlobals mg)
    (hb : ∀ (kV doc pm : Value) (an : Option Addr) (cdv ct : Value) (us : List Value), us.length = ps.length → bindArgs (PySem.W.fnOf x x (defArgs st) (defBody st) (defScope st) .none kV doc pm an cdv ct) ⟨us, []⟩ = pure (ps.zip us))
    (a : PySem.W.nsIn K mainGlobals x = some (some (.ref f))) (l : K.lookup f = some ⟨oc, od, .func (PySem.W.fnOf x x (defArgs st) (defBody st) (defScope st) .none kV doc pm an cdv ct), osl⟩) (c : PySem.W.codeIn K cdv x = true) (k : PySem.W.keepIn K (.ref f) = true) :
    DefAt K mg x st ps := by
  have F := fun_mk (st := st) l c k
  exact ⟨f, _, F, PySem.W.mg_of X G a, F.binds hb⟩
/-- an own error class over a built-in one, without an __init__ -/
structure ErrC (K : PySem.W.Frag) (mg : Str → Option Value) (x : Str) (C : Addr) : Prop where
  gP : mg x = some (.ref C)
  xP : PySem.W.excIn K C [.type "ValueError", .type "Exception", .type "BaseException", .type "object"] "ValueError.__new__" = true
  kP : PySem.W.keepIn K (.ref C) = true
  bP : PySem.W.subIn K (.ref C) (.type "BaseException") = some true
  tP : PySem.W.typeIn K (.ref C) = some (.type "type")
/-- the built-in names that the text uses are no names of the module -/
structure Bt (mg : Str → Option Value) : Prop where
  b_len : mg "len" = none
  b_isinstance : mg "isinstance" = none
  b_sum : mg "sum" = none
  b_max : mg "max" = none
  b_min : mg "min" = none
  b_abs : mg "abs" = none
  b_all : mg "all" = none
  b_any : mg "any" = none
  b_sorted : mg "sorted" = none
  b_list : mg "list" = none
  b_tuple : mg "tuple" = none
  b_range : mg "range" = none
  b_enumerate : mg "enumerate" = none
  b_int : mg "int" = none
  b_bool : mg "bool" = none
  b_str : mg "str" = none
  b_ValueError : mg "ValueError" = none
end
/-! ## the rules with the written part K by name -/
def rLenK (K : PySem.W.Frag) : List V → Hp → VK → Prop := fun xs H Q => ∃ p ys, xs = [.ref p] ∧ (SqL K H p ys ∨ SqT K H p ys) ∧ Q (.int ys.length) H
def rListK (K : PySem.W.Frag) : List V → Hp → VK → Prop := fun xs H Q => ∃ p ys, xs = [.ref p] ∧ (SqL K H p ys ∨ SqT K H p ys) ∧ ∀ l, H l = none → Q (.ref l) (upd H l (.lst ys))
def rTupleK (K : PySem.W.Frag) : List V → Hp → VK → Prop := fun xs H Q => ∃ p ys, xs = [.ref p] ∧ ((SqL K H p ys ∧ ∀ l, H l = none → Q (.ref l) (upd H l (.tup ys))) ∨ (SqT K H p ys ∧ Q (.ref p) H))
section
variable {X : Cx} {K : PySem.W.Frag} {k : Nat} {tg e a : Expr} {te : TE} {ta : TA} {p pos tpos : Pos} {elts : List Expr} {kk : Nat}
theorem op_inK  (hK : X.K = K) : OpR X (compareOp .In) (rIn K false) := by subst hK; exact op_in_seq
theorem op_notInK  (hK : X.K = K) : OpR X (compareOp .NotIn) (rIn K true) := by subst hK; exact op_notIn_seq
theorem op_eqK (hr : Room k X.A) (hK : X.K = K) : OpR X (compareOp .Eq) (rEqD K) := by subst hK; exact op_eqD hr.units
theorem op_neK (hr : Room k X.A) (hK : X.K = K) : OpR X (compareOp .NotEq) (rNeD K) := by subst hK; exact op_neD hr.units
theorem op_inDK (hr : Room k X.A) (hK : X.K = K) : OpR X (compareOp .In) (rInD K) := by subst hK; exact op_inD (hu65 hr)
theorem op_notInDK (hr : Room k X.A) (hK : X.K = K) : OpR X (compareOp .NotIn) (rNotInD K) := by subst hK; exact op_notInD (hu65 hr)
theorem op_inDTK (hr : Room k X.A) (hK : X.K = K) : OpR X (compareOp .In) (rInDT K) := by subst hK; exact op_inDT (hu65 hr)
theorem op_notInDTK (hr : Room k X.A) (hK : X.K = K) : OpR X (compareOp .NotIn) (rNotInDT K) := by subst hK; exact op_notInDT (hu65 hr)
theorem ix_seqK  (hK : X.K = K) : IxR X (rIx K) := by subst hK; exact ix_seq
theorem call_lenK  (hK : X.K = K) : CallR X (.builtin "len") (rLenK K) := by subst hK; exact call_len_seq
theorem call_isiK  (hK : X.K = K) : CallR X (.builtin "isinstance") (rIsi K) := by subst hK; exact call_isi
theorem cr_sumK (hc : X.calm = true) (hK : X.K = K) : CallR X (.builtin "sum") (rSum K) := by subst hK; exact cr_sum hc
theorem cr_sumTK (hc : X.calm = true) (hK : X.K = K) : CallR X (.builtin "sum") (rSumT K) := by subst hK; exact cr_sumT hc
theorem cr_maxK (hc : X.calm = true) (hK : X.K = K) : CallR X (.builtin "max") (rMax K) := by subst hK; exact cr_max hc
theorem cr_maxTK (hc : X.calm = true) (hK : X.K = K) : CallR X (.builtin "max") (rMaxT K) := by subst hK; exact cr_maxT hc
theorem cr_minK (hc : X.calm = true) (hK : X.K = K) : CallR X (.builtin "min") (rMin K) := by subst hK; exact cr_min hc
theorem cr_allK (hc : X.calm = true) (hK : X.K = K) : CallR X (.builtin "all") (rAll K) := by subst hK; exact cr_all hc
theorem cr_anyK (hc : X.calm = true) (hK : X.K = K) : CallR X (.builtin "any") (rAny K) := by subst hK; exact cr_any hc
theorem cr_sortedIK  (hK : X.K = K) : CallR X (.builtin "sorted") (rSortedI K) := by subst hK; exact cr_sortedI
theorem cr_sortedPOK  (hK : X.K = K) : CallR X (.builtin "sorted") (rSortedPO K) := by subst hK; exact cr_sortedPO
theorem call_listK  (hK : X.K = K) : CallR X (.type "list") (rListK K) := by subst hK; exact call_list_of
theorem call_tupleK  (hK : X.K = K) : CallR X (.type "tuple") (rTupleK K) := by subst hK; exact call_tuple_of
theorem sl_listK  (hK : X.K = K) : SlR X (rSlL K) := by subst hK; exact sl_list
theorem pi_listK (he : PE X e te) (hK : X.K = K) : PI X tg e (iList K te) := by subst hK; exact pi_list he
theorem pi_tupK (he : PE X e te) (hK : X.K = K) : PI X tg e (iTup K te) := by subst hK; exact pi_tup he
theorem pi_enumTK (hg : Gl X "enumerate") (hm : X.mg "enumerate" = none) (ha : PA X [e] ta) (hK : X.K = K) (hs : starEach [e] X.env = [(false, eval e X.env)] := by rfl) : PI X (.Tuple elts kk tpos) (.Call (.Name "enumerate" p) [e] [] pos) (iEnumT K ta) := by subst hK; exact pi_enumT hg hm ha hs
theorem pe_fldK {f : Str} (he : PE X e te) (hK : X.K = K) (hb : attributeBase e f X.env (eval e X.env) = eval e X.env := by rfl) : PE X (.Attribute e f pos) (tFld K te f) := by subst hK; exact pe_fld he hb
end
theorem pe_ty {X : Cx} {x : Str} {n : String} {pos : Pos} (hg : Gl X x) (hm : X.mg x = none) (hv : bootBuiltins x = some (.type n)) (hn : x ≠ "__name__" := by decide) (hdb : (x == ("__debug__" : Str)) = false := by decide) : PE X (.Name x pos) (tC (.ty n)) := pe_bltn hg hm hv rfl hn hdb
theorem pe_gref {X : Cx} {x : Str} {a : Addr} {pos : Pos} (hg : Gl X x) (hm : X.mg x = some (.ref a)) (hdb : (x == ("__debug__" : Str)) = false := by decide) : PE X (.Name x pos) (tC (.ref a)) := pe_glob hg hm rfl hdb
theorem pe_gint {X : Cx} {x : Str} {i : Int} {pos : Pos} (hg : Gl X x) (hm : ∃ t, X.mg x = some (.int i t)) (hdb : (x == ("__debug__" : Str)) = false := by decide) : PE X (.Name x pos) (tC (.int i)) := by
  obtain ⟨t, hm⟩ := hm
  exact pe_glob hg hm ⟨t, rfl⟩ hdb
/-! ## ends: kinds by equations -/
section
variable {K : PySem.W.Frag} {δ : List Sl} {te ta tb : TE} {t : TT} {x y : V} {b : Bool} {k k' : Kd} {ks ls : List Kd}
theorem kE_le (h : x = y) : (kE x).le (kE y) := h ▸ Kd.le.refl _
theorem ev_ite (h : EvT t δ b) (h1 : b = true → EvD ta δ (kE x)) (h2 : b = false → EvD tb δ (kE y)) : EvD (tIf t ta tb) δ (kE (if b = true then x else y)) :=
  ev_if h (fun e => ev_to (h1 e) (by rw [if_pos e])) fun e => ev_to (h2 e) (by rw [if_neg (by rw [e]; exact Bool.false_ne_true)])
/-- an item of a tuple or a list by its place -/
theorem op_ixqT {i : Int} (e : (ixN ks.length i).bind (fun j => ks[j]?) = some k) : Op (rIx K) (kT K ks) (kI i) k := fun Hb H x y Q ex h1 h2 q => .inr (.inl (op_ixT e Hb H x y Q ex h1 h2 q))
theorem op_ixqL {i : Int} (e : (ixN ks.length i).bind (fun j => ks[j]?) = some k) : Op (rIx K) (kL ks) (kI i) k := fun Hb H x y Q ex h1 h2 q => .inl (op_ixL e Hb H x y Q ex h1 h2 q)
theorem op_ixqS {i : Int} (e : (ixN ks.length i).bind (fun j => ks[j]?) = some k) : Op (rIx K) (kS K ks) (kI i) k := fun Hb H x y Q ex h1 h2 q => .inl (op_ixS e Hb H x y Q ex h1 h2 q)
theorem isds_ints : ∀ ns : List Int, IsDs K (ns.map kI) (ns.map PyData.int) := fun ns => isds_map (fun _ => isd_int) ns
theorem lc_ite {g : TG} {tt : TT} {vs ws : List Nat} {ys out : List Kd} {δ1 : List Sl} (hb : Bnd g ws k (wipeD δ vs) δ1) (hw : ∀ w ∈ ws, w ∈ vs) (ht : EvT tt δ1 b) (he : b = true → EvD te δ1 k') (r : LcRun g tt te vs δ ys out) : LcRun g tt te vs δ (k :: ys) (if b = true then k' :: out else out) := by
  cases b with
  | true => exact .keep hb hw ht (he rfl) r
  | false => exact .skip hb hw ht r
theorem ca_lenT : Ca (rLenK K) [kT K ks] (kI ks.length) := ca_len_T
theorem ca_lenL : Ca (rLenK K) [kL ks] (kI ks.length) := ca_len_L
theorem ca_lenS : Ca (rLenK K) [kS K ks] (kI ks.length) := ca_len_S
theorem cau_tupleK : CaU (rTupleK K) [kL ks] ks := cau_tuple
theorem can_listK : CaN (rListK K) [kT K ks] ks := can_list
end
end Dx

namespace Dx
open PySem PySem.Spec PyProof.Rows L2
section
variable {K : PySem.W.Frag} {δ δ1 δ2 : List Sl} {te ta tb ti : TE} {c : TT} {b : Bool} {x y : V} {k k' k1 k2 : Kd} {ks ls ys : List Kd} {t u t2 : TS} {o : Out} {i j : Nat} {E : XK} {C : Addr}
theorem d_seqif (h : EvT c δ b) (h1 : b = true → Does (tSeq t u) δ o) (h2 : b = false → Does (tSeq t2 u) δ o) : Does (tSeq (tIfS c t t2) u) δ o := fun H0 Hb H σ D s tk => h H0 Hb H σ s _ fun Hb1 H1 a e => by
  cases b with
  | true => exact iteT (h1 rfl H0 Hb1 H1 σ D e (tk.up a))
  | false => exact iteF (h2 rfl H0 Hb1 H1 σ D e (tk.up a))
/-- the test's answer is known to be no: what stands behind the if -/
theorem d_skip (h : EvT c δ b) (e : b = false) (h2 : Does u δ o) : Does (tSeq (tIfS c t tNext) u) δ o := by
  subst e
  exact d_seqif h (fun z => nomatch z) fun _ => d_seq d_next h2
theorem d_skip1 (h : EvT c δ b) (e : b = false) : Does (tIfS c t tNext) δ (.nx δ) := by
  subst e
  exact d_no h d_next
theorem d_setO (h : δ[i]? = some (.ow ks)) (hv : EvD te δ k) (hi : EvD ti δ (kI n)) (hj : ixN ks.length n = some j) : Does (tAsg te (gSub (tVar i) ti rSetL)) δ (.nx (δ.set i (.ow (ks.set j k)))) := fun H0 Hb H σ D s tk => by
  refine hv H0 Hb H σ s _ fun Hb1 H1 v a e q => ?_
  obtain ⟨p, xs, h1, h2, h3, h4, h5⟩ := e.ow i ks h
  refine ⟨.ref p, h1, hi H0 Hb1 H1 σ e _ fun Hb2 H2 w a2 e2 (q2 : w = .int n) => ?_⟩
  obtain ⟨p', xs', r1, r2, r3, r4, r5⟩ := e2.ow i ks h
  rw [h1] at r1
  cases r1
  refine ⟨p, xs', n, j, rfl, q2, r4, by rw [r5.len]; exact hj, ?_⟩
  have e3 : Sg H0 Hb2 (upd H2 p (.lst (xs'.set j v))) (σ.set i (some .non)) (δ.set i (.sh kAny)) := by
    have e1 := e2.set (i := i) (v := .non) (k := kAny) trivial
    refine ⟨fun b o z => ?_, fun b o z => ?_, e1.len, e1.sh, fun l ls z => ?_, e1.ne⟩
    · rw [upd_ne (fun y => by rw [y, r2] at z; cases z)]
      exact e1.ex b o z
    · rw [upd_ne (fun y => by rw [y, r3] at z; cases z)]
      exact e1.fr b o z
    · obtain ⟨p2, ys, w1, w2, w3, w4, w5⟩ := e1.ow l ls z
      have hne : p2 ≠ p := fun y => by
        subst y
        by_cases hj : i = l
        · subst hj
          have hh := (List.getElem?_eq_some_iff.mp z).1
          rw [List.getElem?_set_self (by rw [List.length_set] at hh; exact hh)] at z
          cases z
        · rw [List.getElem?_set_ne hj] at z w1
          exact hj (e2.ne i l ks ls p2 h z h1 w1)
      exact ⟨p2, ys, w1, w2, w3, by rw [upd_ne hne]; exact w4, w5⟩
  have e4 := e3.setO (i := i) (p := p) (xs := xs'.set j v) (ks := ks.set j k) r2 r3 upd_same (AllK.set (k.up a2.1 q) j r5) fun l ls z1 z2 => by
    by_cases hj : i = l
    · exact hj.symm
    · rw [List.getElem?_set_ne hj] at z1 z2
      exact (e2.ne i l ks ls p h z1 h1 z2).symm
  have w1 : (σ.set i (some V.non)).set i (some (V.ref p)) = σ := by rw [List.set_set]; exact set_same h1
  have w2 : (δ.set i (Sl.sh kAny)).set i (Sl.ow (ks.set j k)) = δ.set i (.ow (ks.set j k)) := List.set_set ..
  rw [w1, w2] at e4
  exact tk Hb2 _ σ (a.trans a2) e4
/-- a loop whose store stays what it is -/
theorem forRun_all {g : TG} {tb : TS} {S : List Sl} : ∀ ys : List Kd, (∀ k, k ∈ ys → ∃ ws δ1, Bnd g ws k S δ1 ∧ Does tb δ1 (.nx S)) → ForRun g tb ys S S
  | [], _ => .nil
  | k :: ys, h => by
    obtain ⟨ws, δ1, h1, h2⟩ := h k List.mem_cons_self
    exact .cons h1 h2 (forRun_all ys fun k' hk => h k' (List.mem_cons_of_mem _ hk))
/-- a thing of the written part -/
theorem ev_const {v : V} (h : ∀ H, k.p v H) : EvD (tC v) δ k := fun H0 Hb H σ g Q q => q Hb H v (Gr.refl _ _) g (h _)
/-- parts of a list -/
def EvO (to : TO) (δ : List Sl) (o : Option Int) : Prop := ∀ (H0 Hb H : Hp) (σ : L2.St), Sg H0 Hb H σ δ → ∀ Q : Option Int → Hp → Prop, (∀ Hb' H', Gr H0 Hb Hb' → Sg H0 Hb' H' σ δ → Q o H') → to σ H Q
theorem eo_no : EvO tNoPart δ none := fun H0 Hb H σ g Q q => q Hb H (Gr.refl _ _) g
theorem eo_some {z : Int} (h : EvD te δ (kI z)) : EvO (tPart te) δ (some z) := fun H0 Hb H σ g Q q => h H0 Hb H σ g _ fun Hb1 H1 v a e (hv : v = .int z) => ⟨z, hv, q Hb1 H1 a e⟩
theorem cut_to (xs : List V) (n : Nat) : cutV xs none (some (n : Int)) = xs.take n := by
  unfold cutV
  rw [HT.sIx_none, HT.sIx_nat, List.drop_zero, Nat.sub_zero]
  by_cases h : n ≤ xs.length
  · rw [Nat.min_eq_left h]
  · rw [Nat.min_eq_right (by omega), List.take_of_length_le (Nat.le_refl _), List.take_of_length_le (by omega)]
theorem allK_take {H : Hp} : ∀ {vs : List V} {ks : List Kd} (n : Nat), AllK H vs ks → AllK H (vs.take n) (ks.take n)
  | _, _, 0, _ => .nil
  | _, _, _ + 1, .nil => .nil
  | _, _, n + 1, .cons h t => .cons h (allK_take n t)
/-- xs[:n] -/
theorem en_upto {n : Nat} {tl th : TO} (h : EvD te δ (kS K ks)) (h1 : EvO tl δ none) (h2 : EvO th δ (some (n : Int))) : EvN (tSl (rSlL K) te tl th) δ (ks.take n) := fun H0 Hb H σ g Q q =>
  h H0 Hb H σ g _ fun Hb1 H1 v a e ⟨p, xs, e1, e2, e3⟩ => h1 H0 Hb1 H1 σ e _ fun Hb2 H2 a2 g2 => h2 H0 Hb2 H2 σ g2 _ fun Hb3 H3 a3 g3 =>
    ⟨p, xs, e1, g3.ex.seq ((a2.trans a3).1.seq e2), fun l hl => by
      rw [cut_to]
      exact q Hb3 _ l _ ((a.trans a2).trans a3) (g3.drop hl) (g3.hb hl) (g3.h0 hl) upd_same (allK_take n (e3.up (a2.trans a3).1)) (g3.notOwn hl)⟩
/-- an item by a reckoned place -/
theorem ixN_in {n : Nat} {z : Int} (h0 : 0 ≤ z) (h1 : z < n) : ixN n z = some z.toNat := by
  unfold ixN
  rw [if_pos h0, if_pos h1]
theorem at_ints {ns : List Int} {z : Int} (h0 : 0 ≤ z) (h1 : z < ns.length) : (ixN (ns.map kI).length z).bind (fun j => (ns.map kI)[j]?) = some (kI (ns.getD z.toNat 0)) := by
  rw [List.length_map, ixN_in h0 h1]
  show (ns.map kI)[z.toNat]? = _
  have hz : z.toNat < ns.length := by omega
  rw [List.getElem?_map, List.getD_eq_getElem?_getD, List.getElem?_eq_getElem hz]
  rfl
/-- in a written pair of numbers -/
theorem op_inI2 {z m n : Int} : Op (rIn K false) (kI z) (kT K [kI m, kI n]) (kB (decide (m = z) || decide (n = z))) := fun Hb H a b Q ex h1 h2 q => by
  refine op_inT (K := K) (neg := false) (x := .int z) (xs := [.int m, .int n]) rfl rfl Hb H a b Q ex h1 h2 fun v hv => q v ?_
  have e : (if false = true then !inV (.int z) [.int m, .int n] else inV (.int z) [.int m, .int n]) = (decide (m = z) || decide (n = z)) := by
    show ((m == z) || ((n == z) || false)) = _
    rw [Bool.or_false]
    rfl
  rw [e] at hv
  exact hv
end
/-! ## isinstance of built-in types -/
theorem kb_tuple_tuple : kitB "tuple" "tuple" = some true := by decide +kernel
theorem kb_tuple_list : kitB "tuple" "list" = some false := by decide +kernel
theorem kb_tuple_int : kitB "tuple" "int" = some false := by decide +kernel
theorem kb_tuple_bool : kitB "tuple" "bool" = some false := by decide +kernel
theorem kb_tuple_str : kitB "tuple" "str" = some false := by decide +kernel
theorem kb_list_tuple : kitB "list" "tuple" = some false := by decide +kernel
theorem kb_list_list : kitB "list" "list" = some true := by decide +kernel
theorem kb_list_int : kitB "list" "int" = some false := by decide +kernel
theorem kb_list_bool : kitB "list" "bool" = some false := by decide +kernel
theorem kb_list_str : kitB "list" "str" = some false := by decide +kernel
theorem kb_int_tuple : kitB "int" "tuple" = some false := by decide +kernel
theorem kb_int_list : kitB "int" "list" = some false := by decide +kernel
theorem kb_int_int : kitB "int" "int" = some true := by decide +kernel
theorem kb_int_bool : kitB "int" "bool" = some false := by decide +kernel
theorem kb_int_str : kitB "int" "str" = some false := by decide +kernel
theorem kb_bool_tuple : kitB "bool" "tuple" = some false := by decide +kernel
theorem kb_bool_list : kitB "bool" "list" = some false := by decide +kernel
theorem kb_bool_int : kitB "bool" "int" = some true := by decide +kernel
theorem kb_bool_bool : kitB "bool" "bool" = some true := by decide +kernel
theorem kb_bool_str : kitB "bool" "str" = some false := by decide +kernel
theorem kb_str_tuple : kitB "str" "tuple" = some false := by decide +kernel
theorem kb_str_list : kitB "str" "list" = some false := by decide +kernel
theorem kb_str_int : kitB "str" "int" = some false := by decide +kernel
theorem kb_str_bool : kitB "str" "bool" = some false := by decide +kernel
theorem kb_str_str : kitB "str" "str" = some true := by decide +kernel
theorem kb_NoneType_tuple : kitB "NoneType" "tuple" = some false := by decide +kernel
theorem kb_NoneType_list : kitB "NoneType" "list" = some false := by decide +kernel
theorem kb_NoneType_int : kitB "NoneType" "int" = some false := by decide +kernel
theorem kb_NoneType_bool : kitB "NoneType" "bool" = some false := by decide +kernel
theorem kb_NoneType_str : kitB "NoneType" "str" = some false := by decide +kernel
theorem kb_dict_tuple : kitB "dict" "tuple" = some false := by decide +kernel
theorem kb_dict_list : kitB "dict" "list" = some false := by decide +kernel
theorem kb_dict_int : kitB "dict" "int" = some false := by decide +kernel
theorem kb_dict_bool : kitB "dict" "bool" = some false := by decide +kernel
theorem kb_dict_str : kitB "dict" "str" = some false := by decide +kernel
/-! ## numbers below a power of two -/
def Nb (x : Int) (n : Nat) : Prop := x.natAbs < 2 ^ n
theorem Nb.bits {x : Int} {n : Nat} (h : Nb x n) : Builtin.Int.intBits x ≤ n := by
  unfold Builtin.Int.intBits
  split
  · exact Nat.zero_le _
  · rename_i h0
    have h1 : x.natAbs ≠ 0 := by
      intro e
      apply h0
      have : x = 0 := by omega
      rw [this]
      rfl
    exact (Nat.log2_lt h1).mpr h
theorem Nb.of_bits {x : Int} {n : Nat} (h : Builtin.Int.intBits x ≤ n) : Nb x n := by
  unfold Builtin.Int.intBits at h
  unfold Nb
  split at h
  · rename_i h0
    have : x = 0 := by simpa using h0
    rw [this]
    exact Nat.two_pow_pos n
  · rename_i h0
    have h1 : x.natAbs ≠ 0 := by
      intro e
      apply h0
      have : x = 0 := by omega
      rw [this]
      rfl
    exact (Nat.log2_lt h1).mp (by omega)
theorem Nb.mono {x : Int} {n m : Nat} (h : Nb x n) (e : n ≤ m) : Nb x m := Nat.lt_of_lt_of_le h (Nat.pow_le_pow_right (by decide) e)
theorem Nb.add {x y : Int} {n : Nat} (h : Nb x n) (h2 : Nb y n) : Nb (x + y) (n + 1) := by
  unfold Nb at *
  rw [Nat.pow_succ]
  omega
theorem Nb.mul {x y : Int} {n m : Nat} (h : Nb x n) (h2 : Nb y m) : Nb (x * y) (n + m) := by
  unfold Nb at *
  rw [Int.natAbs_mul, Nat.pow_add]
  exact Nat.mul_lt_mul'' h h2
theorem Nb.range {x : Int} {n : Nat} (h0 : 0 ≤ x) (h : x < 2 ^ n) : Nb x n := by
  unfold Nb
  have : ((2 ^ n : Nat) : Int) = (2 : Int) ^ n := by simp
  omega
theorem cmul_of {x y : Int} {n m : Nat} (h : Nb x n) (h2 : Nb y m) (e : n + m ≤ 100000000) : CMulB x y := by
  unfold CMulB
  have := h.bits
  have := h2.bits
  omega
end Dx

namespace Dx
open PySem PySem.Spec PyProof.Rows L2
/-! ## a tuple of which its own object is known: t.index(x) -/
def kF (ks : List Kd) : Kd := ⟨fun v H => ∃ (a : Addr) (o : Obj) (xs : List V), v = .ref a ∧ H a = some (.frz o (.tup xs)) ∧ o.cls = .type "tuple" ∧ o.dict = none ∧ AllK H xs ks, fun e ⟨a, o, xs, h1, h2, h3, h4, h5⟩ => ⟨a, o, xs, h1, e _ _ h2, h3, h4, h5.up e⟩⟩
theorem kF_le {K : PySem.W.Frag} {ks : List Kd} : (kF ks).le (kT K ks) := fun _ _ ⟨a, o, xs, h1, h2, _, _, h5⟩ => ⟨a, xs, h1, .inl (.inr ⟨o, h2⟩), h5⟩
def tTupF (t : TA) : TE := fun σ H Q => t σ H fun xs H1 => xs.length ≤ sizeLine ∧ ∀ p o, H1 p = none → o.cls = .type "tuple" → o.dict = none → Q (.ref p) (upd H1 p (.frz o (.tup xs)))
section
variable {X : Cx} {es : List Expr} {t : TA} {pos : Pos}
theorem pe_tupF {x1} (h : PA X es t) : PE X (.Tuple es x1 pos) (tTupF t) := by
  refine ⟨fun pins s σ H Q I hq => ?_⟩
  refine wpAny_Tuple_spliced (thn (h.run pos pins s σ H _ I hq) fun us s1 ⟨xs, H1, I1, r, z, q⟩ => ⟨by rw [← r.length]; exact z, ?_⟩)
  have hf : H1 s1.heap.objs.size = none := I1.hok.fresh (Nat.le_refl _)
  refine ⟨.ref s1.heap.objs.size, upd H1 s1.heap.objs.size (.frz { cls := .type "tuple", data := .seq us.toArray } (.tup xs)), I1.laid (t' := s1.toks) (fun b u e => Heap.get?_push_of_some _ e) (Nat.le_refl _) ?_, rfl, q _ _ hf rfl rfl⟩
  exact ⟨Heap.get?_push_size _ rfl, z, us, r, ⟨_, Heap.get?_push_size _ rfl, rfl, _, rfl⟩⟩
/-- t.index(i): t a tuple of numbers of which its own object is known -/
def tIdx (to : TE) (t : TA) : TE := fun σ H Q => to σ H fun x H1 => (∃ (a : Addr) (o : Obj) (ns : List Int), x = .ref a ∧ H1 a = some (.frz o (.tup (ns.map V.int))) ∧ o.cls = .type "tuple" ∧ o.dict = none ∧
  t σ H1 fun xs H2 => H2 a = some (.frz o (.tup (ns.map V.int))) ∧ ∃ i, xs = [.int i] ∧ i ∈ ns ∧ Q (.int (ns.idxOf i : Nat)) H2)
variable {o e : Expr} {to : TE} {apos cpos : Pos}
theorem pe_idx (ho : PE X o to) (ha : PA X (e :: es) t)
    (hbase : attributeBase o "index" X.env (eval o X.env) = eval o X.env := by rfl)
    (hfew : ((backTo cpos (starEach (e :: es) X.env)).all (fun x => !x.1) && (backToKw cpos (keywordEach [] X.env)).all (fun x => x.1.isSome)
      && decide ((e :: es).length + ([] : List Keyword).length + (if ([] : List Keyword).isEmpty then 0 else 1) < 30)) = true := by rfl)
    (hline : (apos.endLine == cpos.line) = true := by rfl) (hs : starEach (e :: es) X.env = (false, eval e X.env) :: starEach es X.env := by rfl) (hplain : (backTo cpos (starEach es X.env)).any (·.1) = false := by rfl) :
    PE X (.Call (.Attribute o "index" apos) (e :: es) [] cpos) (tIdx to t) := by
  refine ⟨fun pins s σ H Q I h => ?_⟩
  refine wpAny_Call_method_late hbase hfew hline rfl (thn (ho.run pins s σ H _ I h) fun v s1 ⟨x, H1, I1, r1, q1⟩ => ?_)
  obtain ⟨a, ob, ns, rfl, h1, h2, h3, q1⟩ := q1
  obtain rfl : v = .ref a := r1
  have e1 := (show ObjOk X.prog X.w H1 s1.heap a (.frz ob (.tup (ns.map V.int))) from I1.hok a _ h1).1
  refine ⟨"tuple", "tuple.index", PySem.F.plainAttrs_tuple, PySem.F.slot_tuple_index, PySem.F.type_tuple_index, ⟨ob, e1, h2⟩, fun b e2 => ?_, ?_⟩
  · cases e2
    exact ⟨ob, e1, h3⟩
  have hA := ha.run cpos pins s1 σ H1 _ I1 q1
  rw [hs] at hA ⊢
  refine Calls.callWith_builtin (by show (false || (backTo cpos (starEach es X.env)).any (·.1)) = false; rw [hplain] <;> rfl) (Calls.evalArgs_plain ?_)
  refine thn hA fun us s2 hq => ?_
  obtain ⟨vs, H2, I2, r2, g, i, rfl, hm, q2⟩ := hq
  obtain ⟨u, rfl, t2, rfl⟩ := vals1 r2
  obtain ⟨_, _, its, r, pl⟩ := (show ObjOk X.prog X.w H2 s2.heap a (.frz ob (.tup (ns.map V.int))) from I2.hok a _ g)
  exact SeqAt.tuple_index_ints (show s2.heap.IsTuple a its.toArray from pl) (r.ints) hm ⟨.int (ns.idxOf i : Nat), H2, I2.tok _, ⟨_, rfl⟩, q2⟩
end
section
variable {K : PySem.W.Frag} {δ : List Sl} {te : TE} {ar : TA} {ks : List Kd}
theorem ev_tupF (h : EvA ar δ ks) (hl : ks.length ≤ 1000) : EvD (tTupF ar) δ (kF ks) := fun H0 Hb H σ g Q q =>
  h H0 Hb H σ g _ fun Hb1 H1 vs a b c => ⟨by rw [c.len]; exact Nat.le_of_lt (small1000 hl), fun p o hp h1 h2 => q _ _ _ (a.trans (b.gr hp)) (b.alloc hp) ⟨p, o, vs, rfl, upd_same, h1, h2, c.up (same_upd (b.hb hp))⟩⟩
theorem ev_idx {ns : List Int} {i : Int} (h : EvD te δ (kF (ns.map kI))) (ha : EvA ar δ [kI i]) (hm : i ∈ ns) : EvD (tIdx te ar) δ (kI (ns.idxOf i : Nat)) := fun H0 Hb H σ g Q q =>
  h H0 Hb H σ g _ fun Hb1 H1 v a b ⟨p, o, xs, e1, e2, e3, e4, e5⟩ => by
    have := allK_ints e5
    subst this
    refine ⟨p, o, ns, e1, b.ex _ _ e2, e3, e4, ha H0 Hb1 H1 σ b _ fun Hb2 H2 vs a2 b2 c2 => ⟨b2.ex _ _ (a2.1 _ _ e2), i, ?_, hm, q _ _ _ (a.trans a2) b2 rfl⟩⟩
    cases c2 with
    | cons c t =>
      cases t
      rw [show _ = V.int i from c]
/-! ## a tuple of two numbers that the call has made -/
def kU (i j : Int) : Kd := ⟨fun v H => ∃ a, v = .ref a ∧ H a = some (.tup [.int i, .int j]), fun e ⟨a, h1, h2⟩ => ⟨a, h1, e _ _ h2⟩⟩
theorem kU_le {i j : Int} : (kU i j).le (kT K [kI i, kI j]) := fun _ _ ⟨a, h1, h2⟩ => ⟨a, _, h1, SqT.of h2, .cons rfl (.cons rfl .nil)⟩
theorem ev_tupU {i j : Int} (h : EvA ar δ [kI i, kI j]) : EvD (tTup ar) δ (kU i j) := fun H0 Hb H σ g Q q =>
  h H0 Hb H σ g _ fun Hb1 H1 vs a b c => ⟨by rw [c.len]; exact Nat.le_of_lt (small1000 (Nat.le_of_ble_eq_true rfl)), fun p hp => q _ _ _ (a.trans (b.gr hp)) (b.alloc hp) ⟨p, rfl, by
    rw [upd_same]
    cases c with
    | cons c1 t =>
      cases t with
      | cons c2 t =>
        cases t
        rw [show _ = V.int i from c1, show _ = V.int j from c2]⟩⟩
/-- the two numbers of a tracked pair -/
def prOf (H : Hp) (v : V) : Int × Int := match v with
  | .ref a => match H a with
    | some (.tup [.int i, .int j]) => (i, j)
    | _ => (0, 0)
  | _ => (0, 0)
theorem prOf_kU {H : Hp} {v : V} {i j : Int} (h : (kU i j).p v H) : prOf H v = (i, j) := by
  obtain ⟨a, rfl, h2⟩ := h
  simp only [prOf, h2]
abbrev lexLe (p q : Int × Int) : Prop := SrtO.lexB q p = false
def insL (p : Int × Int) : List (Int × Int) → List (Int × Int)
  | [] => [p]
  | q :: l => if SrtO.lexB q p = true then q :: insL p l else p :: q :: l
def isortL : List (Int × Int) → List (Int × Int)
  | [] => []
  | p :: l => insL p (isortL l)
theorem insL_perm (p : Int × Int) : ∀ l, (insL p l).Perm (p :: l)
  | [] => .refl _
  | q :: l => by
    unfold insL
    split
    · exact ((insL_perm p l).cons q).trans (.swap ..)
    · exact .refl _
theorem isortL_perm : ∀ l, (isortL l).Perm l
  | [] => .refl _
  | p :: l => (insL_perm p _).trans ((isortL_perm l).cons p)
theorem lexLe_trans {p q r : Int × Int} (h1 : lexLe p q) (h2 : lexLe q r) : lexLe p r := by
  have a := SrtO.lexB_no.mp h1
  have b := SrtO.lexB_no.mp h2
  refine SrtO.lexB_no.mpr ?_
  omega
theorem insL_sorted (p : Int × Int) : ∀ l, l.Pairwise lexLe → (insL p l).Pairwise lexLe
  | [], _ => by unfold insL; exact List.pairwise_singleton _ _
  | q :: l, h => by
    unfold insL
    have h1 := List.pairwise_cons.mp h
    split
    · rename_i c
      refine List.pairwise_cons.mpr ⟨fun x hx => ?_, insL_sorted p l h1.2⟩
      rcases List.mem_cons.mp ((insL_perm p l).mem_iff.mp hx) with rfl | hx
      · have := SrtO.lexB_iff.mp c
        exact SrtO.lexB_no.mpr (by omega)
      · exact h1.1 x hx
    · rename_i c
      have c' : lexLe p q := by
        cases hh : SrtO.lexB q p with
        | true => exact absurd hh c
        | false => exact hh
      refine List.pairwise_cons.mpr ⟨fun x hx => ?_, h⟩
      rcases List.mem_cons.mp hx with rfl | hx
      · exact c'
      · exact lexLe_trans c' (h1.1 x hx)
theorem isortL_sorted : ∀ l, (isortL l).Pairwise lexLe
  | [] => .nil
  | p :: l => insL_sorted p _ (isortL_sorted l)
theorem lex_uniq {l m : List (Int × Int)} (hp : l.Perm m) (hl : l.Pairwise lexLe) (hm : m.Pairwise lexLe) : l = m :=
  List.Perm.eq_of_pairwise (le := lexLe) (fun a b _ _ h1 h2 => by
    have a1 := SrtO.lexB_no.mp h1
    have a2 := SrtO.lexB_no.mp h2
    ext <;> omega) hl hm hp
/-- sorted of tracked pairs -/
theorem can_sortPO {ps : List (Int × Int)} : CaN (rSortedPO K) [kL (ps.map fun p => kU p.1 p.2)] ((isortL ps).map fun p => kU p.1 p.2) := fun Hb H vs Q ex a q => by
  cases a with
  | cons a t =>
    cases t
    obtain ⟨p, xs, e1, e2, e3⟩ := a
    subst e1
    have hx : ∀ (ps : List (Int × Int)) (xs : List V), AllK Hb xs (ps.map fun p => kU p.1 p.2) → xs.map (prOf Hb) = ps ∧ ∀ x ∈ xs, (kU (prOf Hb x).1 (prOf Hb x).2).p x Hb := by
      intro ps
      induction ps with
      | nil => intro xs h; cases h; exact ⟨rfl, fun _ z => nomatch z⟩
      | cons p ps ih =>
        intro xs h
        cases h with
        | cons h t =>
          obtain ⟨i1, i2⟩ := ih _ t
          have hp := prOf_kU h
          refine ⟨by rw [List.map_cons, i1, hp], fun x hx => ?_⟩
          rcases List.mem_cons.mp hx with rfl | hx
          · rw [hp]; exact h
          · exact i2 x hx
    obtain ⟨h1, h2⟩ := hx ps xs e3
    refine ⟨p, xs, prOf Hb, rfl, SqL.of (ex _ _ e2), fun x hx => ?_, fun ys p' hs hb hn => ?_⟩
    · obtain ⟨a, r1, r2⟩ := h2 x hx
      exact ⟨a, r1, ex _ _ r2⟩
    · refine q p' ys hn ?_
      have hy : ys.map (prOf Hb) = isortL ps := by
        refine lex_uniq ((hb.perm.map _).trans (h1 ▸ (isortL_perm ps).symm)) ?_ (isortL_sorted ps)
        refine List.pairwise_map.mpr ?_
        exact hs
      rw [← hy]
      have hall : ∀ y ∈ ys, (kU (prOf Hb y).1 (prOf Hb y).2).p y Hb := fun y hy => h2 y (hb.perm.mem_iff.mp hy)
      clear hy hs hb
      induction ys with
      | nil => exact .nil
      | cons y ys ih => exact .cons (hall y List.mem_cons_self) (ih fun z hz => hall z (List.mem_cons_of_mem _ hz))
/-- sorted of two numbers -/
theorem can_sort2 {i j : Int} : CaN (rSortedI K) [kL [kI i, kI j]] [kI (if i ≤ j then i else j), kI (if i ≤ j then j else i)] :=
  can_sortI (ns := [i, j]) (ms := [if i ≤ j then i else j, if i ≤ j then j else i]) fun l hp hs => by
    refine List.Perm.eq_of_pairwise (le := (· ≤ ·)) (fun a b _ _ h1 h2 => by omega) hs ?_ (hp.trans ?_)
    · split <;> simp <;> omega
    · split
      · exact .refl _
      · exact .swap ..
theorem cau_tupleN {ks : List Kd} : CaU (rTupleK K) [kL ks] ks := cau_tuple
end
theorem kds_refl : ∀ ks : List Kd, Paired Kd.le ks ks
  | [] => .nil
  | k :: ks => .cons (Kd.le.refl k) (kds_refl ks)
theorem sl_refl : ∀ s : Sl, Sl.le s s
  | .no => trivial
  | .sh k => Kd.le.refl k
  | .ow ks => kds_refl ks
end Dx

namespace Dx
open PySem PySem.Spec PyProof.Rows L2
/-! ## own classes -/
/-- a class whose __init__ is object's -/
structure MkO (K : PySem.W.Frag) (C : Addr) : Prop where
  makes : PySem.W.makesIn K C = true
  init : PySem.W.findIn K (.ref C) "__init__" = some (some (.builtin "object.__init__"))
  kp : PySem.W.keepIn K (.ref C) = true
/-- what isinstance and attributes ask of the class -/
structure ClsI (K : PySem.W.Frag) (C : Addr) : Prop where
  c : Cls K C
  a : PySem.W.findIn K (.ref C) "__class__" = some (some (.builtin "object.__class__"))
  n : PySem.W.specialIn K (.builtin "object.__class__") "__get__" = some (some (.builtin "getset_descriptor.__get__"))
  t : PySem.W.takesIn K (.builtin "object.__class__") = some true
  m : PySem.W.mroIn K C (.type "object") = some true
def tNew (C : Addr) : TE := fun _ H Q => ∀ x dx, H x = none → H dx = none → dx ≠ x → Q (.ref x) (upd (upd H dx (.own x)) x (.ins C dx []))
section
variable {X : Cx} {C : Addr} {x : Str} {p pos : Pos}
theorem run_makeO {pins : List (Addr × Obj)} {σ : L2.St} {H : Hp} {s : Shared} {Q : VK} (M : MkO X.K C) (I : Inv X pins σ H s)
    (h : ∀ x dx, H x = none → H dx = none → dx ≠ x → Q (.ref x) (upd (upd H dx (.own x)) x (.ins C dx []))) : wpAny (model X.prog X.w) X.A (call (.ref C) []) (EP X pins σ Q) X.xe s := by
  have hq := h (s.heap.objs.size + 1) s.heap.objs.size (I.hok.fresh (Nat.le_succ _)) (I.hok.fresh (Nat.le_refl _)) (Nat.ne_of_lt (Nat.lt_succ_self _))
  have I2 := Inv.made (C := C) I
  refine wpAny_call (make_map0 I.kIn M.makes M.init (fun self => PySem.W.Looks.of_pure (PySem.W.oi_bind self)) ?_)
  have e2 : ((s.heap.push PySem.W.emptyDict).push (PySem.W.instObj C s.heap.objs.size)).get? (s.heap.objs.size + 1) = some (PySem.W.instObj C s.heap.objs.size) := by
    have e := Heap.get?_push_size (s.heap.push PySem.W.emptyDict) (o := PySem.W.instObj C s.heap.objs.size) rfl
    rw [Heap.size_push] at e
    exact e
  have top := (PySem.W.makes_of (M := model X.prog X.w) I.kIn M.makes).top.keeps (h' := (s.heap.push PySem.W.emptyDict).push (PySem.W.instObj C s.heap.objs.size)) fun b o e => Heap.get?_push_of_some _ (Heap.get?_push_of_some _ e)
  have ty : PySem.W.Looks (model X.prog X.w) ((s.heap.push PySem.W.emptyDict).push (PySem.W.instObj C s.heap.objs.size)) (typeOf (.ref (s.heap.objs.size + 1))) (.ref C) := (PySem.W.Looks.ld e2).andThen .now
  have inst : PySem.W.Looks (model X.prog X.w) ((s.heap.push PySem.W.emptyDict).push (PySem.W.instObj C s.heap.objs.size)) (isInstance (.ref (s.heap.objs.size + 1)) (.type "object")) true := ty.andThen top
  refine PySem.codeAny_call_builtin PySem.W.oi_plain PySem.W.entry_oi (@PySem.W.check_slot (model X.prog X.w) _ _ _ "object.__init__" "object" "__init__" (.ref (s.heap.objs.size + 1)) [] [] _ PySem.W.oi_kind PySem.W.oi_split inst (PySem.W.oi_args _) ?_)
  rw [PySem.W.oi_run]
  exact wpAny_pure (And.intro rfl ⟨.ref (s.heap.objs.size + 1), _, I2, rfl, hq⟩)
theorem pe_makeO (M : MkO X.K C) (hg : Gl X x) (hm : X.mg x = some (.ref C)) (hdb : (x == ("__debug__" : Str)) = false := by decide) : PE X (.Call (.Name x p) [] [] pos) (tNew C) :=
  ⟨fun pins s σ H Q I h => wpAny_Call_Name_kw (ld_glob I hg hm (PySem.W.callWith_K0 I.kIn M.kp (run_makeO M I h)) hdb)⟩
end
section
variable {K : PySem.W.Frag} {δ : List Sl} {ar : TA} {te : TE} {C : Addr} {v : V} {f : Str} {fs : List (Str × V)}
theorem upd_twice {H : Hp} {x : Addr} {o o' : HO} : upd (upd H x o) x o' = upd H x o' := funext fun b => by
  by_cases hb : b = x
  · subst hb; rw [upd_same, upd_same]
  · rw [upd_ne hb, upd_ne hb, upd_ne hb]
/-- two new objects: the dict's mark, the instance -/
theorem upd_own {H : Hp} {x dx : Addr} {o o' : HO} (hx : H x = none) (hd : H dx = none) (ne : dx ≠ x) : (upd H dx o) x = none := by rw [upd_ne (Ne.symm ne)]; exact hx
theorem ev_new : EvD (tNew C) δ (kO C []) := fun H0 Hb H σ g Q q x dx hx hd ne => by
  have hx2 := upd_own (o := .own x) (o' := .own x) hx hd ne
  exact q _ _ _ ((g.gr hd).trans ((g.alloc (o := .own x) hd).gr (o := .ins C dx []) hx2)) ((g.alloc (o := .own x) hd).alloc (o := .ins C dx []) hx2) ⟨x, dx, rfl, upd_same⟩
/-- __init__ that stores its one argument in the attribute f -/
def spInit (C : Addr) (f : Str) : Sp := fun vs H Q _ => ∃ a dx v, vs = [.ref a, v] ∧ H a = some (.ins C dx []) ∧ Q .non (upd H a (.ins C dx [(f, v)]))
theorem ev_make {E : XK} (h : EvA ar δ [kE v]) : EvD (tMake C (spInit C f) [] E ar) δ (kO C [(f, v)]) := fun H0 Hb H σ g Q q => h H0 Hb H σ g _ fun Hb1 H1 vs a b c x dx hx hd ne => by
  cases c with
  | cons c t =>
    cases t
    have c : _ = v := c
    subst c
    refine ⟨x, dx, _, rfl, upd_same, rfl, ?_⟩
    have hx2 := upd_own (o := .own x) (o' := .own x) hx hd ne
    rw [upd_twice]
    exact q _ _ _ (a.trans ((b.gr hd).trans ((b.alloc (o := .own x) hd).gr (o := .ins C dx [(f, _)]) hx2))) ((b.alloc (o := .own x) hd).alloc (o := .ins C dx [(f, _)]) hx2) ⟨x, dx, rfl, upd_same⟩
/-- isinstance of an instance of an own class -/
theorem ca_isiO {D : Addr} {b : Bool} (c : ClsI K C) (k : PySem.W.kitOne K (.ref C) (.ref D) = some b) : Ca (rIsi K) [kO C fs, kE (.ref D)] (kB b) := fun Hb H vs Q ex h q => by
  cases h with
  | cons h t =>
    cases t with
    | cons h2 t =>
      cases t
      obtain ⟨a, dx, e1, e2⟩ := h
      subst e1
      have h2 : _ = V.ref D := h2
      subst h2
      exact ⟨_, _, _, _, b, rfl, .own D, .base (.ins (ex _ _ e2) c.c c.a c.n c.t c.m), k, q _ rfl⟩
/-- a, b = a list -/
theorem b_lst {gs : TGs} {n : Nat} {ws : List Nat} {ks : List Kd} {δ1 : List Sl} (h : BndS gs ws ks δ δ1) (hn : ks.length = n) : Bnd (gLst K n gs) ws (kL ks) δ δ1 := ⟨h.1, fun H0 Hb H σ x s ⟨a, xs, e1, e2, e3⟩ Q q =>
  ⟨a, xs, e1, SqL.of (s.ex _ _ e2), e3.len.trans hn, h.2 H0 Hb H σ xs s e3 Q q⟩⟩
theorem cut_but1 (xs : List V) (x : V) : cutV (xs ++ [x]) none (some (-1)) = xs := by
  unfold cutV
  have e : HT.sIx (xs ++ [x]).length (xs ++ [x]).length (some (-1)) = xs.length := by
    unfold HT.sIx
    rw [List.length_append, List.length_singleton]
    simp
    omega
  rw [e, HT.sIx_none, List.drop_zero, Nat.sub_zero, List.take_left']
  rfl
/-- xs[:-1] -/
theorem en_but1 {k : Kd} {ks : List Kd} {tl th : TO} (h : EvD te δ (kL (ks ++ [k]))) (h1 : EvO tl δ none) (h2 : EvO th δ (some (-1))) : EvN (tSl (rSlL K) te tl th) δ ks := fun H0 Hb H σ g Q q =>
  h H0 Hb H σ g _ fun Hb1 H1 v a e ⟨p, xs, e1, e2, e3⟩ => h1 H0 Hb1 H1 σ e _ fun Hb2 H2 a2 g2 => h2 H0 Hb2 H2 σ g2 _ fun Hb3 H3 a3 g3 => by
    refine ⟨p, xs, e1, SqL.of (g3.ex _ _ ((a2.trans a3).1 _ _ e2)), fun l hl => ?_⟩
    have e4 := e3.up (a2.trans a3).1
    have hl2 := e4.len
    rw [List.length_append, List.length_singleton] at hl2
    obtain ⟨ys, y, rfl⟩ : ∃ ys y, xs = ys ++ [y] := by
      cases hx : xs.reverse with
      | nil =>
        have : xs = [] := List.reverse_eq_nil_iff.mp hx
        subst this
        simp at hl2
      | cons y ys => exact ⟨ys.reverse, y, by rw [← List.reverse_reverse xs, hx, List.reverse_cons]⟩
    rw [cut_but1]
    rw [List.length_append, List.length_singleton] at hl2
    have e5 := allK_take ys.length e4
    rw [List.take_left' rfl, List.take_left' (by omega)] at e5
    exact q Hb3 _ l _ ((a.trans a2).trans a3) (g3.drop hl) (g3.hb hl) (g3.h0 hl) upd_same e5 (g3.notOwn hl)
end
end Dx

namespace Dx
open PySem PySem.Spec PyProof.Rows L2
/-! ## own classes in the text: names, methods, makers -/
structure OwnC (K : PySem.W.Frag) (mg : Str → Option Value) (x : Str) (C : Addr) : Prop where
  gC : mg x = some (.ref C)
  i : ClsI K C
/-- a method of the class at C -/
structure DefM (K : PySem.W.Frag) (C : Addr) (m qual : Str) (st : Stmt) (ps : List Str) : Prop where
  ex : ∃ (f : Addr) (fd : FuncData), Fun K m qual st f fd ∧ Meth K C m f ∧ Binds K fd ps []
structure MethD (P : Program) (w : World) (K : PySem.W.Frag) (mg : Str → Option Value) (base : Heap) (k : Nat) (C : Addr) (m : Str) (sp : Sp) : Prop where
  ex : ∃ (f : Addr) (fd : FuncData) (ps : List Str), FnOk P w K mg base (L2.CX P w) k f fd ps sp ∧ Meth K C m f ∧ Binds K fd ps []
structure DefI (K : PySem.W.Frag) (C : Addr) (qual : Str) (st : Stmt) (ps : List Str) : Prop where
  ex : ∃ (f : Addr) (fd : FuncData), Fun K "__init__" qual st f fd ∧ Mk K C f ∧ Binds K fd ps []
structure MakeD (P : Program) (w : World) (K : PySem.W.Frag) (mg : Str → Option Value) (base : Heap) (k : Nat) (C : Addr) (sp : Sp) : Prop where
  ex : ∃ (f : Addr) (fd : FuncData) (ps : List Str), FnOk P w K mg base (L2.CX P w) k f fd ps sp ∧ Mk K C f ∧ Binds K fd ps []
section
variable {X : Cx} {j k : Nat} {x m : Str} {sp : Sp} {e o : Expr} {es : List Expr} {ta : TE} {t : TA} {p pos apos : Pos} {C : Addr}
theorem pe_mkD (c : MakeD X.prog X.w X.K X.mg X.base k C sp) (hr : Room j X.A) (hk : k + 1 ≤ j) (hg : Gl X x) (hm : X.mg x = some (.ref C)) (ha : PA X (e :: es) t) (hdb : (x == ("__debug__" : Str)) = false := by decide)
    (he : starEach (e :: es) X.env = (false, eval e X.env) :: starEach es X.env := by rfl) (hpl : (backTo pos (starEach es X.env)).any (·.1) = false := by rfl) : PE X (.Call (.Name x p) (e :: es) [] pos) (tMake C sp [] E0 t) := by
  obtain ⟨f, fd, ps, F, M, hb⟩ := c.ex
  exact pe_make M F (hr.mono hk) hg hm hb .nil passL ha hdb he hpl
theorem pe_md {pl : Sem Bool} (c : MethD X.prog X.w X.K X.mg X.base k C m sp) (cl : Cls X.K C) (hr : Room j X.A) (hk : k ≤ j) (he : PE X o ta) (ha : PA X (e :: es) t)
    (hst : starEach (e :: es) X.env = (false, eval e X.env) :: starEach es X.env := by rfl) (hpl : (backTo pos (starEach es X.env)).any (·.1) = false := by rfl)
    (ht : eval (.Call (.Attribute o m apos) (e :: es) [] pos) X.env = (do
      let ov ← eval o X.env
      standAt apos.atName
      let (f, first) ← holding [ov] (getMethod ov m pl)
      callWith pos f first (backTo pos (starEach (e :: es) X.env)) (backToKw pos (keywordEach [] X.env))) := by rfl) :
    PE X (.Call (.Attribute o m apos) (e :: es) [] pos) (tMeth C m sp [] E0 ta t) := by
  obtain ⟨f, fd, ps, F, M, hb⟩ := c.ex
  exact pe_meth he cl M F (hr.mono hk) hb .nil passL ha hst hpl ht
end
section
variable {P : Program} {w : World} {K : PySem.W.Frag} {mg : Str → Option Value} {base : Heap} {C : Addr} {m qual : Str} {st : Stmt}
theorem methD_of {N ps : List Str} {k : Nat} {A : List Kd → Rs → Prop} (D : DefM K C m qual st ps) (S : FnScope N ps (defScope st)) (hl : ∀ ks r, A ks r → ks.length = ps.length)
    (body : ∀ (f : Addr) (cdv : Value) (Ar : Around) (outer : List Env) (s : Shared) (H : Hp) (E : XK), Room k (Ar.deeper (envOfC qual (defScope st) s.heap.objs.size f cdv)) →
      ∃ t, PSs (cxOf (L2.CX P w) P w K mg base N qual (defScope st) f cdv Ar outer s H E) (defBody st) t ∧ ∀ ks r, A ks r → DoesR E t (argsδ ks N.length) r) :
    MethD P w K mg base (k + 1) C m (spR A) := by
  obtain ⟨f, fd, F, M, hb⟩ := D.ex
  exact ⟨f, fd, ps, fn_do F S hl (body f), M, hb⟩
/-- def __init__(self, p): self.f = p -/
theorem makeD_of {p f : Str} (D : DefI K C qual st ["self", p]) (S : FnScope ["self", p] ["self", p] (defScope st)) (cl : Cls K C) (na : NoAttr K C f)
    (body : ∀ (g : Addr) (cdv : Value) (Ar : Around) (outer : List Env) (s : Shared) (H : Hp) (E : XK), PSs (cxOf (L2.CX P w) P w K mg base ["self", p] qual (defScope st) g cdv Ar outer s H E) (defBody st) (sFld K (tVar 0) (tVar 1) f)) : MakeD P w K mg base 1 C (spInit C f) := by
  obtain ⟨g, fd, F, M, hb⟩ := D.ex
  refine ⟨g, fd, ["self", p], F.okX S (fun vs H Q E h => ?_) (fun cdv Ar outer s H vs Q E hr h => ⟨_, body g cdv Ar outer s H E, ?_⟩), M, hb⟩
  · obtain ⟨a, dx, v, rfl, _⟩ := h
    rfl
  · obtain ⟨a, dx, v, rfl, h1, h2⟩ := h
    exact ⟨v, rfl, .ref a, rfl, a, C, dx, [], rfl, h1, cl, na, Nat.le_of_ble_eq_true rfl, h2⟩
theorem defM_mk {ps : List Str} {f : Addr} {oc : Value} {od an : Option Addr} {osl : Array (Option Value)} {kV doc pm cdv ct : Value}
    (hb : ∀ (kV doc pm : Value) (an : Option Addr) (cdv ct : Value) (us : List Value), us.length = ps.length → bindArgs (PySem.W.fnOf m qual (defArgs st) (defBody st) (defScope st) .none kV doc pm an cdv ct) ⟨us, []⟩ = pure (ps.zip us))
    (a : PySem.W.findIn K (.ref C) m = some (some (.ref f))) (l : K.lookup f = some ⟨oc, od, .func (PySem.W.fnOf m qual (defArgs st) (defBody st) (defScope st) .none kV doc pm an cdv ct), osl⟩) (c : PySem.W.codeIn K cdv qual = true) (k : PySem.W.keepIn K (.ref f) = true) (i : PySem.W.isFn K (.ref f) = true) :
    DefM K C m qual st ps := by
  have F := fun_mk (st := st) l c k
  exact ⟨f, _, F, ⟨a, i, k⟩, F.binds hb⟩
theorem defI_mk {ps : List Str} {f : Addr} {oc : Value} {od an : Option Addr} {osl : Array (Option Value)} {kV doc pm cdv ct : Value}
    (hb : ∀ (kV doc pm : Value) (an : Option Addr) (cdv ct : Value) (us : List Value), us.length = ps.length → bindArgs (PySem.W.fnOf "__init__" qual (defArgs st) (defBody st) (defScope st) .none kV doc pm an cdv ct) ⟨us, []⟩ = pure (ps.zip us))
    (mk : PySem.W.makesIn K C = true) (a : PySem.W.findIn K (.ref C) "__init__" = some (some (.ref f))) (l : K.lookup f = some ⟨oc, od, .func (PySem.W.fnOf "__init__" qual (defArgs st) (defBody st) (defScope st) .none kV doc pm an cdv ct), osl⟩) (c : PySem.W.codeIn K cdv qual = true) (k : PySem.W.keepIn K (.ref f) = true) (i : PySem.W.isFn K (.ref f) = true) (kC : PySem.W.keepIn K (.ref C) = true) :
    DefI K C qual st ps := by
  have F := fun_mk (st := st) l c k
  exact ⟨f, _, F, ⟨mk, a, i, kC⟩, F.binds hb⟩
end
end Dx

namespace Dx
open PySem PySem.Spec PyProof.Rows L2
/-! ## dicts whose keys are tuples -/
abbrev DK := List (List Key × V)
abbrev kK (k : Key) : Kd := kE (kV k)
/-- a dict that stands still -/
def kD (kvs : DK) : Kd := ⟨fun v H => ∃ (d : Addr) (od : Obj), v = .ref d ∧ H d = some (.frz od (.dT kvs)), fun e ⟨d, od, h1, h2⟩ => ⟨d, od, h1, e _ _ h2⟩⟩
theorem nt_dT {kvs : DK} : NT (some (.dT kvs)) := ⟨fun z => (nomatch z), fun _ z => (nomatch z)⟩
theorem allK_kK {H : Hp} : ∀ k : List Key, AllK H (k.map kV) (k.map kK)
  | [] => .nil
  | _ :: r => .cons rfl (allK_kK r)
theorem allK_kK_eq {H : Hp} : ∀ {k : List Key} {xs : List V}, AllK H xs (k.map kK) → xs = k.map kV
  | [], _, h => by cases h; rfl
  | a :: r, _, h => by
    cases h with
    | cons h t =>
      have h : _ = kV a := h
      rw [h, allK_kK_eq t]
      rfl
/-- e, its dict frozen from here on -/
def tFrz (t : TE) : TE := fun σ H Q => t σ H fun x H1 => ∃ d u, x = .ref d ∧ H1 d = some u ∧ Mut (some u) ∧ ∀ od, Q x (upd H1 d (.frz od u))
/-- {k: v}, k a tuple -/
def tDisp1 (tk tv : TE) : TE := fun σ H Q => ∀ p, H p = none → tk σ (upd H p (.dT [])) fun y H1 => tv σ H1 fun v H2 => H2 p = some (.dT []) ∧ ∃ (b : Addr) (ks : List Key), y = .ref b ∧ H2 b = some (.tup (ks.map kV)) ∧ Q (.ref p) (upd H2 p (.dT [(ks, v)]))
section
variable {X : Cx} {k v e : Expr} {tk tv t : TE} {pos : Pos}
theorem pe_frz (h : PE X e t) : PE X e (tFrz t) := by
  refine ⟨fun pins s σ H Q I hw => thn (h.run pins s σ H _ I hw) fun u s1 ⟨x, H1, I1, r, d, w, ex, hd, mu, q⟩ => ?_⟩
  obtain ⟨od, I2⟩ := I1.lock hd mu
  exact ⟨x, _, I2, r, q od⟩
theorem pe_disp1 (hu : X.A.units + 1 < cLine) (hk : PE X k tk) (hv : PE X v tv) : PE X (.Dict [some k] [v] pos) (tDisp1 tk tv) := by
  refine ⟨fun pins s σ H Q I q => ?_⟩
  have hn := I.hok.fresh (Nat.le_refl s.heap.objs.size)
  have I1 := I.laid (a := s.heap.objs.size) (o := .dT []) (h' := s.heap.push { cls := .type "dict", data := .dict #[] }) (t' := s.toks) (fun _ _ q => Heap.get?_push_of_some _ q) (Nat.le_refl _) (dt_empty s.heap I.big)
  rw [arm_eval_Dict, zip_pairTrees [some k] [v] X.env pos rfl rfl, dictDisplay_pairs (pairTrees [some k] [v] X.env pos) (by intro z; cases z) (Nat.le_of_ble_eq_true rfl)]
  refine wpAny_bind (wpAny_standAt (wpAny_bind (wpAny_subDictH (knd := tupleKind (mixKind X.prog X.w)) (Nat.lt_of_succ_lt hu) (Nat.le_of_ble_eq_true rfl) ?_)))
  refine pairTrees_cons_walk (thn (hk.run pins _ σ _ _ I1 (q _ hn)) fun kv s1 ⟨y, H1, I2, ry, q1⟩ => thn (hv.run pins s1 σ H1 _ I2 q1) fun vv s2 ⟨x, H2, I3, rx, e, b, ks, ey, eb, q2⟩ => pairTrees_nil_walk ?_)
  subst ey
  obtain rfl : kv = Value.ref b := ry
  obtain ⟨z, hd, xs, rel, dd⟩ := dt_of I3.hok e
  cases rel
  refine ⟨[(ks, b, vv)], ⟨rfl, rfl, key_of I3.hok eb, trivial⟩, dd, fun h' tk dd' hs => wpAny_pure ⟨.ref s.heap.objs.size, upd H2 s.heap.objs.size (.dT [(ks, x)]), ?_, rfl, q2⟩⟩
  obtain ⟨qo, es, ep, hq, h2, h3, h4, _, h5⟩ := dd'
  have ok : ObjOk X.prog X.w (upd H2 s.heap.objs.size (.dT [(ks, x)])) h' s.heap.objs.size (.dT [(ks, x)]) := by
    refine ⟨?_, hd, [(ks, b, vv)], .cons ⟨rfl, ?_, rx⟩ .nil, qo, es, ep, hq, h2, h3, h4, h5⟩
    · rw [sizeLine_eq]; show 1 ≤ 16777216; decide
    · show upd H2 _ _ b = _
      rw [upd_ne (ne_of eb e (fun z => nomatch z))]
      exact eb
  exact d_write I3 (by rw [e]; exact True.intro) hs ⟨qo, hq⟩ ok
end
end Dx

namespace Dx
open PySem PySem.Spec PyProof.Rows L2
/-! ## a dict of a def's own, in the slot i; reading one that stands still -/
section
variable {K : PySem.W.Frag} {δ δ1 δ2 δ' : List Sl} {te ta tb ty td : TE} {ar : TA} {k : List Key} {ks ys : List Kd} {kvs kvs1 kvs2 : DK} {v : V} {i j l : Nat} {t u : TS} {g : TG} {wi : TI} {c : TT}
theorem ev_tupTr (h : EvA ar δ ks) (hl : ks.length ≤ 1000) : EvD (tTup ar) δ (kTr ks) := fun H0 Hb H σ g Q q =>
  h H0 Hb H σ g _ fun Hb1 H1 vs a b c => ⟨by rw [c.len]; exact Nat.le_of_lt (small1000 hl), fun p hp => q _ _ _ (a.trans (b.gr hp)) (b.alloc hp) ⟨p, vs, rfl, upd_same, c.up (same_upd (b.hb hp))⟩⟩
theorem ev_cbUTr {r : List V → Hp → VK → Prop} {ls : List Kd} (h : EvA ar δ ks) (o : CaU r ks ls) : EvD (tCB r ar) δ (kTr ls) := fun H0 Hb H σ g Q q =>
  h H0 Hb H σ g _ fun Hb1 H1 vs a b c => o Hb1 H1 vs Q b.ex c fun p xs hp hx => q _ _ _ (a.trans (b.gr hp)) (b.alloc hp) ⟨p, xs, rfl, upd_same, hx.up (same_upd (b.hb hp))⟩
theorem key_tr {H : Hp} {b : V} (h : (kTr (k.map kK)).p b H) : ∃ a, b = .ref a ∧ H a = some (.tup (k.map kV)) := by
  obtain ⟨a, xs, h1, h2, h3⟩ := h
  rw [allK_kK_eq h3] at h2
  exact ⟨a, h1, h2⟩
/-- k in d -/
theorem ev_din (h1 : EvD ty δ (kTr (k.map kK))) (h2 : EvD td δ (kD kvs)) : EvD (tDIn ty td) δ (kB (valV kvs k).isSome) := fun H0 Hb H σ g Q q =>
  h1 H0 Hb H σ g _ fun Hb1 H1 y a b e => h2 H0 Hb1 H1 σ b _ fun Hb2 H2 x a2 b2 ⟨d, od, e1, e2⟩ => by
    obtain ⟨n, e3, e4⟩ := key_tr ((kTr (k.map kK)).up a2.1 e)
    exact ⟨d, valV kvs k, e1, .inr ⟨kvs, k, n, .inr ⟨od, b2.ex _ _ e2⟩, e3, b2.ex _ _ e4, rfl⟩, q _ _ _ (a.trans a2) b2 rfl⟩
/-- d[k] -/
theorem ev_dget (h1 : EvD td δ (kD kvs)) (h2 : EvD ty δ (kTr (k.map kK))) (hv : valV kvs k = some v) : EvD (tDGet td ty) δ (kE v) := fun H0 Hb H σ g Q q =>
  h1 H0 Hb H σ g _ fun Hb1 H1 x a b e => h2 H0 Hb1 H1 σ b _ fun Hb2 H2 y a2 b2 e2 => by
    obtain ⟨d, od, e1, e0⟩ := (kD kvs).up a2.1 e
    obtain ⟨n, e3, e4⟩ := key_tr e2
    exact ⟨d, v, e1, .inr ⟨kvs, k, n, .inr ⟨od, b2.ex _ _ e0⟩, e3, b2.ex _ _ e4, hv.symm⟩, q _ _ _ (a.trans a2) b2 rfl⟩
/-- for k in d -/
theorem src_keys (h : EvD te δ (kD kvs)) : Src (iKeys te) δ (kvs.map fun kv => kTr (kv.1.map kK)) := fun H0 Hb H σ s R q => h H0 Hb H σ s _ fun Hb1 H1 x a e ⟨d, od, e1, e2⟩ => by
  have e3 := e.ex _ _ e2
  refine ⟨d, od, e1, .inr ⟨kvs, e3, q Hb1 H1 _ a e ⟨fun n H hn s => ?_, fun H s => ?_, fun n H x H' kd hk s y => ?_⟩⟩⟩
  · exact ⟨s _ _ e2, by rw [List.length_map] at hn; exact hn⟩
  · exact ⟨s _ _ e2, by rw [List.length_map]; exact Nat.le_refl _⟩
  · obtain ⟨y1, kk, vv, qq, y2, y3, y4⟩ := y
    rw [List.getElem?_map, y2] at hk
    cases hk
    exact .inr (.inr ⟨qq, kk.map kV, kk.map kK, y3, y4, y1, allK_kK kk, Kd.le.refl _⟩)
/-! ### statements that change it -/
abbrev dAt (δ : List Sl) (i : Nat) (d : Addr) : List Sl := δ.set i (.sh (kE (.ref d)))
def DoesD (i : Nat) (t : TS) (δ : List Sl) (kvs : DK) (δ' : List Sl) (kvs' : DK) : Prop := ∀ (H0 Hb H : Hp) (σ : L2.St) (D : Ends) (d : Addr), Sg H0 Hb H σ (dAt δ i d) → H d = some (.dT kvs) → Hb d = none → H0 d = none →
  (∀ Hb' H' σ', Gr H0 Hb Hb' → Sg H0 Hb' H' σ' (dAt δ' i d) → H' d = some (.dT kvs') → Hb' d = none → D.nx σ' H') → t D σ H
def DoesDR (i : Nat) (t : TS) (δ : List Sl) (kvs : DK) (k : Kd) : Prop := ∀ (H0 Hb H : Hp) (σ : L2.St) (D : Ends) (d : Addr), Sg H0 Hb H σ (dAt δ i d) → H d = some (.dT kvs) → Hb d = none → H0 d = none →
  (∀ Hb' H' v, Gr H0 Hb Hb' → Same Hb' H' → Same H0 H' → k.p v Hb' → D.rt v H') → t D σ H
theorem Sg.noOwnD {H0 Hb H : Hp} {σ : L2.St} {d : Addr} (s : Sg H0 Hb H σ δ) (hd : H d = some (.dT kvs)) : ¬ Owns σ δ d := by
  rintro ⟨j, ls, e1, e2⟩
  obtain ⟨p, xs, h1, _, _, h4, _⟩ := s.ow j ls e1
  rw [h1] at e2
  cases e2
  rw [hd] at h4
  cases h4
/-- what does not touch the dict -/
theorem dd_frame (h : ∀ d, Does t (dAt δ i d) (.nx (dAt δ' i d))) : DoesD i t δ kvs δ' kvs := fun H0 Hb H σ D d s hd hb h0 tk => by
  have s1 := s.frame hd h0 (s.noOwnD hd)
  refine h d _ Hb H σ D s1 fun Hb' H' σ' a s2 => ?_
  exact tk Hb' H' σ' (a.mono (same_upd h0)) (s2.unframe h0) (s2.fr d _ upd_same) (a.2 d (by rw [upd_same]; exact nt_dT) hb)
theorem dd_seq (h1 : DoesD i t δ kvs δ1 kvs1) (h2 : DoesD i u δ1 kvs1 δ2 kvs2) : DoesD i (tSeq t u) δ kvs δ2 kvs2 := fun H0 Hb H σ D d s hd hb h0 tk =>
  h1 H0 Hb H σ _ d s hd hb h0 fun Hb' H' σ' a s1 hd1 hb1 => h2 H0 Hb' H' σ' D d s1 hd1 hb1 h0 fun Hb2 H2 σ2 a2 => tk Hb2 H2 σ2 (a.trans a2)
theorem dd_seqR {kd : Kd} (h1 : DoesD i t δ kvs δ1 kvs1) (h2 : DoesDR i u δ1 kvs1 kd) : DoesDR i (tSeq t u) δ kvs kd := fun H0 Hb H σ D d s hd hb h0 tk =>
  h1 H0 Hb H σ _ d s hd hb h0 fun Hb' H' σ' a s1 hd1 hb1 => h2 H0 Hb' H' σ' D d s1 hd1 hb1 h0 fun Hb2 H2 v a2 => tk Hb2 H2 v (a.trans a2)
theorem dd_weak (h : DoesD i t δ kvs δ1 kvs1) (w : ∀ d, Paired Sl.le (dAt δ1 i d) (dAt δ2 i d)) : DoesD i t δ kvs δ2 kvs1 := fun H0 Hb H σ D d s hd hb h0 tk =>
  h H0 Hb H σ D d s hd hb h0 fun Hb' H' σ' a s1 => tk Hb' H' σ' a (s1.weak (w d))
theorem dd_pre (h : DoesD i t δ1 kvs δ2 kvs1) (w : ∀ d, Paired Sl.le (dAt δ i d) (dAt δ1 i d)) : DoesD i t δ kvs δ2 kvs1 := fun H0 Hb H σ D d s => h H0 Hb H σ D d (s.weak (w d))
/-- if k not in d: t -/
theorem dd_ifnot (hi : i < δ.length) (hj : ∀ d, EvD ty (dAt δ i d) (kTr (k.map kK))) (h1 : valV kvs k = none → DoesD i t δ kvs δ1 kvs1) (h2 : valV kvs k ≠ none → δ = δ1 ∧ kvs = kvs1) : DoesD i (tIfS (tB (tDNotIn ty (tVar i))) t tNext) δ kvs δ1 kvs1 := fun H0 Hb H σ D d s hd hb h0 tk => by
  have s1 := s.frame hd h0 (s.noOwnD hd)
  refine hj d _ Hb H σ s1 _ fun Hb1 H1 y a b e => ?_
  have hd1 : H1 d = some (.dT kvs) := b.fr d _ upd_same
  have hb1 : Hb1 d = none := a.2 d (by rw [upd_same]; exact nt_dT) hb
  obtain ⟨x, q1, q2⟩ := b.sh i (kE (.ref d)) (List.getElem?_set_self hi)
  have q2 : x = .ref d := q2
  subst q2
  obtain ⟨n, e3, e4⟩ := key_tr e
  refine ⟨.ref d, q1, d, valV kvs k, rfl, .inr ⟨kvs, k, n, .inl hd1, e3, b.ex _ _ e4, rfl⟩, ?_⟩
  have s2 := b.unframe h0
  cases hv : valV kvs k with
  | none => exact ⟨true, rfl, iteT (h1 hv H0 Hb1 H1 σ D d s2 hd1 hb1 h0 fun Hb2 H2 σ2 a2 => tk Hb2 H2 σ2 ((a.mono (same_upd h0)).trans a2))⟩
  | some v =>
    obtain ⟨e1, e2⟩ := h2 (by rw [hv]; exact fun z => nomatch z)
    subst e1 e2
    exact ⟨false, rfl, iteF (tk Hb1 H1 σ (a.mono (same_upd h0)) s2 hd1 hb1)⟩
/-- d[k] = v -/
theorem dd_put (hi : i < δ.length) (hv : ∀ d, EvD te (dAt δ i d) (kE v)) (hj : ∀ d, EvD ty (dAt δ i d) (kTr (k.map kK))) (hl : kvs.length < sizeLine) : DoesD i (sDPut (tVar i) ty te) δ kvs δ (putK kvs k v) := fun H0 Hb H σ D d s hd hb h0 tk => by
  have s1 := s.frame hd h0 (s.noOwnD hd)
  refine hv d _ Hb H σ s1 _ fun Hb1 H1 x a b (e : x = v) => ?_
  subst e
  obtain ⟨x', q1, q2⟩ := b.sh i (kE (.ref d)) (List.getElem?_set_self hi)
  have q2 : x' = .ref d := q2
  subst q2
  refine ⟨.ref d, q1, hj d _ Hb1 H1 σ b _ fun Hb2 H2 y a2 b2 e2 => ?_⟩
  have hd2 : H2 d = some (.dT kvs) := b2.fr d _ upd_same
  have hb2 : Hb2 d = none := (a.trans a2).2 d (by rw [upd_same]; exact nt_dT) hb
  obtain ⟨n, e3, e4⟩ := key_tr e2
  refine ⟨d, upd H2 d (.dT (putK kvs k x)), rfl, .inr ⟨kvs, k, n, hd2, e3, b2.ex _ _ e4, hl, rfl⟩, ?_⟩
  have s2 := b2.unframe h0
  refine tk Hb2 _ σ ((a.trans a2).mono (same_upd h0)) ⟨fun b o z => ?_, fun b o z => ?_, s2.len, s2.sh, fun l ls z => ?_, s2.ne⟩ upd_same hb2
  · rw [upd_ne (fun y => by rw [y, hb2] at z; cases z)]
    exact s2.ex b o z
  · rw [upd_ne (fun y => by rw [y, h0] at z; cases z)]
    exact s2.fr b o z
  · obtain ⟨p, xs, w1, w2, w3, w4, w5⟩ := s2.ow l ls z
    exact ⟨p, xs, w1, w2, w3, by rw [upd_ne (fun y => by rw [y, hd2] at w4; cases w4)]; exact w4, w5⟩
/-- return d -/
theorem dd_ret (hi : i < δ.length) : DoesDR i (tRet (tFrz (tVar i))) δ kvs (kD kvs) := fun H0 Hb H σ D d s hd hb h0 tk => by
  obtain ⟨x, q1, q2⟩ := s.sh i (kE (.ref d)) (List.getElem?_set_self hi)
  have q2 : x = .ref d := q2
  subst q2
  refine ⟨.ref d, q1, d, _, rfl, hd, True.intro, fun od => ?_⟩
  refine tk (upd Hb d (.frz od (.dT kvs))) _ (.ref d) (Gr.new h0 hb) (fun b o z => ?_) (fun b o z => ?_) ⟨d, od, rfl, upd_same⟩
  · by_cases e : b = d
    · subst e
      rw [upd_same] at z ⊢
      exact z
    · rw [upd_ne e] at z ⊢
      exact s.ex b o z
  · rw [upd_ne (fun y => by rw [y, h0] at z; cases z)]
    exact s.fr b o z
/-! ### loops -/
inductive ForRunD (i : Nat) (g : TG) (tb : TS) : List Kd → List Sl → DK → List Sl → DK → Prop where
  | nil {δ : List Sl} {kvs : DK} : ForRunD i g tb [] δ kvs δ kvs
  | cons {k : Kd} {ys : List Kd} {δ δ1 δ2 δ3 : List Sl} {kvs kvs2 kvs3 : DK} {ws : List Nat} (hb : ∀ d, Bnd g ws k (dAt δ i d) (dAt δ1 i d)) (h : DoesD i tb δ1 kvs δ2 kvs2) (r : ForRunD i g tb ys δ2 kvs2 δ3 kvs3) : ForRunD i g tb (k :: ys) δ kvs δ3 kvs3
theorem dd_for {tb : TS} (hs : ∀ d, Src wi (dAt δ i d) ys) (r : ForRunD i g tb ys δ kvs δ1 kvs1) : DoesD i (tFor wi g tb) δ kvs δ1 kvs1 := fun H0 Hb H σ D d s hd hb h0 tk => by
  have sf := s.frame hd h0 (s.noOwnD hd)
  refine hs d _ Hb H σ sf _ fun Hb1 H1 J a1 s1 wk => ?_
  have hd1 : H1 d = some (.dT kvs) := s1.fr d _ upd_same
  have hb1 : Hb1 d = none := a1.2 d (by rw [upd_same]; exact nt_dT) hb
  have a1' := a1.mono (same_upd (o := .dT kvs) h0)
  refine ⟨fun n m σ2 H2 => m = ys.length - n ∧ n ≤ ys.length ∧ ∃ (Hb2 : Hp) (δ2 : List Sl) (kvs2 : DK), Gr H0 Hb1 Hb2 ∧ Sg H0 Hb2 H2 σ2 (dAt δ2 i d) ∧ H2 d = some (.dT kvs2) ∧ Hb2 d = none ∧ ForRunD i g tb (ys.drop n) δ2 kvs2 δ1 kvs1,
    ⟨ys.length, by simp, Nat.zero_le _, Hb1, δ, kvs, Gr.refl _ _, s1.unframe h0, hd1, hb1, r⟩, ?_⟩
  rintro n m σ2 H2 ⟨rfl, hn, Hb2, δ2, kvs2, a2, s2, hd2, hb2, r2⟩
  have w2 := wk.up a2.1
  by_cases hlt : n < ys.length
  · refine .inr ⟨w2.goes n H2 hlt s2.ex, fun σ' H' => ∃ (Hb2 : Hp) (δ2 : List Sl) (kvs2 : DK), Gr H0 Hb1 Hb2 ∧ Sg H0 Hb2 H' σ' (dAt δ2 i d) ∧ H' d = some (.dT kvs2) ∧ Hb2 d = none ∧ ForRunD i g tb (ys.drop (n + 1)) δ2 kvs2 δ1 kvs1,
      fun σ' H' z => ⟨ys.length - (n + 1), by omega, rfl, hlt, z⟩, fun x H' y => ?_⟩
    have hk : ys[n]? = some ys[n] := List.getElem?_eq_getElem hlt
    obtain ⟨Hb3, a3, s3, hd3, hb3, hx3⟩ : ∃ Hb3, Gr H0 Hb2 Hb3 ∧ Sg H0 Hb3 H' σ2 (dAt δ2 i d) ∧ H' d = some (.dT kvs2) ∧ Hb3 d = none ∧ ys[n].p x Hb3 := by
      rcases w2.yields n H2 x H' ys[n] hk s2.ex y with ⟨h1, h2⟩ | ⟨T, xs, ls, K, h1, h2, h3, h4, h5⟩ | ⟨T, xs, ls, h1, h2, h3, h4, h5⟩
      · subst h1
        exact ⟨Hb2, Gr.refl _ _, s2, hd2, hb2, h2⟩
      · subst h3
        have ne : d ≠ T := fun z => by rw [z, h2] at hd2; cases hd2
        exact ⟨upd Hb2 T (.tup xs), s2.gr h2, s2.alloc h2, by rw [upd_ne ne]; exact hd2, by rw [upd_ne ne]; exact hb2, h5 _ _ ⟨T, xs, h1, SqT.of upd_same, h4.up (same_upd (s2.hb h2))⟩⟩
      · subst h3
        obtain ⟨Hb3, c1, c2, c3⟩ := (s2.frame hd2 h0 (s2.noOwnD hd2)).cap h2
        exact ⟨Hb3, c1.mono (same_upd h0), c2.unframe h0, hd2, c1.2 d (by rw [upd_same]; exact nt_dT) hb2, h5 _ _ ⟨T, xs, h1, c3, h4.up c1.1⟩⟩
    have hdr : ys.drop n = ys[n] :: ys.drop (n + 1) := List.drop_eq_getElem_cons hlt
    rw [hdr] at r2
    generalize hyi : ys[n] = yi at r2 hx3
    cases r2 with
    | cons hbd h r3 =>
      have sf3 := s3.frame hd3 h0 (s3.noOwnD hd3)
      refine (hbd d).2 H0 Hb3 H' σ2 x s3 hx3 _ fun σ3 s4 _ _ => h H0 Hb3 H' σ3 _ d s4 hd3 hb3 h0 fun Hb4 H4 σ4 a4 s5 hd5 hb5 => ?_
      exact ⟨Hb4, _, _, (a2.trans a3).trans a4, s5, hd5, hb5, r3⟩
  · have e : n = ys.length := by omega
    subst e
    rw [List.drop_length] at r2
    cases r2
    exact .inl ⟨w2.stops H2 s2.ex, tk Hb2 H2 σ2 (a1'.trans a2) s2 hd2 hb2⟩
inductive WhRunD (i : Nat) (c : TT) (tb : TS) : Nat → List Sl → DK → List Sl → DK → Prop where
  | stop {δ : List Sl} {kvs : DK} (hc : ∀ d, EvT c (dAt δ i d) false) : WhRunD i c tb 0 δ kvs δ kvs
  | turn {n : Nat} {δ δ1 δ2 : List Sl} {kvs kvs1 kvs2 : DK} (hc : ∀ d, EvT c (dAt δ i d) true) (h : DoesD i tb δ kvs δ1 kvs1) (r : WhRunD i c tb n δ1 kvs1 δ2 kvs2) : WhRunD i c tb (n + 1) δ kvs δ2 kvs2
theorem dd_while {tb : TS} {n : Nat} (r : WhRunD i c tb n δ kvs δ1 kvs1) : DoesD i (tWhile c tb) δ kvs δ1 kvs1 := fun H0 Hb H σ D d s hd hb h0 tk => by
  refine ⟨fun m σ2 H2 => ∃ (Hb2 : Hp) (δ2 : List Sl) (kvs2 : DK), Gr H0 Hb Hb2 ∧ Sg H0 Hb2 H2 σ2 (dAt δ2 i d) ∧ H2 d = some (.dT kvs2) ∧ Hb2 d = none ∧ WhRunD i c tb m δ2 kvs2 δ1 kvs1, ⟨n, Hb, δ, kvs, Gr.refl _ _, s, hd, hb, r⟩, ?_⟩
  rintro m σ2 H2 ⟨Hb2, δ2, kvs2, a2, s2, hd2, hb2, r2⟩
  have sf := s2.frame hd2 h0 (s2.noOwnD hd2)
  cases r2 with
  | stop hc =>
    refine hc d _ Hb2 H2 σ2 sf _ fun Hb3 H3 a3 s3 => iteF (tk Hb3 H3 σ2 (a2.trans (a3.mono (same_upd h0))) (s3.unframe h0) (s3.fr d _ upd_same) (a3.2 d (by rw [upd_same]; exact nt_dT) hb2))
  | @turn n _ δ4 _ _ kvs4 _ hc h r3 =>
    refine hc d _ Hb2 H2 σ2 sf _ fun Hb3 H3 a3 s3 => iteT ⟨fun σ' H' => ∃ (Hb4 : Hp), Gr H0 Hb Hb4 ∧ Sg H0 Hb4 H' σ' (dAt δ4 i d) ∧ H' d = some (.dT kvs4) ∧ Hb4 d = none, fun σ' H' ⟨Hb4, z1, z2, z3, z4⟩ => ⟨n, Nat.lt_succ_self n, Hb4, δ4, kvs4, z1, z2, z3, z4, r3⟩, ?_⟩
    exact h H0 Hb3 H3 σ2 _ d (s3.unframe h0) (s3.fr d _ upd_same) (a3.2 d (by rw [upd_same]; exact nt_dT) hb2) h0 fun Hb4 H4 σ4 a4 s4 hd4 hb4 => ⟨Hb4, (a2.trans (a3.mono (same_upd h0))).trans a4, s4, hd4, hb4⟩
end
end Dx

namespace Dx
open PySem PySem.Spec PyProof.Rows L2
section
variable {δ : List Sl} {k : List Key} {x y : V} {i j l b : Nat} {u : TS} {kd : Kd}
/-- d, line, n = {t: x}, [t], y -/
theorem dd_start (hb : δ[b]? = some (.sh (kTr (k.map kK)))) (hij : i ≠ j) (hil : i ≠ l) (h : DoesDR i u ((δ.set j (.sh (kL [kTr (k.map kK)]))).set l (.sh (kE y))) [(k, x)] kd) :
    Does (tSeq (tPar3 i j l (tCons (tDisp1 (tVar b) (tC x)) (tCons (tLst (tCons (tVar b) tNil)) (tCons (tC y) tNil)))) u) δ (.rt kd) := fun H0 Hb H σ D s tk => by
  obtain ⟨vb, e1, e2⟩ := s.sh b _ hb
  obtain ⟨n, e3, e4⟩ := key_tr e2
  intro p hp
  have hn : H n = some (.tup (k.map kV)) := s.ex _ _ e4
  have hnp : n ≠ p := ne_of_none hn hp
  refine ⟨vb, e1, upd_same, n, k, e3, by rw [upd_ne hnp]; exact hn, vb, e1, Nat.le_of_lt (small1000 (n := 1) (Nat.le_of_ble_eq_true rfl)), fun q hq => ⟨.ref p, .ref q, y, rfl, ?_⟩⟩
  rw [upd_twice] at hq ⊢
  have s1 := s.drop (o := .dT [(k, x)]) hp
  have s2 := s1.alloc (o := .lst [vb]) hq
  have hqp : p ≠ q := fun z => by rw [← z, upd_same] at hq; cases hq
  have s3 := ((s2.set (i := i) (v := .ref p) (k := kE (.ref p)) rfl).set (i := j) (v := .ref q) (k := kL [kTr (k.map kK)]) ⟨q, [vb], rfl, upd_same, .cons ((kTr (k.map kK)).up (same_upd (s1.hb hq)) e2) .nil⟩).set (i := l) (v := y) (k := kE y) rfl
  have e5 : ((δ.set i (.sh (kE (.ref p)))).set j (.sh (kL [kTr (k.map kK)]))).set l (.sh (kE y)) = dAt ((δ.set j (.sh (kL [kTr (k.map kK)]))).set l (.sh (kE y))) i p := by
    show _ = List.set _ i _
    rw [List.set_comm _ _ hij, List.set_comm _ _ hil]
  rw [e5] at s3
  exact h H0 _ _ _ D p s3 (by rw [upd_ne hqp]; exact upd_same) (by rw [upd_ne hqp]; exact s.hb hp) (s.h0 hp) fun Hb' H' v a => tk Hb' H' v ((s1.gr hq).trans a)
theorem forRunD_fold {g : TG} {tb : TS} {α σ : Type} {f : α → Kd} {ok : σ → α → Prop} {step : σ → α → σ} {S : σ → List Sl} {T : σ → DK} {P : σ → List α → Prop} (h : ∀ s a l, P s (a :: l) → P (step s a) l ∧ ∃ ws δ1, (∀ d, Bnd g ws (f a) (dAt (S s) i d) (dAt δ1 i d)) ∧ DoesD i tb δ1 (T s) (S (step s a)) (T (step s a))) :
    ∀ (l : List α) (s : σ), P s l → ForRunD i g tb (l.map f) (S s) (T s) (S (l.foldl step s)) (T (l.foldl step s)) ∧ P (l.foldl step s) []
  | [], s, q => ⟨.nil, q⟩
  | a :: l, s, q => by
    obtain ⟨q2, ws, δ1, h1, h2⟩ := h s a l q
    obtain ⟨r, q3⟩ := forRunD_fold (ok := ok) h l (step s a) q2
    exact ⟨.cons h1 h2 r, q3⟩
end
end Dx
namespace My
open PySem PySem.Spec PyProof.Rows L2 Dx
def top (i : Nat) : Stmt := PySem.Challenge.pw_kindmeets_k04_whole_all.main.body.getD i (.Pass ⟨0, 0, 0, 0⟩)
local macro_rules | `(tactic| walk_at "dx shp") => `(tactic| rfl)
local macro_rules | `(tactic| walk_at "dx kit") => `(tactic| first | exact kb_tuple_tuple | exact kb_tuple_list | exact kb_tuple_int | exact kb_tuple_bool | exact kb_tuple_str | exact kb_list_tuple | exact kb_list_list | exact kb_list_int | exact kb_list_bool | exact kb_list_str | exact kb_int_tuple | exact kb_int_list | exact kb_int_int | exact kb_int_bool | exact kb_int_str | exact kb_bool_tuple | exact kb_bool_list | exact kb_bool_int | exact kb_bool_bool | exact kb_bool_str | exact kb_str_tuple | exact kb_str_list | exact kb_str_int | exact kb_str_bool | exact kb_str_str | exact kb_NoneType_tuple | exact kb_NoneType_list | exact kb_NoneType_int | exact kb_NoneType_bool | exact kb_NoneType_str | exact kb_dict_tuple | exact kb_dict_list | exact kb_dict_int | exact kb_dict_bool | exact kb_dict_str)
local macro_rules | `(tactic| walk_at "dx isd") => `(tactic| first
  | exact isd_int | exact isd_bl | exact isd_non | exact isd_str
  | (refine' isd_tup ?x1; (case x1 => walk_at "dx isds")) | (refine' isd_lst ?x1; (case x1 => walk_at "dx isds")) | (refine' isd_seq ?x1; (case x1 => walk_at "dx isds")))
local macro_rules | `(tactic| walk_at "dx isds") => `(tactic| first
  | exact isds_nil
  | exact isds_ints _
  | (refine' isds_cons ?x1 ?x2; (case x1 => walk_at "dx isd"); (case x2 => walk_at "dx isds")))
local macro_rules | `(tactic| walk_at "dx op") => `(tactic| first
  | exact op_I0
  | exact op_ixqT rfl | exact op_ixqL rfl | exact op_ixqS rfl
  | (refine' op_eqk ?x1 ?x2 ?x3 ?x4; (case x1 => walk_at "dx isd"); (case x2 => walk_at "dx isd"); (case x3 => walk_at "dx shp"); (case x4 => walk_at "dx shp"))
  | (refine' op_nek ?x1 ?x2 ?x3 ?x4; (case x1 => walk_at "dx isd"); (case x2 => walk_at "dx isd"); (case x3 => walk_at "dx shp"); (case x4 => walk_at "dx shp"))
  | exact op_inI2
  | (refine' op_notInDTk ?x1 ?x2 ?x3 ?x4; (case x1 => walk_at "dx isd"); (case x2 => walk_at "dx isd"); (case x3 => walk_at "dx shp"); (case x4 => walk_at "dx shp"))
  | (refine' op_notInDk ?x1 ?x2 ?x3 ?x4; (case x1 => walk_at "dx isd"); (case x2 => walk_at "dx isd"); (case x3 => walk_at "dx shp"); (case x4 => walk_at "dx shp"))
  | (refine' op_inDk ?x1 ?x2 ?x3 ?x4; (case x1 => walk_at "dx isd"); (case x2 => walk_at "dx isd"); (case x3 => walk_at "dx shp"); (case x4 => walk_at "dx shp"))
  | exact op_isB
  | (refine' op_I ?x1; (case x1 => first | assumption | exact ⟨by decide, by decide, by decide⟩ | exact ⟨by decide, by decide⟩ | decide | (show (_ : Int) < _; omega))))
local macro_rules | `(tactic| walk_at "dx ty") => `(tactic| first
  | exact ty_int | exact ty_bl | exact ty_str | exact ty_non | exact ty_lst | exact ty_tup)
local macro_rules | `(tactic| walk_at "dx ca") => `(tactic| first
  | (refine' ca_isi (.ty _) ?x1 (kit_ty ?x2); (case x1 => walk_at "dx ty"); (case x2 => walk_at "dx kit"))
  | exact ca_lenT | exact ca_lenL | exact ca_lenS
  | exact ca_sumT (ns := [_, _, _]) | exact ca_sumL | exact ca_sumS | exact ca_abs | exact ca_max2
  | exact ca_all (bs := []) | exact ca_all (bs := [_]) | exact ca_all (bs := [_, _]) | exact ca_all (bs := [_, _, _]))
local macro_rules | `(tactic| walk_at "dx ea") => `(tactic| first
  | exact ea_nil
  | (refine' ea_cons ?x1 ?x2; (case x1 => walk_at "dx ev"); (case x2 => walk_at "dx ea")))
local macro_rules | `(tactic| walk_at "dx ev") => `(tactic| first
  | exact ev_const (by assumption)
  | exact ev_c
  | exact ev_var rfl
  | (refine' ev_op ?x1 ?x2 ?x3; (case x1 => walk_at "dx ev"); (case x2 => walk_at "dx ev"); (case x3 => walk_at "dx op"))
  | (refine' ev_tup (K := ?xK) ?x1 ?x2; (case xK => assumption); (case x1 => walk_at "dx ea"); (case x2 => exact Nat.le_of_ble_eq_true rfl))
  | (refine' ev_tup ?x1 ?x2; (case x1 => walk_at "dx ea"); (case x2 => exact Nat.le_of_ble_eq_true rfl))
  | (refine' ev_cb ?x1 ?x2; (case x1 => walk_at "dx ea"); (case x2 => walk_at "dx ca"))
  | (refine' ev_un ?x1 ?x2; (case x1 => walk_at "dx ev"); (case x2 => exact un_neg1))
  | (refine' ev_and ?x1 fun _ => ?x2; (case x1 => walk_at "dx ev"); (case x2 => walk_at "dx ev"))
  | (refine' ev_or ?x1 fun _ => ?x2; (case x1 => walk_at "dx ev"); (case x2 => walk_at "dx ev"))
  | (refine' ev_not ?x1; (case x1 => walk_at "dx ev"))
  | (refine' ev_ite ?x1 (fun _ => ?x2) (fun _ => ?x3); (case x1 => walk_at "dx et"); (case x2 => walk_at "dx ev"); (case x3 => walk_at "dx ev"))
  | (refine' ev_call ?x1 ?x2; (case x1 => walk_at "dx ea"); (case x2 => walk_at "dx call"))
  | (refine' ev_ofN ?x1; (case x1 => walk_at "dx en")))
local macro_rules | `(tactic| walk_at "dx et") => `(tactic| first
  | exact et_yes
  | (refine' et_test ?x1; (case x1 => walk_at "dx ev"))
  | (refine' et_b ?x1; (case x1 => walk_at "dx ev"))
  | (refine' et_not ?x1; (case x1 => walk_at "dx et"))
  | (refine' et_and ?x1 fun _ => ?x2; (case x1 => walk_at "dx et"); (case x2 => walk_at "dx et"))
  | (refine' et_or ?x1 fun _ => ?x2; (case x1 => walk_at "dx et"); (case x2 => walk_at "dx et")))
local macro_rules | `(tactic| walk_at "dx bnd") => `(tactic| first
  | exact b_name
  | (refine' b_tup ?x1 rfl; (case x1 => walk_at "dx bnds")))
local macro_rules | `(tactic| walk_at "dx bnds") => `(tactic| first
  | exact bs_nil
  | (refine' bs_cons ?x1 ?x2; (case x1 => walk_at "dx bnd"); (case x2 => walk_at "dx bnds")))
local macro_rules | `(tactic| walk_at "dx src") => `(tactic| first
  | (refine' src_enumT ?x1; (case x1 => walk_at "dx ev"))
  | (refine' src_tup ?x1; (case x1 => walk_at "dx ev"))
  | (refine' src_list ?x1; (case x1 => walk_at "dx ev")))
local macro_rules | `(tactic| walk_at "dx lc") => `(tactic| first
  | exact LcRun.nil
  | (refine' LcRun.keep ?x1 ?x2 (et_to ?x3 ?x4) ?x5 ?x6; (case x1 => walk_at "dx bnd"); (case x2 => decide); (case x3 => walk_at "dx et"); (case x4 => rfl); (case x5 => walk_at "dx ev"); (case x6 => walk_at "dx lc"))
  | (refine' LcRun.skip ?x1 ?x2 (et_to ?x3 ?x4) ?x6; (case x1 => walk_at "dx bnd"); (case x2 => decide); (case x3 => walk_at "dx et"); (case x4 => rfl); (case x6 => walk_at "dx lc"))
  | (refine' lc_ite ?x1 ?x2 ?x3 (fun _ => ?x5) ?x6; (case x1 => walk_at "dx bnd"); (case x2 => decide); (case x3 => walk_at "dx et"); (case x5 => walk_at "dx ev"); (case x6 => walk_at "dx lc")))
local macro_rules | `(tactic| walk_at "dx en") => `(tactic| first
  | (refine' en_lst ?x1 ?x2; (case x1 => walk_at "dx ea"); (case x2 => exact Nat.le_of_ble_eq_true rfl))
  | (refine' en_lc ?x1 ?x2 ?x3 ?x4; (case x1 => walk_at "dx src"); (case x2 => walk_at "dx lc"); (case x3 => exact Nat.le_of_ble_eq_true rfl); (case x4 => rfl))
  | (refine' en_upto ?x1 eo_no (eo_some ev_c); (case x1 => walk_at "dx ev"))
  | (refine' en_cb ?x1 can_listK; (case x1 => walk_at "dx ea"))
  | (refine' en_call ?x1 ?x2; (case x1 => walk_at "dx ea"); (case x2 => walk_at "dx call")))
local macro_rules | `(tactic| walk_at "dx weak") => `(tactic| first
  | exact Paired.nil
  | (refine' Paired.cons ?x1 ?x2; (case x1 => first | exact trivial | exact Kd.le.refl _ | exact sl_refl _); (case x2 => walk_at "dx weak")))
abbrev k2 (K : PySem.W.Frag) (i j : Int) : Kd := kT K [kI i, kI j]
abbrev k3 (K : PySem.W.Frag) (a b c : Int) : Kd := kT K [kI a, kI b, kI c]
/-- the beads behind a meeting -/
def metF (a b c i j m : Int) : Int × Int × Int := if i = 0 ∧ j = 1 then (a - 1, b - 1, c + m) else if i = 0 ∧ j = 2 then (a - 1, b + m, c - 1) else (a + m, b - 1, c - 1)
def Pr (i j : Int) : Prop := (i = 0 ∧ j = 1) ∨ (i = 0 ∧ j = 2) ∨ (i = 1 ∧ j = 2)
/-- the meetings that can be -/
def canL (a b c : Int) : List (Int × Int) := (if 0 < a ∧ 0 < b then [(0, 1)] else []) ++ ((if 0 < a ∧ 0 < c then [(0, 2)] else []) ++ (if 0 < b ∧ 0 < c then [(1, 2)] else []))
abbrev kP (K : PySem.W.Frag) (p : Int × Int) : Kd := k2 K p.1 p.2
abbrev k3t (K : PySem.W.Frag) (p : Int × Int × Int) : Kd := k3 K p.1 p.2.1 p.2.2
theorem kE_if {b : Bool} {x y : V} : (kE (if b = true then x else y)) = if b = true then kE x else kE y := by cases b <;> rfl
theorem canL_mem {a b c i j : Int} (h : (i, j) ∈ canL a b c) : (i = 0 ∧ j = 1 ∧ 0 < a ∧ 0 < b) ∨ (i = 0 ∧ j = 2 ∧ 0 < a ∧ 0 < c) ∨ (i = 1 ∧ j = 2 ∧ 0 < b ∧ 0 < c) := by
  unfold canL at h
  rcases List.mem_append.mp h with h | h
  · split at h
    · rename_i q
      have e := List.mem_singleton.mp h
      cases e
      exact .inl ⟨rfl, rfl, q.1, q.2⟩
    · cases h
  · rcases List.mem_append.mp h with h | h
    · split at h
      · rename_i q
        have e := List.mem_singleton.mp h
        cases e
        exact .inr (.inl ⟨rfl, rfl, q.1, q.2⟩)
      · cases h
    · split at h
      · rename_i q
        have e := List.mem_singleton.mp h
        cases e
        exact .inr (.inr ⟨rfl, rfl, q.1, q.2⟩)
      · cases h
theorem canL_pr {a b c i j : Int} (h : (i, j) ∈ canL a b c) : Pr i j := by
  rcases canL_mem h with ⟨h1, h2, _⟩ | ⟨h1, h2, _⟩ | ⟨h1, h2, _⟩
  · exact .inl ⟨h1, h2⟩
  · exact .inr (.inl ⟨h1, h2⟩)
  · exact .inr (.inr ⟨h1, h2⟩)
theorem canL_of {a b c : Int} {x y z : Bool} (hx : x = true ↔ 0 < a ∧ 0 < b) (hy : y = true ↔ 0 < a ∧ 0 < c) (hz : z = true ↔ 0 < b ∧ 0 < c) {K : PySem.W.Frag} :
    (if x = true then k2 K 0 1 :: (if y = true then k2 K 0 2 :: (if z = true then k2 K 1 2 :: [] else []) else (if z = true then k2 K 1 2 :: [] else [])) else (if y = true then k2 K 0 2 :: (if z = true then k2 K 1 2 :: [] else []) else (if z = true then k2 K 1 2 :: [] else []))) = (canL a b c).map (kP K) := by
  unfold canL
  by_cases h1 : 0 < a ∧ 0 < b
  · have e1 : x = true := hx.mpr h1
    by_cases h2 : 0 < a ∧ 0 < c
    · have e2 : y = true := hy.mpr h2
      by_cases h3 : 0 < b ∧ 0 < c
      · have e3 : z = true := hz.mpr h3
        rw [if_pos e1, if_pos e2, if_pos e3, if_pos h1, if_pos h2, if_pos h3]; rfl
      · have e3 : ¬ z = true := fun q => h3 (hz.mp q)
        rw [if_pos e1, if_pos e2, if_neg e3, if_pos h1, if_pos h2, if_neg h3]; rfl
    · have e2 : ¬ y = true := fun q => h2 (hy.mp q)
      by_cases h3 : 0 < b ∧ 0 < c
      · have e3 : z = true := hz.mpr h3
        rw [if_pos e1, if_neg e2, if_pos e3, if_pos h1, if_neg h2, if_pos h3]; rfl
      · have e3 : ¬ z = true := fun q => h3 (hz.mp q)
        rw [if_pos e1, if_neg e2, if_neg e3, if_pos h1, if_neg h2, if_neg h3]; rfl
  · have e1 : ¬ x = true := fun q => h1 (hx.mp q)
    by_cases h2 : 0 < a ∧ 0 < c
    · have e2 : y = true := hy.mpr h2
      by_cases h3 : 0 < b ∧ 0 < c
      · have e3 : z = true := hz.mpr h3
        rw [if_neg e1, if_pos e2, if_pos e3, if_neg h1, if_pos h2, if_pos h3]; rfl
      · have e3 : ¬ z = true := fun q => h3 (hz.mp q)
        rw [if_neg e1, if_pos e2, if_neg e3, if_neg h1, if_pos h2, if_neg h3]; rfl
    · have e2 : ¬ y = true := fun q => h2 (hy.mp q)
      by_cases h3 : 0 < b ∧ 0 < c
      · have e3 : z = true := hz.mpr h3
        rw [if_neg e1, if_neg e2, if_pos e3, if_neg h1, if_neg h2, if_pos h3]; rfl
      · have e3 : ¬ z = true := fun q => h3 (hz.mp q)
        rw [if_neg e1, if_neg e2, if_neg e3, if_neg h1, if_neg h2, if_neg h3]; rfl
theorem and_pos {a b : Int} : (decide (0 < a) && decide (0 < b)) = true ↔ 0 < a ∧ 0 < b := by simp
section
variable {P : Program} {w : World} {K : PySem.W.Frag} {mg : Str → Option Value} {base : Heap}
abbrev s_is_whole : Stmt := top 11
theorem sc_is_whole : FnScope ["thing"] ["thing"] (defScope s_is_whole) := ⟨rfl, rfl, rfl, by decide +kernel, rfl, by decide +kernel, by decide +kernel⟩
/-! ### is_whole -/
def A_is_whole (K : PySem.W.Frag) (ks : List Kd) (r : Rs) : Prop := ∃ (k : Kd) (t : String) (b1 b2 : Bool), ks = [k] ∧ TyK K k (.type t) ∧ kitB t "int" = some b1 ∧ kitB t "bool" = some b2 ∧ r = .v (kB (b1 && !b2))
theorem ok_is_whole (B : Bt mg) (D : DefAt K mg "is_whole" s_is_whole ["thing"]) : CallD P w K mg base 1 "is_whole" (spR (A_is_whole K)) := by
  refine callD_of D sc_is_whole (by rintro ks r ⟨k, t, b1, b2, rfl, _⟩; rfl) fun f cdv Ar outer s H E hr => ⟨_, (pss_one (ps_ret (pe_and (pe_callB (call_isiK (K := K) rfl) (by rfl) B.b_isinstance PyProof.Rows.boot_isinstance (pa_cons (pv 0) (pa_cons (pe_ty (n := "int") (by rfl) B.b_int (by decide +kernel)) pa_nil))) (pe_one (pe_not (pe_callB (call_isiK (K := K) rfl) (by rfl) B.b_isinstance PyProof.Rows.boot_isinstance (pa_cons (pv 0) (pa_cons (pe_ty (n := "bool") (by rfl) B.b_bool (by decide +kernel)) pa_nil)))))))), fun ks r h => ?_⟩
  obtain ⟨k, t, b1, b2, rfl, h1, h2, h3, rfl⟩ := h
  change DoesR _ _ [.sh _] _
  exact .inl (d_ret (ev_and (ev_cb (ea_cons (ev_var rfl) (ea_cons ev_c ea_nil)) (ca_isi (.ty _) h1 (kit_ty h2))) fun _ => ev_not (ev_cb (ea_cons (ev_var rfl) (ea_cons ev_c ea_nil)) (ca_isi (.ty _) h1 (kit_ty h3)))))
theorem is_whole_int {i : Int} : A_is_whole K [kI i] (.v (kB true)) := ⟨_, "int", true, false, rfl, ty_int, by decide +kernel, by decide +kernel, rfl⟩
local macro_rules | `(tactic| walk_at "dx call") => `(tactic| exact is_whole_int)
abbrev s_asked_beads : Stmt := top 12
theorem sc_asked_beads : FnScope ["beads", "one"] ["beads"] (defScope s_asked_beads) := ⟨rfl, rfl, rfl, by decide +kernel, rfl, by decide +kernel, by decide +kernel⟩
/-! ### asked_beads -/
def A_asked_beads (K : PySem.W.Frag) (ks : List Kd) (r : Rs) : Prop := ∃ a b c : Int, ks = [k3 K a b c] ∧ 0 ≤ a ∧ 0 ≤ b ∧ 0 ≤ c ∧ 0 < a + b + c ∧ r = .v kN
theorem ok_asked_beads {eBB : Addr} (B : Bt mg) (D : DefAt K mg "asked_beads" s_asked_beads ["beads"]) (e_BadBeads : ErrC K mg "BadBeads" eBB) (d_is_whole : CallD P w K mg base 1 "is_whole" (spR (A_is_whole K))) : CallD P w K mg base 2 "asked_beads" (spR (A_asked_beads K)) := by
  refine callD_of D sc_asked_beads (by rintro ks r ⟨a, b, c, rfl, _⟩; rfl) fun f cdv Ar outer s H E hr => ⟨_, (pss_cons (ps_if (PW.pt (pw_or (pt_not (pt_val (pe_callB (call_isiK (K := K) rfl) (by rfl) B.b_isinstance PyProof.Rows.boot_isinstance (pa_cons (pv 0) (pa_cons (pe_ty (n := "tuple") (by rfl) B.b_tuple (by decide +kernel)) pa_nil))))) (pw_or (pt_cmpR (op_neK (K := K) hr rfl) (pe_callB (call_lenK (K := K) rfl) (by rfl) B.b_len PySem.boot_len (pa_cons (pv 0) pa_nil)) pe_int (nomark _)) (pw_or1 (pt_not (pt_val (pe_callB (cr_allK (K := K) rfl rfl) (by rfl) B.b_all (by decide +kernel) (pa_cons (pe_lc (own := [("one", 1)]) (g := (gName 1)) (tt := tYes) rfl sc_asked_beads.nd (pi_tupK (K := K) (pv 0) rfl) (blkOk_by (own := [("one", 1)]) (N := ["beads", "one"]) (sc := defScope s_asked_beads) (by decide +kernel)) (fun _ _ _ _ _ => (pg_name (i := 1) sc_asked_beads.nd rfl (.inl rfl))) (fun _ _ _ _ _ => pts_nil) (fun _ _ _ _ _ => (pe_and (pe_d d_is_whole hr (by decide) (pa_cons (pv 1) pa_nil)) (pe_one (pe_cmpR op_ge (pv 1) pe_int (nomark _)))))) pa_nil)))))))) (pss_one (ps_raise rfl (takes_of rfl rfl rfl rfl) (pmk_own PySem.F.excBase_ValueError e_BadBeads.xP e_BadBeads.gP e_BadBeads.kP (raises_own e_BadBeads.bP e_BadBeads.tP) rfl))) pss_nil)
      (pss_one (ps_if (pt_cmpR (op_eqK (K := K) hr rfl) (pe_callB (cr_sumTK (K := K) rfl rfl) (by rfl) B.b_sum (by decide +kernel) (pa_cons (pv 0) pa_nil)) pe_int (nomark _)) (pss_one (ps_raise rfl (takes_of rfl rfl rfl rfl) (pmk_own PySem.F.excBase_ValueError e_BadBeads.xP e_BadBeads.gP e_BadBeads.kP (raises_own e_BadBeads.bP e_BadBeads.tP) rfl))) pss_nil))), fun ks r h => ?_⟩
  obtain ⟨a, b, c, rfl, ha, hb, hc, hs, rfl⟩ := h
  change DoesR _ _ [.sh _, .no] _
  refine' .inr ⟨_, d_skip ?t1 ?q1 (d_skip1 ?t2 ?q2), Kd.le.refl _⟩
  case t1 => walk_at "dx et"
  case q1 => simp [ha, hb, hc, PyData.eqv]
  case t2 => walk_at "dx et"
  case q2 => simp [PyData.eqv]; omega
abbrev s_asked_kind : Stmt := top 13
theorem sc_asked_kind : FnScope ["kind"] ["kind"] (defScope s_asked_kind) := ⟨rfl, rfl, rfl, by decide +kernel, rfl, by decide +kernel, by decide +kernel⟩
/-! ### asked_kind -/
def A_asked_kind (K : PySem.W.Frag) (ks : List Kd) (r : Rs) : Prop := ∃ k : Int, ks = [kI k] ∧ 0 ≤ k ∧ k ≤ 2 ∧ r = .v kN
theorem ok_asked_kind {eBK : Addr} (B : Bt mg) (D : DefAt K mg "asked_kind" s_asked_kind ["kind"]) (e_BadKind : ErrC K mg "BadKind" eBK) (d_is_whole : CallD P w K mg base 1 "is_whole" (spR (A_is_whole K))) : CallD P w K mg base 2 "asked_kind" (spR (A_asked_kind K)) := by
  refine callD_of D sc_asked_kind (by rintro ks r ⟨k, rfl, _⟩; rfl) fun f cdv Ar outer s H E hr => ⟨_, (pss_one (ps_if (PW.pt (pw_or (pt_not (pt_val (pe_d d_is_whole hr (by decide) (pa_cons (pv 0) pa_nil)))) (pw_or1 (pt_not (pt_chain op_le op_le pe_int (pv 0) pe_int))))) (pss_one (ps_raise rfl (takes_of rfl rfl rfl rfl) (pmk_own PySem.F.excBase_ValueError e_BadKind.xP e_BadKind.gP e_BadKind.kP (raises_own e_BadKind.bP e_BadKind.tP) rfl))) pss_nil)), fun ks r h => ?_⟩
  obtain ⟨k, rfl, h0, h2, rfl⟩ := h
  change DoesR _ _ [.sh _] _
  refine' .inr ⟨_, d_skip1 ?t ?q, Kd.le.refl _⟩
  case t => exact et_or (et_not (et_b (ev_call (ea_cons (ev_var rfl) ea_nil) is_whole_int))) fun _ => et_not (et_test (ev_chain ev_c (ev_var rfl) op_I0 (fun _ => ev_c) (fun _ => op_I0)))
  case q => simp [h0, h2]
abbrev s_asked_meeting : Stmt := top 14
theorem sc_asked_meeting : FnScope ["beads", "meeting", "one"] ["beads", "meeting"] (defScope s_asked_meeting) := ⟨rfl, rfl, rfl, by decide +kernel, rfl, by decide +kernel, by decide +kernel⟩
/-! ### asked_meeting -/
def A_asked_meeting (K : PySem.W.Frag) (ks : List Kd) (r : Rs) : Prop := ∃ a b c i j : Int, ks = [k3 K a b c, k2 K i j] ∧ (i, j) ∈ canL a b c ∧ r = .v kN
theorem ok_asked_meeting {eBM pP : Addr} (B : Bt mg) (D : DefAt K mg "asked_meeting" s_asked_meeting ["beads", "meeting"]) (e_BadMeeting : ErrC K mg "BadMeeting" eBM) (g_PAIRS : mg "PAIRS" = some (.ref pP)) (hP : ∀ H, (kT K [k2 K 0 1, k2 K 0 2, k2 K 1 2]).p (.ref pP) H)
    (d_is_whole : CallD P w K mg base 1 "is_whole" (spR (A_is_whole K))) : CallD P w K mg base 2 "asked_meeting" (spR (A_asked_meeting K)) := by
  refine callD_of D sc_asked_meeting (by rintro ks r ⟨a, b, c, i, j, rfl, _⟩; rfl) fun f cdv Ar outer s H E hr => ⟨_, (pss_cons (ps_if (PW.pt (pw_or (pt_not (pt_val (pe_callB (call_isiK (K := K) rfl) (by rfl) B.b_isinstance PyProof.Rows.boot_isinstance (pa_cons (pv 1) (pa_cons (pe_ty (n := "tuple") (by rfl) B.b_tuple (by decide +kernel)) pa_nil))))) (pw_or (pt_cmpR (op_neK (K := K) hr rfl) (pe_callB (call_lenK (K := K) rfl) (by rfl) B.b_len PySem.boot_len (pa_cons (pv 1) pa_nil)) pe_int (nomark _)) (pw_or1 (pt_not (pt_val (pe_callB (cr_allK (K := K) rfl rfl) (by rfl) B.b_all (by decide +kernel) (pa_cons (pe_lc (own := [("one", 2)]) (g := (gName 2)) (tt := tYes) rfl sc_asked_meeting.nd (pi_tupK (K := K) (pv 1) rfl) (blkOk_by (own := [("one", 2)]) (N := ["beads", "meeting", "one"]) (sc := defScope s_asked_meeting) (by decide +kernel)) (fun _ _ _ _ _ => (pg_name (i := 2) sc_asked_meeting.nd rfl (.inl rfl))) (fun _ _ _ _ _ => pts_nil) (fun _ _ _ _ _ => (pe_d d_is_whole hr (by decide) (pa_cons (pv 2) pa_nil)))) pa_nil)))))))) (pss_one (ps_raise rfl (takes_of rfl rfl rfl rfl) (pmk_own PySem.F.excBase_ValueError e_BadMeeting.xP e_BadMeeting.gP e_BadMeeting.kP (raises_own e_BadMeeting.bP e_BadMeeting.tP) rfl))) pss_nil)
      (pss_one (ps_if (PW.pt (pw_or (pt_cmpR (op_notInDTK (K := K) hr rfl) (pv 1) (pe_gref (by rfl) g_PAIRS) (by rfl)) (pw_or (pt_cmpR (op_eqK (K := K) hr rfl) (pe_ix (ix_seqK (K := K) rfl) (pv 0) (pe_ix (ix_seqK (K := K) rfl) (pv 1) pe_int (fun _ _ => rfl)) (fun _ _ => rfl)) pe_int (nomark _)) (pw_or1 (pt_cmpR (op_eqK (K := K) hr rfl) (pe_ix (ix_seqK (K := K) rfl) (pv 0) (pe_ix (ix_seqK (K := K) rfl) (pv 1) pe_int (fun _ _ => rfl)) (fun _ _ => rfl)) pe_int (nomark _)))))) (pss_one (ps_raise rfl (takes_of rfl rfl rfl rfl) (pmk_own PySem.F.excBase_ValueError e_BadMeeting.xP e_BadMeeting.gP e_BadMeeting.kP (raises_own e_BadMeeting.bP e_BadMeeting.tP) rfl))) pss_nil))), fun ks r h => ?_⟩
  obtain ⟨a, b, c, i, j, rfl, h1, rfl⟩ := h
  change DoesR _ _ [.sh _, .sh _, .no] _
  rcases canL_mem h1 with ⟨rfl, rfl, ha, hb⟩ | ⟨rfl, rfl, ha, hb⟩ | ⟨rfl, rfl, ha, hb⟩
  all_goals
    refine' .inr ⟨_, d_skip ?t1 ?q1 (d_skip1 ?t2 ?q2), Kd.le.refl _⟩
    case t1 => walk_at "dx et"
    case q1 => simp [PyData.eqv]
    case t2 => walk_at "dx et"
    case q2 => simp [PyData.eqv, PyData.eqvAll]; omega
abbrev s_met : Stmt := top 15
theorem sc_met : FnScope ["beads", "meeting", "more", "found", "kind", "one"] ["beads", "meeting", "more"] (defScope s_met) := ⟨rfl, rfl, rfl, by decide +kernel, rfl, by decide +kernel, by decide +kernel⟩
/-! ### met -/
def A_met (K : PySem.W.Frag) (ks : List Kd) (r : Rs) : Prop := ∃ a b c i j m : Int, ks = [k3 K a b c, k2 K i j, kI m] ∧ Pr i j ∧ r = .v (k3t K (metF a b c i j m))
theorem ok_met (B : Bt mg) (D : DefAt K mg "met" s_met ["beads", "meeting", "more"]) : CallD P w K mg base 1 "met" (spR (A_met K)) := by
  refine callD_of D sc_met (by rintro ks r ⟨a, b, c, i, j, m, rfl, _⟩; rfl) fun f cdv Ar outer s H E hr => ⟨_, (pss_cons (ps_setLc (i := 3) (own := [("kind", 4), ("one", 5)]) (g := (gTup K 2 (gCons (gName 4) (gCons (gName 5) gNil)))) (tt := tYes) rfl sc_met.nd rfl rfl (sw_true rfl rfl rfl (by decide +kernel)) (pi_enumTK (K := K) (by rfl) B.b_enumerate (pa_cons (pv 0) pa_nil) rfl) (blkOk_by (own := [("kind", 4), ("one", 5)]) (N := ["beads", "meeting", "more", "found", "kind", "one"]) (sc := defScope s_met) (by decide +kernel)) (fun _ _ _ _ _ => (pg_tup rfl (pgs_cons (pg_name (i := 4) sc_met.nd rfl (.inl rfl)) (pgs_cons (pg_name (i := 5) sc_met.nd rfl (.inl rfl)) pgs_nil)))) (fun _ _ _ _ _ => pts_nil) (fun _ _ _ _ _ => (pe_ifExp (pt_cmpR (op_inK (K := K) rfl) (pv 4) (pv 1) (by rfl)) (pe_op op_sub (pv 5) pe_int) (pe_op op_add (pv 5) (pv 2)))))
      (pss_one (ps_ret (pe_tup (pa_cons (pe_ix (ix_seqK (K := K) rfl) (pv 3) pe_int (fun _ _ => rfl)) (pa_cons (pe_ix (ix_seqK (K := K) rfl) (pv 3) pe_int (fun _ _ => rfl)) (pa_cons (pe_ix (ix_seqK (K := K) rfl) (pv 3) pe_int (fun _ _ => rfl)) pa_nil))))))), fun ks r h => ?_⟩
  obtain ⟨a, b, c, i, j, m, rfl, hp, rfl⟩ := h
  change DoesR _ _ [.sh _, .sh _, .sh _, .no, .no, .no] _
  refine' .inl (d_seq (d_asg ?v1) (d_le (d_ret ?v2) ?q))
  case v1 => walk_at "dx ev"
  case v2 => walk_at "dx ev"
  case q =>
    rcases hp with ⟨rfl, rfl⟩ | ⟨rfl, rfl⟩ | ⟨rfl, rfl⟩
    · exact Kd.le.refl _
    · exact Kd.le.refl _
    · exact Kd.le.refl _
/-! ### canpos -/
theorem canL_pos {a b c i j : Int} (ha : 0 ≤ a) (hb : 0 ≤ b) (hc : 0 ≤ c) (h : (i, j) ∈ canL a b c) : 0 < a + b + c := by
  rcases canL_mem h with ⟨_, _, _, _⟩ | ⟨_, _, _, _⟩ | ⟨_, _, _, _⟩ <;> omega
abbrev s_turned : Stmt := top 16
theorem sc_turned : FnScope ["beads", "meeting"] ["beads", "meeting"] (defScope s_turned) := ⟨rfl, rfl, rfl, by decide +kernel, rfl, by decide +kernel, by decide +kernel⟩
/-! ### turned -/
def A_turned (K : PySem.W.Frag) (ks : List Kd) (r : Rs) : Prop := ∃ a b c i j : Int, ks = [k3 K a b c, k2 K i j] ∧ 0 ≤ a ∧ 0 ≤ b ∧ 0 ≤ c ∧ (i, j) ∈ canL a b c ∧ r = .v (k3t K (metF a b c i j 2))
theorem ok_turned (B : Bt mg) (D : DefAt K mg "turned" s_turned ["beads", "meeting"]) (d_asked_beads : CallD P w K mg base 2 "asked_beads" (spR (A_asked_beads K))) (d_asked_meeting : CallD P w K mg base 2 "asked_meeting" (spR (A_asked_meeting K)))
    (d_met : CallD P w K mg base 1 "met" (spR (A_met K))) : CallD P w K mg base 3 "turned" (spR (A_turned K)) := by
  refine callD_of D sc_turned (by rintro ks r ⟨a, b, c, i, j, rfl, _⟩; rfl) fun f cdv Ar outer s H E hr => ⟨_, (pss_cons (ps_expr (pe_d d_asked_beads hr (by decide) (pa_cons (pv 0) pa_nil)))
      (pss_cons (ps_expr (pe_d d_asked_meeting hr (by decide) (pa_cons (pv 0) (pa_cons (pv 1) pa_nil))))
      (pss_one (ps_ret (pe_d d_met hr (by decide) (pa_cons (pv 0) (pa_cons (pv 1) (pa_cons pe_int pa_nil)))))))), fun ks r h => ?_⟩
  obtain ⟨a, b, c, i, j, rfl, ha, hb, hc, h1, rfl⟩ := h
  change DoesR _ _ [.sh _, .sh _] _
  exact .inl (d_seq (d_drop (ev_call (ea_cons (ev_var rfl) ea_nil) ⟨a, b, c, rfl, ha, hb, hc, canL_pos ha hb hc h1, rfl⟩)) (d_seq (d_drop (ev_call (ea_cons (ev_var rfl) (ea_cons (ev_var rfl) ea_nil)) ⟨a, b, c, i, j, rfl, h1, rfl⟩))
    (d_ret (ev_call (ea_cons (ev_var rfl) (ea_cons (ev_var rfl) (ea_cons ev_c ea_nil))) ⟨a, b, c, i, j, 2, rfl, canL_pr h1, rfl⟩))))
abbrev s_meetings : Stmt := top 17
theorem sc_meetings : FnScope ["beads", "pair"] ["beads"] (defScope s_meetings) := ⟨rfl, rfl, rfl, by decide +kernel, rfl, by decide +kernel, by decide +kernel⟩
/-! ### meetings -/
def A_meetings (K : PySem.W.Frag) (ks : List Kd) (r : Rs) : Prop := ∃ a b c : Int, ks = [k3 K a b c] ∧ 0 ≤ a ∧ 0 ≤ b ∧ 0 ≤ c ∧ 0 < a + b + c ∧ r = .nl ((canL a b c).map (kP K))
theorem ok_meetings {pP : Addr} (B : Bt mg) (D : DefAt K mg "meetings" s_meetings ["beads"]) (g_PAIRS : mg "PAIRS" = some (.ref pP)) (hP : ∀ H, (kT K [k2 K 0 1, k2 K 0 2, k2 K 1 2]).p (.ref pP) H)
    (d_asked_beads : CallD P w K mg base 2 "asked_beads" (spR (A_asked_beads K))) : CallD P w K mg base 3 "meetings" (spR (A_meetings K)) := by
  refine callD_of D sc_meetings (by rintro ks r ⟨a, b, c, rfl, _⟩; rfl) fun f cdv Ar outer s H E hr => ⟨_, (pss_cons (ps_expr (pe_d d_asked_beads hr (by decide) (pa_cons (pv 0) pa_nil)))
      (pss_one (ps_ret (pe_lc (own := [("pair", 1)]) (g := (gName 1))  rfl sc_meetings.nd (pi_tupK (K := K) (pe_gref (by rfl) g_PAIRS) rfl) (blkOk_by (own := [("pair", 1)]) (N := ["beads", "pair"]) (sc := defScope s_meetings) (by decide +kernel)) (fun _ _ _ _ _ => (pg_name (i := 1) sc_meetings.nd rfl (.inl rfl))) (fun _ _ _ _ _ => (pts_one (PW.pt (pw_and (pt_cmpR op_gt (pe_ix (ix_seqK (K := K) rfl) (pv 0) (pe_ix (ix_seqK (K := K) rfl) (pv 1) pe_int (fun _ _ => rfl)) (fun _ _ => rfl)) pe_int (nomark _)) (pw_and1 (pt_cmpR op_gt (pe_ix (ix_seqK (K := K) rfl) (pv 0) (pe_ix (ix_seqK (K := K) rfl) (pv 1) pe_int (fun _ _ => rfl)) (fun _ _ => rfl)) pe_int (nomark _))))))) (fun _ _ _ _ _ => (pv 1)))))), fun ks r h => ?_⟩
  obtain ⟨a, b, c, rfl, ha, hb, hc, hs, rfl⟩ := h
  change DoesR _ _ [.sh _, .no] _
  refine' d_seq (d_drop (ev_call (ea_cons (ev_var rfl) ea_nil) ⟨a, b, c, rfl, ha, hb, hc, hs, rfl⟩)) (d_rto (d_retN ?en) ?q)
  case en => walk_at "dx en"
  case q => exact canL_of and_pos and_pos and_pos
abbrev s_kinds_there : Stmt := top 18
theorem sc_kinds_there : FnScope ["beads", "one"] ["beads"] (defScope s_kinds_there) := ⟨rfl, rfl, rfl, by decide +kernel, rfl, by decide +kernel, by decide +kernel⟩
/-! ### kinds_there -/
/-- how many kinds are there -/
def nk (a b c : Int) : Nat := (if 0 < a then 1 else 0) + (if 0 < b then 1 else 0) + (if 0 < c then 1 else 0)
def A_kinds_there (K : PySem.W.Frag) (ks : List Kd) (r : Rs) : Prop := ∃ a b c : Int, ks = [k3 K a b c] ∧ r = .v (kI (nk a b c))
theorem ok_kinds_there (B : Bt mg) (D : DefAt K mg "kinds_there" s_kinds_there ["beads"]) : CallD P w K mg base 1 "kinds_there" (spR (A_kinds_there K)) := by
  refine callD_of D sc_kinds_there (by rintro ks r ⟨a, b, c, rfl, _⟩; rfl) fun f cdv Ar outer s H E hr => ⟨_, (pss_one (ps_ret (pe_callB (call_lenK (K := K) rfl) (by rfl) B.b_len PySem.boot_len (pa_cons (pe_lc (own := [("one", 1)]) (g := (gName 1))  rfl sc_kinds_there.nd (pi_tupK (K := K) (pv 0) rfl) (blkOk_by (own := [("one", 1)]) (N := ["beads", "one"]) (sc := defScope s_kinds_there) (by decide +kernel)) (fun _ _ _ _ _ => (pg_name (i := 1) sc_kinds_there.nd rfl (.inl rfl))) (fun _ _ _ _ _ => (pts_one (pt_cmpR op_gt (pv 1) pe_int (nomark _)))) (fun _ _ _ _ _ => (pv 1))) pa_nil)))), fun ks r h => ?_⟩
  obtain ⟨a, b, c, rfl, rfl⟩ := h
  change DoesR _ _ [.sh _, .no] _
  refine' .inl (d_le (d_ret ?v) (kE_le ?q))
  case v => walk_at "dx ev"
  case q =>
    unfold nk
    by_cases h1 : 0 < a <;> by_cases h2 : 0 < b <;> by_cases h3 : 0 < c <;> simp [h1, h2, h3]
/-! ### lemmas5 -/
theorem eqv_int {i j : Int} : PyData.eqv (.int i) (.int j) = decide (i = j) := by simp [PyData.eqv]; exact Bool.eq_iff_iff.mpr (by simp)
theorem ev_ifT {c : TT} {ta tb : TE} {δ : List Sl} {k : Kd} (h : EvT c δ true) (h1 : EvD ta δ k) : EvD (tIf c ta tb) δ k := ev_if h (fun _ => h1) fun z => nomatch z
theorem ev_ifF {c : TT} {ta tb : TE} {δ : List Sl} {k : Kd} (h : EvT c δ false) (h1 : EvD tb δ k) : EvD (tIf c ta tb) δ k := ev_if h (fun z => nomatch z) fun _ => h1
abbrev s_others_of : Stmt := top 20
theorem sc_others_of : FnScope ["kind", "one"] ["kind"] (defScope s_others_of) := ⟨rfl, rfl, rfl, by decide +kernel, rfl, by decide +kernel, by decide +kernel⟩
/-! ### others_of -/
def Oth (k i j : Int) : Prop := (k = 0 ∧ i = 1 ∧ j = 2) ∨ (k = 1 ∧ i = 0 ∧ j = 2) ∨ (k = 2 ∧ i = 0 ∧ j = 1)
def A_others_of (K : PySem.W.Frag) (ks : List Kd) (r : Rs) : Prop := ∃ k i j : Int, ks = [kI k] ∧ Oth k i j ∧ r = .nl [kI i, kI j]
theorem ok_others_of (B : Bt mg) (D : DefAt K mg "others_of" s_others_of ["kind"]) : CallD P w K mg base 1 "others_of" (spR (A_others_of K)) := by
  refine callD_of D sc_others_of (by rintro ks r ⟨k, i, j, rfl, _⟩; rfl) fun f cdv Ar outer s H E hr => ⟨_, (pss_one (ps_ret (pe_lc (own := [("one", 1)]) (g := (gName 1))  rfl sc_others_of.nd (pi_range1 (by rfl) B.b_range (pa_cons pe_int pa_nil)) (blkOk_by (own := [("one", 1)]) (N := ["kind", "one"]) (sc := defScope s_others_of) (by decide +kernel)) (fun _ _ _ _ _ => (pg_name (i := 1) sc_others_of.nd rfl (.inl rfl))) (fun _ _ _ _ _ => (pts_one (pt_cmpR (op_neK (K := K) hr rfl) (pv 1) (pv 0) (nomark _)))) (fun _ _ _ _ _ => (pv 1))))), fun ks r h => ?_⟩
  obtain ⟨k, i, j, rfl, ho, rfl⟩ := h
  change DoesR _ _ [.sh _, .no] _
  rcases ho with ⟨rfl, rfl, rfl⟩ | ⟨rfl, rfl, rfl⟩ | ⟨rfl, rfl, rfl⟩
  all_goals
    refine' d_rto (d_retN (en_lc (src_range (n := 3) ev_c (by decide)) ?lc (by decide) rfl)) ?q
    case lc => walk_at "dx lc"
    case q => rfl
abbrev s_steps_of : Stmt := top 21
theorem sc_steps_of : FnScope ["beads", "kind", "one", "other"] ["beads", "kind"] (defScope s_steps_of) := ⟨rfl, rfl, rfl, by decide +kernel, rfl, by decide +kernel, by decide +kernel⟩
/-! ### steps_of -/
/-- the two others' counts, the kind's own -/
def Sel (k a b c x y z : Int) : Prop := (k = 0 ∧ x = b ∧ y = c ∧ z = a) ∨ (k = 1 ∧ x = a ∧ y = c ∧ z = b) ∨ (k = 2 ∧ x = a ∧ y = b ∧ z = c)
def stepsG (x y : Int) (n : Nat) : Option Int := if x = 0 ∧ y = 0 then some 0 else if n = 1 ∨ (x - y) % 3 ≠ 0 then none else some (max x y)
def optV : Option Int → V
  | none => .non
  | some s => .int s
def A_steps_of (K : PySem.W.Frag) (ks : List Kd) (r : Rs) : Prop := ∃ a b c k x y z : Int, ks = [k3 K a b c, kI k] ∧ Sel k a b c x y z ∧ r = .v (kE (optV (stepsG x y (nk a b c))))
theorem ok_steps_of (B : Bt mg) (D : DefAt K mg "steps_of" s_steps_of ["beads", "kind"]) (d_others_of : CallD P w K mg base 1 "others_of" (spR (A_others_of K))) (d_kinds_there : CallD P w K mg base 1 "kinds_there" (spR (A_kinds_there K))) : CallD P w K mg base 2 "steps_of" (spR (A_steps_of K)) := by
  refine callD_of D sc_steps_of (by rintro ks r ⟨a, b, c, k, x, y, z, rfl, _⟩; rfl) fun f cdv Ar outer s H E hr => ⟨_, (pss_cons (ps_asg (pe_d d_others_of hr (by decide) (pa_cons (pv 1) pa_nil)) (pg_lst rfl (pgs_cons (pg_name (i := 2) sc_steps_of.nd rfl (.inl rfl)) (pgs_cons (pg_name (i := 3) sc_steps_of.nd rfl (.inl rfl)) pgs_nil))))
      (pss_cons (ps_if (PW.pt (pw_and (pt_cmpR (op_eqK (K := K) hr rfl) (pe_ix (ix_seqK (K := K) rfl) (pv 0) (pv 2) (fun _ _ => rfl)) pe_int (nomark _)) (pw_and1 (pt_cmpR (op_eqK (K := K) hr rfl) (pe_ix (ix_seqK (K := K) rfl) (pv 0) (pv 3) (fun _ _ => rfl)) pe_int (nomark _))))) (pss_one (ps_ret pe_int)) pss_nil)
      (pss_cons (ps_if (PW.pt (pw_or (pt_cmpR (op_eqK (K := K) hr rfl) (pe_d d_kinds_there hr (by decide) (pa_cons (pv 0) pa_nil)) pe_int (nomark _)) (pw_or1 (pt_cmpR (op_neK (K := K) hr rfl) (pe_op op_mod (pe_op op_sub (pe_ix (ix_seqK (K := K) rfl) (pv 0) (pv 2) (fun _ _ => rfl)) (pe_ix (ix_seqK (K := K) rfl) (pv 0) (pv 3) (fun _ _ => rfl))) pe_int) pe_int (nomark _))))) (pss_one (ps_ret pe_non)) pss_nil)
      (pss_one (ps_ret (pe_callB (call_max2 rfl) (by rfl) B.b_max (by decide +kernel) (pa_cons (pe_ix (ix_seqK (K := K) rfl) (pv 0) (pv 2) (fun _ _ => rfl)) (pa_cons (pe_ix (ix_seqK (K := K) rfl) (pv 0) (pv 3) (fun _ _ => rfl)) pa_nil)))))))), fun ks r h => ?_⟩
  obtain ⟨a, b, c, k, x, y, z, rfl, hs, rfl⟩ := h
  change DoesR _ _ [.sh _, .sh _, .no, .no] _
  obtain ⟨i, j, ho, hi, hj⟩ : ∃ i j, Oth k i j ∧ Op (rIx K) (k3 K a b c) (kI i) (kI x) ∧ Op (rIx K) (k3 K a b c) (kI j) (kI y) := by
    rcases hs with ⟨rfl, rfl, rfl, rfl⟩ | ⟨rfl, rfl, rfl, rfl⟩ | ⟨rfl, rfl, rfl, rfl⟩
    · exact ⟨1, 2, .inl ⟨rfl, rfl, rfl⟩, op_ixqT rfl, op_ixqT rfl⟩
    · exact ⟨0, 2, .inr (.inl ⟨rfl, rfl, rfl⟩), op_ixqT rfl, op_ixqT rfl⟩
    · exact ⟨0, 1, .inr (.inr ⟨rfl, rfl, rfl⟩), op_ixqT rfl, op_ixqT rfl⟩
  refine' .inl (d_seq (d_asgG (ev_ofN (en_call (ea_cons (ev_var rfl) ea_nil) ⟨k, i, j, rfl, ho, rfl⟩)) (b_lst (bs_cons b_name (bs_cons b_name bs_nil)) rfl)) ?r)
  change Does _ [.sh (k3 K a b c), .sh (kI k), .sh (kI i), .sh (kI j)] _
  have ex : EvD (tOp (rIx K) (tVar 0) (tVar 2)) [.sh (k3 K a b c), .sh (kI k), .sh (kI i), .sh (kI j)] (kI x) := ev_op (ev_var rfl) (ev_var rfl) hi
  have ey : EvD (tOp (rIx K) (tVar 0) (tVar 3)) [.sh (k3 K a b c), .sh (kI k), .sh (kI i), .sh (kI j)] (kI y) := ev_op (ev_var rfl) (ev_var rfl) hj
  refine' d_seqif (et_and (et_test (ev_op ex ev_c (op_eqk isd_int isd_int rfl rfl))) fun _ => et_test (ev_op ey ev_c (op_eqk isd_int isd_int rfl rfl))) (fun e => d_ret1 (d_to (d_ret ev_c) ?q1)) (fun e => d_seq d_next (d_seqif (et_or (et_test (ev_op (k1 := kI (nk a b c)) (ev_call (ea_cons (ev_var rfl) ea_nil) ⟨a, b, c, rfl, rfl⟩) ev_c (op_eqk isd_int isd_int rfl rfl))) fun _ => et_test (ev_op (ev_op (ev_op ex ey op_I0) ev_c (op_I ?p3)) ev_c (op_nek isd_int isd_int rfl rfl))) (fun e2 => d_ret1 (d_to (d_ret ev_c) ?q2)) (fun e2 => d_seq d_next (d_to (d_ret (ev_cb (ea_cons ex (ea_cons ey ea_nil)) ca_max2)) ?q3))))
  case p3 => show (0 : Int) < 3; decide
  case q1 =>
    rw [eqv_int, eqv_int, Bool.and_eq_true, decide_eq_true_iff, decide_eq_true_iff] at e
    unfold stepsG
    rw [if_pos e]
    rfl
  case q2 =>
    have e1 : ¬ (x = 0 ∧ y = 0) := fun z => by
      rw [z.1, z.2] at e
      cases e
    have e2 : nk a b c = 1 ∨ (x - y) % 3 ≠ 0 := by
      rw [eqv_int, eqv_int] at e2
      simp only [Bool.or_eq_true, decide_eq_true_iff, Bool.not_eq_true', decide_eq_false_iff_not] at e2
      rcases e2 with e2 | e2
      · exact .inl (Int.ofNat_inj.mp e2)
      · exact .inr e2
    unfold stepsG
    rw [if_neg e1, if_pos e2]
    rfl
  case q3 =>
    have e1 : ¬ (x = 0 ∧ y = 0) := fun z => by
      rw [z.1, z.2] at e
      cases e
    have e2 : ¬ (nk a b c = 1 ∨ (x - y) % 3 ≠ 0) := by
      rw [eqv_int, eqv_int] at e2
      simp only [Bool.or_eq_false_iff, decide_eq_false_iff_not, Bool.not_eq_false', decide_eq_true_iff] at e2
      rintro (z | z)
      · exact e2.1 (by rw [z]; rfl)
      · exact z e2.2
    unfold stepsG
    rw [if_neg e1, if_neg e2]
    show V.int _ = V.int _
    congr 1
    split <;> omega
abbrev s_All_init : Stmt := inClass (top 2) 0
theorem sc_All_init : FnScope ["self", "steps"] ["self", "steps"] (defScope s_All_init) := ⟨rfl, rfl, rfl, by decide +kernel, rfl, by decide +kernel, by decide +kernel⟩
abbrev s_all_of : Stmt := top 22
theorem sc_all_of : FnScope ["beads", "kind", "steps"] ["beads", "kind"] (defScope s_all_of) := ⟨rfl, rfl, rfl, by decide +kernel, rfl, by decide +kernel, by decide +kernel⟩
/-! ### all_of -/
theorem all_init {CA : Addr} (D : DefI K CA "All.__init__" s_All_init ["self", "steps"]) (c_All : OwnC K mg "All" CA) (na_All_steps : NoAttr K CA "steps") : MakeD P w K mg base 1 CA (spInit CA "steps") :=
  makeD_of D sc_All_init c_All.i.c na_All_steps fun g cdv Ar outer s H E => pss_one (ps_fld (pv 0) (pv 1) rfl)
def ansK (CA CB : Addr) : Option Int → Kd
  | none => kO CB []
  | some s => kO CA [("steps", .int s)]
def A_all_of (K : PySem.W.Frag) (CA CB : Addr) (ks : List Kd) (r : Rs) : Prop := ∃ a b c k x y z : Int, ks = [k3 K a b c, kI k] ∧ 0 ≤ a ∧ 0 ≤ b ∧ 0 ≤ c ∧ 0 < a + b + c ∧ Sel k a b c x y z ∧ r = .v (ansK CA CB (stepsG x y (nk a b c)))
theorem sel_k {k a b c x y z : Int} (h : Sel k a b c x y z) : 0 ≤ k ∧ k ≤ 2 := by
  rcases h with ⟨rfl, _⟩ | ⟨rfl, _⟩ | ⟨rfl, _⟩ <;> decide
theorem et_isNo {e : TE} {δ : List Sl} {o : Option Int} (h : EvD e δ (kE (optV o))) : EvT (tTest (tOp (fun x y H Q => y = .non ∧ Q (.bl (decide (x = .non))) H) e (tC .non))) δ (decide (o = none)) :=
  et_test (ev_op h ev_c (op_isNk fun v H hv => by
    have hv : v = optV o := hv
    subst hv
    cases o with
    | none => rfl
    | some s => rfl))
theorem ok_all_of {C_All C_Barred : Addr} (B : Bt mg) (D : DefAt K mg "all_of" s_all_of ["beads", "kind"]) (d_asked_beads : CallD P w K mg base 2 "asked_beads" (spR (A_asked_beads K))) (d_asked_kind : CallD P w K mg base 2 "asked_kind" (spR (A_asked_kind K)))
    (d_steps_of : CallD P w K mg base 2 "steps_of" (spR (A_steps_of K))) (n_Barred : MkO K C_Barred) (c_Barred : OwnC K mg "Barred" C_Barred) (M_All : MakeD P w K mg base 1 C_All (spInit C_All "steps")) (c_All : OwnC K mg "All" C_All) : CallD P w K mg base 3 "all_of" (spR (A_all_of K C_All C_Barred)) := by
  refine callD_of D sc_all_of (by rintro ks r ⟨a, b, c, k, x, y, z, rfl, _⟩; rfl) fun f cdv Ar outer s H E hr => ⟨_, (pss_cons (ps_expr (pe_d d_asked_beads hr (by decide) (pa_cons (pv 0) pa_nil)))
      (pss_cons (ps_expr (pe_d d_asked_kind hr (by decide) (pa_cons (pv 1) pa_nil)))
      (pss_cons (ps_set (i := 2) sc_all_of.nd rfl (.inl rfl) (pe_d d_steps_of hr (by decide) (pa_cons (pv 0) (pa_cons (pv 1) pa_nil))))
      (pss_one (ps_ret (pe_ifExp (pt_cmpR op_isN (pv 2) pe_non (nomark _)) (pe_makeO n_Barred (by rfl) c_Barred.gC) (pe_mkD M_All hr (by decide) (by rfl) c_All.gC (pa_cons (pv 2) pa_nil)))))))), fun ks r h => ?_⟩
  obtain ⟨a, b, c, k, x, y, z, rfl, ha, hb, hc, hs, hx, rfl⟩ := h
  change DoesR _ _ [.sh _, .sh _, .no] _
  obtain ⟨k0, k2⟩ := sel_k hx
  refine' .inl (d_seq (d_drop (ev_call (ea_cons (ev_var rfl) ea_nil) ⟨a, b, c, rfl, ha, hb, hc, hs, rfl⟩)) (d_seq (d_drop (ev_call (ea_cons (ev_var rfl) ea_nil) ⟨k, rfl, k0, k2, rfl⟩)) (d_seq (d_asg (ev_call (ea_cons (ev_var rfl) (ea_cons (ev_var rfl) ea_nil)) ⟨a, b, c, k, x, y, z, rfl, hx, rfl⟩)) (d_ret (ev_if (et_isNo (ev_var rfl)) (fun e => ?n) (fun e => ?s))))))
  case n =>
    rw [of_decide_eq_true e]
    exact ev_new
  case s =>
    cases q : stepsG x y (nk a b c) with
    | none => rw [q] at e; cases e
    | some s => exact ev_make (ea_cons (ev_var rfl) ea_nil)
/-! ### fewlaw -/
/-- a walk through a list, the step told -/
def goodL {α σ : Type} (ok : σ → α → Prop) (step : σ → α → σ) : List α → σ → Prop
  | [], _ => True
  | a :: l, s => ok s a ∧ goodL ok step l (step s a)
theorem forRun_fold {g : TG} {tb : TS} {α σ : Type} {f : α → Kd} {ok : σ → α → Prop} {step : σ → α → σ} {S : σ → List Sl} (h : ∀ s a, ok s a → ∃ ws δ1, Bnd g ws (f a) (S s) δ1 ∧ Does tb δ1 (.nx (S (step s a)))) : ∀ (l : List α) (s : σ), goodL ok step l s → ForRun g tb (l.map f) (S s) (S (l.foldl step s))
  | [], s, _ => .nil
  | a :: l, s, q => by
    obtain ⟨ws, δ1, h1, h2⟩ := h s a q.1
    exact .cons h1 h2 (forRun_fold h l (step s a) q.2)
abbrev T3 := Int × Int × Int
abbrev canT (t : T3) : List (Int × Int) := canL t.1 t.2.1 t.2.2
abbrev metT (m : Int) (t : T3) (p : Int × Int) : T3 := metF t.1 t.2.1 t.2.2 p.1 p.2 m
abbrev sumT (t : T3) : Int := t.1 + t.2.1 + t.2.2
/-- meetings that can be, one behind the other -/
def goesL (m : Int) : List (Int × Int) → T3 → Prop := goodL (fun t p => p ∈ canT t) (metT m)
def endL (m : Int) (l : List (Int × Int)) (t : T3) : T3 := l.foldl (metT m) t
abbrev k3F (p : T3) : Kd := kF [kI p.1, kI p.2.1, kI p.2.2]
/-! ### turnlaw -/
theorem nk2 {a b c : Int} : 1 < nk a b c ↔ (0 < a ∧ 0 < b) ∨ (0 < a ∧ 0 < c) ∨ (0 < b ∧ 0 < c) := by
  unfold nk
  by_cases h1 : 0 < a <;> by_cases h2 : 0 < b <;> by_cases h3 : 0 < c <;> simp [h1, h2, h3]
/-- the next meeting to a kind -/
def nextK (k x y z : Int) : Int × Int := if x ≠ y ∧ 0 < z then (if y < x then (if k = 2 then (0, 2) else (0, 1)) else (if k = 0 then (0, 2) else (1, 2))) else (if k = 0 then (1, 2) else if k = 1 then (0, 2) else (0, 1))
def oneT (k : Int) (t : T3) : Int := if k = 0 then t.2.1 else t.1
def othT (k : Int) (t : T3) : Int := if k = 2 then t.2.1 else t.2.2
def ownT (k : Int) (t : T3) : Int := if k = 0 then t.1 else if k = 1 then t.2.1 else t.2.2
def tkL : Nat → Int → T3 → List (Int × Int)
  | 0, _, _ => []
  | n + 1, k, t => nextK k (oneT k t) (othT k t) (ownT k t) :: tkL n k (metT 2 t (nextK k (oneT k t) (othT k t) (ownT k t)))
theorem sel_fn {k a b c x y z : Int} (h : Sel k a b c x y z) : oneT k (a, b, c) = x ∧ othT k (a, b, c) = y ∧ ownT k (a, b, c) = z := by
  rcases h with ⟨rfl, rfl, rfl, rfl⟩ | ⟨rfl, rfl, rfl, rfl⟩ | ⟨rfl, rfl, rfl, rfl⟩ <;> exact ⟨rfl, rfl, rfl⟩
theorem tk_cons {k a b c x y z : Int} (h : Sel k a b c x y z) (n : Nat) : tkL (n + 1) k (a, b, c) = nextK k x y z :: tkL n k (metT 2 (a, b, c) (nextK k x y z)) := by
  obtain ⟨h1, h2, h3⟩ := sel_fn h
  rw [← h1, ← h2, ← h3]
  rfl
/-- what holds of the beads while they are brought to the kind -/
def InvK (n : Nat) (x y z : Int) : Prop := 0 ≤ x ∧ 0 ≤ y ∧ 0 ≤ z ∧ (x - y) % 3 = 0 ∧ max x y = n ∧ ((x = 0 ∧ y = 0) ∨ 0 < z ∨ (0 < x ∧ 0 < y))
/-- one meeting on -/
theorem stepK {n : Nat} {k a b c x y z : Int} (h : Sel k a b c x y z) (v : InvK (n + 1) x y z) : nextK k x y z ∈ canL a b c ∧ ∃ a' b' c' x' y' z', metT 2 (a, b, c) (nextK k x y z) = (a', b', c') ∧ Sel k a' b' c' x' y' z' ∧ InvK n x' y' z' ∧ a' + b' + c' = a + b + c := by
  obtain ⟨hx, hy, hz, hm, hn, hd⟩ := v
  have hcan : ∀ p : Int × Int, (p = (0, 1) ∧ 0 < a ∧ 0 < b) ∨ (p = (0, 2) ∧ 0 < a ∧ 0 < c) ∨ (p = (1, 2) ∧ 0 < b ∧ 0 < c) → p ∈ canL a b c := by
    rintro p (⟨rfl, h1⟩ | ⟨rfl, h1⟩ | ⟨rfl, h1⟩) <;> unfold canL <;> rw [if_pos h1] <;> simp
  by_cases q : x ≠ y ∧ 0 < z
  · by_cases g : y < x
    · rcases h with ⟨rfl, rfl, rfl, rfl⟩ | ⟨rfl, rfl, rfl, rfl⟩ | ⟨rfl, rfl, rfl, rfl⟩ <;> unfold nextK <;> rw [if_pos q, if_pos g]
      · exact ⟨hcan _ (.inl ⟨rfl, by omega, by omega⟩), z - 1, x - 1, y + 2, x - 1, y + 2, z - 1, rfl, .inl ⟨rfl, rfl, rfl, rfl⟩, ⟨by omega, by omega, by omega, by omega, by omega, by omega⟩, by omega⟩
      · exact ⟨hcan _ (.inl ⟨rfl, by omega, by omega⟩), x - 1, z - 1, y + 2, x - 1, y + 2, z - 1, rfl, .inr (.inl ⟨rfl, rfl, rfl, rfl⟩), ⟨by omega, by omega, by omega, by omega, by omega, by omega⟩, by omega⟩
      · exact ⟨hcan _ (.inr (.inl ⟨rfl, by omega, by omega⟩)), x - 1, y + 2, z - 1, x - 1, y + 2, z - 1, rfl, .inr (.inr ⟨rfl, rfl, rfl, rfl⟩), ⟨by omega, by omega, by omega, by omega, by omega, by omega⟩, by omega⟩
    · rcases h with ⟨rfl, rfl, rfl, rfl⟩ | ⟨rfl, rfl, rfl, rfl⟩ | ⟨rfl, rfl, rfl, rfl⟩ <;> unfold nextK <;> rw [if_pos q, if_neg g]
      · exact ⟨hcan _ (.inr (.inl ⟨rfl, by omega, by omega⟩)), z - 1, x + 2, y - 1, x + 2, y - 1, z - 1, rfl, .inl ⟨rfl, rfl, rfl, rfl⟩, ⟨by omega, by omega, by omega, by omega, by omega, by omega⟩, by omega⟩
      · exact ⟨hcan _ (.inr (.inr ⟨rfl, by omega, by omega⟩)), x + 2, z - 1, y - 1, x + 2, y - 1, z - 1, rfl, .inr (.inl ⟨rfl, rfl, rfl, rfl⟩), ⟨by omega, by omega, by omega, by omega, by omega, by omega⟩, by omega⟩
      · exact ⟨hcan _ (.inr (.inr ⟨rfl, by omega, by omega⟩)), x + 2, y - 1, z - 1, x + 2, y - 1, z - 1, rfl, .inr (.inr ⟨rfl, rfl, rfl, rfl⟩), ⟨by omega, by omega, by omega, by omega, by omega, by omega⟩, by omega⟩
  · rcases h with ⟨rfl, rfl, rfl, rfl⟩ | ⟨rfl, rfl, rfl, rfl⟩ | ⟨rfl, rfl, rfl, rfl⟩ <;> unfold nextK <;> rw [if_neg q]
    · exact ⟨hcan _ (.inr (.inr ⟨rfl, by omega, by omega⟩)), z + 2, x - 1, y - 1, x - 1, y - 1, z + 2, rfl, .inl ⟨rfl, rfl, rfl, rfl⟩, ⟨by omega, by omega, by omega, by omega, by omega, by omega⟩, by omega⟩
    · exact ⟨hcan _ (.inr (.inl ⟨rfl, by omega, by omega⟩)), x - 1, z + 2, y - 1, x - 1, y - 1, z + 2, rfl, .inr (.inl ⟨rfl, rfl, rfl, rfl⟩), ⟨by omega, by omega, by omega, by omega, by omega, by omega⟩, by omega⟩
    · exact ⟨hcan _ (.inl ⟨rfl, by omega, by omega⟩), x - 1, y - 1, z + 2, x - 1, y - 1, z + 2, rfl, .inr (.inr ⟨rfl, rfl, rfl, rfl⟩), ⟨by omega, by omega, by omega, by omega, by omega, by omega⟩, by omega⟩
theorem tk_fin : ∀ (n : Nat) {k a b c x y z : Int}, Sel k a b c x y z → InvK n x y z → goesL 2 (tkL n k (a, b, c)) (a, b, c) ∧ (tkL n k (a, b, c)).length = n ∧ ownT k (endL 2 (tkL n k (a, b, c)) (a, b, c)) = a + b + c
  | 0, k, a, b, c, x, y, z, h, v => by
    refine ⟨trivial, rfl, ?_⟩
    show ownT k (a, b, c) = _
    rw [(sel_fn h).2.2]
    obtain ⟨hx, hy, hz, hm, hn, hd⟩ := v
    rcases h with ⟨rfl, rfl, rfl, rfl⟩ | ⟨rfl, rfl, rfl, rfl⟩ | ⟨rfl, rfl, rfl, rfl⟩ <;> omega
  | n + 1, k, a, b, c, x, y, z, h, v => by
    obtain ⟨hc, a', b', c', x', y', z', e, h', v', hs⟩ := stepK h v
    obtain ⟨i1, i2, i3⟩ := tk_fin n h' v'
    rw [tk_cons h, e]
    refine ⟨⟨hc, ?_⟩, by rw [List.length_cons, i2], ?_⟩
    · rw [e]; exact i1
    · show ownT k (endL 2 _ (metT 2 (a, b, c) (nextK k x y z))) = _
      rw [e, i3, hs]
/-- the steps told are those of the invariant -/
theorem inv_of {k a b c x y z s : Int} (h : Sel k a b c x y z) (ha : 0 ≤ a) (hb : 0 ≤ b) (hc : 0 ≤ c) (e : stepsG x y (nk a b c) = some s) : ∃ n : Nat, s = n ∧ InvK n x y z := by
  unfold stepsG at e
  split at e
  · rename_i q
    cases e
    refine ⟨0, rfl, ?_⟩
    rcases h with ⟨rfl, rfl, rfl, rfl⟩ | ⟨rfl, rfl, rfl, rfl⟩ | ⟨rfl, rfl, rfl, rfl⟩ <;> exact ⟨by omega, by omega, by omega, by omega, by omega, .inl q⟩
  · rename_i q
    split at e
    · cases e
    · rename_i q2
      cases e
      have hn : ¬ nk a b c = 1 := fun z => q2 (.inl z)
      have hm : (x - y) % 3 = 0 := Decidable.not_not.mp fun z => q2 (.inr z)
      have hp : (0 < a ∧ 0 < b) ∨ (0 < a ∧ 0 < c) ∨ (0 < b ∧ 0 < c) := by
        have : 1 < nk a b c := by
          have h0 : nk a b c ≠ 0 := fun z => by
            unfold nk at z
            rcases h with ⟨rfl, rfl, rfl, rfl⟩ | ⟨rfl, rfl, rfl, rfl⟩ | ⟨rfl, rfl, rfl, rfl⟩ <;> split at z <;> split at z <;> split at z <;> omega
          omega
        exact nk2.mp this
      refine ⟨(max x y).toNat, ?_, ?_⟩
      · rcases h with ⟨rfl, rfl, rfl, rfl⟩ | ⟨rfl, rfl, rfl, rfl⟩ | ⟨rfl, rfl, rfl, rfl⟩ <;> omega
      · rcases h with ⟨rfl, rfl, rfl, rfl⟩ | ⟨rfl, rfl, rfl, rfl⟩ | ⟨rfl, rfl, rfl, rfl⟩ <;> exact ⟨by omega, by omega, by omega, hm, by omega, by omega⟩
/-! ### bfs -/
/-! all that meetings lead to -/
abbrev FS := List (T3 × Int)
def keyT (t : T3) : List Key := [.inl t.1, .inl t.2.1, .inl t.2.2]
def kvsOf (f : FS) : DK := f.map fun e => (keyT e.1, .int e.2)
def visit (m n : Int) (t : T3) (s : FS × List T3) (p : Int × Int) : FS × List T3 := if metT m t p ∈ s.1.map Prod.fst then s else (s.1 ++ [(metT m t p, n)], s.2 ++ [metT m t p])
def visitAll (m n : Int) (s : FS × List T3) (t : T3) : FS × List T3 := (canT t).foldl (visit m n t) s
def lev (m n : Int) (f : FS) (line : List T3) : FS × List T3 := line.foldl (visitAll m n) (f, [])
def bfsN (m : Int) : Nat → Int → FS → List T3 → FS
  | 0, _, f, _ => f
  | N + 1, n, f, line => if line = [] then f else bfsN m N (n + 1) (lev m (n + 1) f line).1 (lev m (n + 1) f line).2
theorem keyT_inj {t u : T3} (h : keyT t = keyT u) : t = u := by
  obtain ⟨a, b, c⟩ := t
  obtain ⟨x, y, z⟩ := u
  simp only [keyT, List.cons.injEq, Sum.inl.injEq] at h
  obtain ⟨rfl, rfl, rfl, _⟩ := h
  rfl
theorem valV_kvs (t : T3) : ∀ f : FS, (valV (kvsOf f) (keyT t) = none ↔ t ∉ f.map Prod.fst) ∧ ((f.map Prod.fst).Nodup → ∀ v, (t, v) ∈ f → valV (kvsOf f) (keyT t) = some (.int v))
  | [] => ⟨⟨fun _ h => (nomatch h), fun _ => rfl⟩, fun _ _ h => (nomatch h)⟩
  | e :: f => by
    obtain ⟨i1, i2⟩ := valV_kvs t f
    by_cases h : e.1 = t
    · have q : valV (kvsOf (e :: f)) (keyT t) = some (.int e.2) := valV_pos (show keyT e.1 = keyT t by rw [h])
      refine ⟨⟨fun z => (by rw [q] at z; cases z), fun z => absurd (by rw [List.map_cons, h]; exact List.mem_cons_self) z⟩, fun nd v hv => ?_⟩
      rcases List.mem_cons.mp hv with e2 | hv
      · rw [q, ← e2]
      · exact absurd (List.mem_map.mpr ⟨_, hv, rfl⟩) (by rw [List.map_cons, h] at nd; exact (List.nodup_cons.mp nd).1)
    · have q : valV (kvsOf (e :: f)) (keyT t) = valV (kvsOf f) (keyT t) := valV_neg (fun z => h (keyT_inj z))
      refine ⟨by rw [q, i1, List.map_cons, List.mem_cons]; exact ⟨fun z => fun w => w.elim (fun w => h w.symm) z, fun z w => z (.inr w)⟩, fun nd v hv => ?_⟩
      rw [q]
      rw [List.map_cons] at nd
      refine i2 (List.nodup_cons.mp nd).2 v ?_
      rcases List.mem_cons.mp hv with e2 | hv
      · exact absurd (by rw [← e2]) h
      · exact hv
theorem putK_kvs {t : T3} {f : FS} {n : Int} (h : t ∉ f.map Prod.fst) : putK (kvsOf f) (keyT t) (.int n) = kvsOf (f ++ [(t, n)]) := by
  unfold putK
  rw [if_neg]
  · unfold kvsOf
    rw [List.map_append]
    rfl
  · intro z
    obtain ⟨e, h1, h2⟩ := List.any_eq_true.mp z
    obtain ⟨e', h3, rfl⟩ := List.mem_map.mp h1
    exact h (List.mem_map.mpr ⟨e', h3, keyT_inj (of_decide_eq_true h2)⟩)
def Ub (t : T3) : Prop := 0 ≤ t.1 ∧ 0 ≤ t.2.1 ∧ 0 ≤ t.2.2 ∧ sumT t ≤ 18
def cube : List T3 := (List.range 19).flatMap fun (a : Nat) => (List.range 19).flatMap fun (b : Nat) => (List.range 19).map fun (c : Nat) => ((a : Int), (b : Int), (c : Int))
theorem cube_len : cube.length = 6859 := by decide +kernel
theorem cube_mem {t : T3} (h : Ub t) : t ∈ cube := by
  obtain ⟨a, b, c⟩ := t
  obtain ⟨h1, h2, h3, h4⟩ := h
  change 0 ≤ a at h1
  change 0 ≤ b at h2
  change 0 ≤ c at h3
  change a + b + c ≤ 18 at h4
  refine List.mem_flatMap.mpr ⟨a.toNat, List.mem_range.mpr (by omega), List.mem_flatMap.mpr ⟨b.toNat, List.mem_range.mpr (by omega), List.mem_map.mpr ⟨c.toNat, List.mem_range.mpr (by omega), ?_⟩⟩⟩
  rw [Int.toNat_of_nonneg h1, Int.toNat_of_nonneg h2, Int.toNat_of_nonneg h3]
theorem nodup_le : ∀ (l U : List T3), l.Nodup → (∀ x ∈ l, x ∈ U) → l.length ≤ U.length
  | [], _, _, _ => Nat.zero_le _
  | x :: l, U, nd, h => by
    have nd := List.nodup_cons.mp nd
    have i := nodup_le l (U.erase x) nd.2 fun y hy => (List.mem_erase_of_ne (fun z => nd.1 (by rw [← z]; exact hy))).mpr (h y (List.mem_cons_of_mem _ hy))
    have hx := h x List.mem_cons_self
    rw [List.length_erase_of_mem hx] at i
    have : 0 < U.length := List.length_pos_of_mem hx
    rw [List.length_cons]
    omega
/-- so many meetings lead from b to t -/
def Reach (m : Int) (b t : T3) (n : Int) : Prop := ∃ l, goesL m l b ∧ endL m l b = t ∧ (l.length : Int) = n
theorem goes_snoc {m : Int} {p : Int × Int} : ∀ {l : List (Int × Int)} {b : T3}, goesL m l b → p ∈ canT (endL m l b) → goesL m (l ++ [p]) b ∧ endL m (l ++ [p]) b = metT m (endL m l b) p
  | [], b, _, h => ⟨⟨h, trivial⟩, rfl⟩
  | a :: l, b, g, h => by
    have i := goes_snoc (l := l) (b := metT m b a) g.2 h
    exact ⟨⟨g.1, i.1⟩, i.2⟩
/-- each entry is what so many meetings lead to -/
structure Fnd (m : Int) (b : T3) (n : Int) (f : FS) : Prop where
  nd : (f.map Prod.fst).Nodup
  ok : ∀ e ∈ f, Ub e.1 ∧ Reach m b e.1 e.2 ∧ 0 ≤ e.2 ∧ e.2 ≤ n
  b0 : (b, 0) ∈ f
def SuccOk (m : Int) (f : FS) (e : T3 × Int) (p : Int × Int) : Prop := ∃ v, (metT m e.1 p, v) ∈ f ∧ v ≤ e.2 + 1
/-- between two levels -/
structure Inv0 (m : Int) (b : T3) (n : Int) (f : FS) (line : List T3) : Prop where
  fd : Fnd m b n f
  ln : ∀ t ∈ line, (t, n) ∈ f
  cl : ∀ e ∈ f, e.1 ∈ line ∨ ∀ p ∈ canT e.1, SuccOk m f e p
/-- within a level: the beads still to come, the one that is at work and its meetings still to come -/
structure Mid (m : Int) (b : T3) (n : Int) (k : Nat) (s : FS × List T3) (todo : List T3) (t : T3) (ps : List (Int × Int)) : Prop where
  fd : Fnd m b (n + 1) s.1
  bh : ∀ u ∈ s.2, (u, n + 1) ∈ s.1
  td : ∀ u ∈ todo, (u, n) ∈ s.1
  tn : ps ≠ [] → (t, n) ∈ s.1
  pc : ∀ p ∈ ps, p ∈ canT t
  ln : s.1.length = k + s.2.length
  cl : ∀ e ∈ s.1, e.1 ∈ s.2 ∨ e.1 ∈ todo ∨ (e = (t, n) ∧ ∀ p ∈ canT t, p ∈ ps ∨ SuccOk m s.1 e p) ∨ ∀ p ∈ canT e.1, SuccOk m s.1 e p
theorem Fnd.len {m : Int} {b : T3} {n : Int} {f : FS} (h : Fnd m b n f) : f.length ≤ 6859 := by
  have i := nodup_le (f.map Prod.fst) cube h.nd fun x hx => by
    obtain ⟨e, h1, rfl⟩ := List.mem_map.mp hx
    exact cube_mem (h.ok e h1).1
  rw [List.length_map, cube_len] at i
  exact i
theorem Fnd.uniq {m : Int} {b : T3} {n : Int} {f : FS} (h : Fnd m b n f) {t : T3} {v w : Int} (h1 : (t, v) ∈ f) (h2 : (t, w) ∈ f) : v = w := by
  have a := (valV_kvs t f).2 h.nd v h1
  have c := (valV_kvs t f).2 h.nd w h2
  rw [a] at c
  cases c
  rfl
theorem ub_met {m : Int} (hm : m = 1 ∨ m = 2) {t : T3} {p : Int × Int} (h : Ub t) (hp : p ∈ canT t) : Ub (metT m t p) := by
  obtain ⟨a, b, c⟩ := t
  obtain ⟨i, j⟩ := p
  obtain ⟨h1, h2, h3, h4⟩ := h
  change 0 ≤ a at h1
  change 0 ≤ b at h2
  change 0 ≤ c at h3
  change a + b + c ≤ 18 at h4
  have hp : (i, j) ∈ canL a b c := hp
  rcases canL_mem hp with ⟨rfl, rfl, q1, q2⟩ | ⟨rfl, rfl, q1, q2⟩ | ⟨rfl, rfl, q1, q2⟩
  · exact ⟨show 0 ≤ a - 1 by omega, show 0 ≤ b - 1 by omega, show 0 ≤ c + m by omega, show a - 1 + (b - 1) + (c + m) ≤ 18 by omega⟩
  · exact ⟨show 0 ≤ a - 1 by omega, show 0 ≤ b + m by omega, show 0 ≤ c - 1 by omega, show a - 1 + (b + m) + (c - 1) ≤ 18 by omega⟩
  · exact ⟨show 0 ≤ a + m by omega, show 0 ≤ b - 1 by omega, show 0 ≤ c - 1 by omega, show a + m + (b - 1) + (c - 1) ≤ 18 by omega⟩
theorem SuccOk.mono {m : Int} {f g : FS} {e : T3 × Int} {p : Int × Int} (h : SuccOk m f e p) (hs : ∀ x ∈ f, x ∈ g) : SuccOk m g e p := let ⟨v, h1, h2⟩ := h; ⟨v, hs _ h1, h2⟩
/-- one meeting looked at -/
theorem Mid.visit {m : Int} (hm : m = 1 ∨ m = 2) {b : T3} {n : Int} {k : Nat} {s : FS × List T3} {todo : List T3} {t : T3} {p : Int × Int} {ps : List (Int × Int)} (h : Mid m b n k s todo t (p :: ps)) : Mid m b n k (visit m (n + 1) t s p) todo t ps := by
  have hp := h.pc p List.mem_cons_self
  have ht := h.tn (fun z => nomatch z)
  unfold My.visit
  by_cases q : metT m t p ∈ s.1.map Prod.fst
  · rw [if_pos q]
    obtain ⟨⟨u, v⟩, h1, h2⟩ := List.mem_map.mp q
    change u = _ at h2
    subst h2
    refine ⟨h.fd, h.bh, h.td, fun _ => ht, fun p' hp' => h.pc p' (List.mem_cons_of_mem _ hp'), h.ln, fun e he => ?_⟩
    rcases h.cl e he with c | c | ⟨c1, c2⟩ | c
    · exact .inl c
    · exact .inr (.inl c)
    · refine .inr (.inr (.inl ⟨c1, fun p' hp' => ?_⟩))
      rcases c2 p' hp' with c3 | c3
      · rcases List.mem_cons.mp c3 with rfl | c3
        · refine .inr ⟨v, ?_, ?_⟩
          · rw [c1]; exact h1
          · rw [c1]; exact (h.fd.ok _ h1).2.2.2
        · exact .inl c3
      · exact .inr c3
    · exact .inr (.inr (.inr c))
  · rw [if_neg q]
    have sub : ∀ x ∈ s.1, x ∈ s.1 ++ [(metT m t p, n + 1)] := fun x hx => List.mem_append_left _ hx
    have new : (metT m t p, n + 1) ∈ s.1 ++ [(metT m t p, n + 1)] := List.mem_append_right _ List.mem_cons_self
    have t1 := h.fd.ok _ ht
    refine ⟨⟨?_, fun e he => ?_, sub _ h.fd.b0⟩, fun u hu => ?_, fun u hu => sub _ (h.td u hu), fun _ => sub _ ht, fun p' hp' => h.pc p' (List.mem_cons_of_mem _ hp'), ?_, fun e he => ?_⟩
    · show ((s.1 ++ [(metT m t p, n + 1)]).map Prod.fst).Nodup
      rw [List.map_append]
      refine List.nodup_append.mpr ⟨h.fd.nd, List.pairwise_singleton _ _, fun x hx y hy z => q ?_⟩
      have hy2 : y = metT m t p := by simpa using hy
      rw [← hy2, ← z]
      exact hx
    · rcases List.mem_append.mp he with he | he
      · exact h.fd.ok e he
      · rw [List.mem_singleton.mp he]
        obtain ⟨l, g1, g2, g3⟩ := t1.2.1
        have g4 := goes_snoc (p := p) g1 (by rw [g2]; exact hp)
        refine ⟨ub_met hm t1.1 hp, ⟨l ++ [p], g4.1, by rw [g4.2, g2], by rw [List.length_append, List.length_singleton]; show ((l.length + 1 : Nat) : Int) = n + 1; have : (l.length : Int) = n := g3; omega⟩, ?_, Int.le_refl _⟩
        have : 0 ≤ n := t1.2.2.1
        show 0 ≤ n + 1
        omega
    · rcases List.mem_append.mp hu with hu | hu
      · exact sub _ (h.bh u hu)
      · rw [List.mem_singleton.mp hu]
        exact new
    · show (s.1 ++ [_]).length = k + (s.2 ++ [_]).length
      rw [List.length_append, List.length_append, h.ln]
      rfl
    · rcases List.mem_append.mp he with he | he
      · rcases h.cl e he with c | c | ⟨c1, c2⟩ | c
        · exact .inl (List.mem_append_left _ c)
        · exact .inr (.inl c)
        · refine .inr (.inr (.inl ⟨c1, fun p' hp' => ?_⟩))
          rcases c2 p' hp' with c3 | c3
          · rcases List.mem_cons.mp c3 with rfl | c3
            · refine .inr ⟨n + 1, ?_, ?_⟩
              · rw [c1]; exact new
              · rw [c1]; exact Int.le_refl _
            · exact .inl c3
          · exact .inr (c3.mono sub)
        · exact .inr (.inr (.inr fun p' hp' => (c p' hp').mono sub))
      · rw [List.mem_singleton.mp he]
        exact .inl (List.mem_append_right _ List.mem_cons_self)
/-- the next beads of the line -/
theorem Mid.next {m : Int} {b : T3} {n : Int} {k : Nat} {s : FS × List T3} {todo : List T3} {t u : T3} (h : Mid m b n k s (u :: todo) t []) : Mid m b n k s todo u (canT u) := by
  have hu := h.td u List.mem_cons_self
  refine ⟨h.fd, h.bh, fun x hx => h.td x (List.mem_cons_of_mem _ hx), fun _ => hu, fun _ hp => hp, h.ln, fun e he => ?_⟩
  rcases h.cl e he with c | c | ⟨c1, c2⟩ | c
  · exact .inl c
  · rcases List.mem_cons.mp c with c | c
    · refine .inr (.inr (.inl ⟨?_, fun _ hp => .inl hp⟩))
      obtain ⟨x, v⟩ := e
      change x = u at c
      subst c
      rw [h.fd.uniq he hu]
    · exact .inr (.inl c)
  · refine .inr (.inr (.inr fun p hp => ?_))
    subst c1
    rcases c2 p hp with z | z
    · cases z
    · exact z
  · exact .inr (.inr (.inr c))
theorem Inv0.start {m : Int} {b : T3} {n : Int} {f : FS} {line : List T3} (h : Inv0 m b n f line) (t : T3) : Mid m b n f.length (f, []) line t [] :=
  ⟨⟨h.fd.nd, fun e he => let ⟨h1, h2, h3, h4⟩ := h.fd.ok e he; ⟨h1, h2, h3, by omega⟩, h.fd.b0⟩, fun _ z => (nomatch z), h.ln, fun z => absurd rfl z, fun _ z => (nomatch z), rfl, fun e he => (h.cl e he).elim (fun c => .inr (.inl c)) fun c => .inr (.inr (.inr c))⟩
theorem Mid.fin {m : Int} {b : T3} {n : Int} {k : Nat} {s : FS × List T3} {t : T3} (h : Mid m b n k s [] t []) : Inv0 m b (n + 1) s.1 s.2 := by
  refine ⟨h.fd, h.bh, fun e he => ?_⟩
  rcases h.cl e he with c | c | ⟨c1, c2⟩ | c
  · exact .inl c
  · cases c
  · refine .inr fun p hp => ?_
    subst c1
    rcases c2 p hp with z | z
    · cases z
    · exact z
  · exact .inr c
theorem mid_all {m : Int} (hm : m = 1 ∨ m = 2) {b : T3} {n : Int} {k : Nat} {todo : List T3} {t : T3} : ∀ (ps : List (Int × Int)) (s : FS × List T3), Mid m b n k s todo t ps → Mid m b n k (ps.foldl (My.visit m (n + 1) t) s) todo t []
  | [], s, h => h
  | p :: ps, s, h => mid_all hm ps _ (h.visit hm)
theorem mid_line {m : Int} (hm : m = 1 ∨ m = 2) {b : T3} {n : Int} {k : Nat} : ∀ (line : List T3) (s : FS × List T3) (t : T3), Mid m b n k s line t [] → ∃ t', Mid m b n k (line.foldl (visitAll m (n + 1)) s) [] t' []
  | [], s, t, h => ⟨t, h⟩
  | u :: line, s, t, h => mid_line hm line _ u (mid_all hm (canT u) s h.next)
theorem Inv0.lev {m : Int} (hm : m = 1 ∨ m = 2) {b : T3} {n : Int} {f : FS} {line : List T3} (h : Inv0 m b n f line) : Inv0 m b (n + 1) (lev m (n + 1) f line).1 (lev m (n + 1) f line).2 ∧ (lev m (n + 1) f line).1.length = f.length + (lev m (n + 1) f line).2.length := by
  obtain ⟨t', q⟩ := mid_line hm line (f, []) b (h.start b)
  exact ⟨q.fin, q.ln⟩
theorem bfs_inv {m : Int} (hm : m = 1 ∨ m = 2) {b : T3} : ∀ (N : Nat) (n : Int) (f : FS) (line : List T3), Inv0 m b n f line → 6861 ≤ N + f.length + (if line = [] then 1 else 0) → ∃ n', Inv0 m b n' (bfsN m N n f line) []
  | 0, n, f, line, h, hN => by
    have := h.fd.len
    split at hN <;> omega
  | N + 1, n, f, line, h, hN => by
    unfold bfsN
    by_cases q : line = []
    · rw [if_pos q]
      subst q
      exact ⟨n, h⟩
    · rw [if_neg q]
      rw [if_neg q] at hN
      obtain ⟨h1, h2⟩ := h.lev hm
      refine bfs_inv hm N _ _ _ h1 ?_
      split
      · omega
      · rename_i z
        have : 0 < (lev m (n + 1) f line).2.length := List.length_pos_iff.mpr z
        omega
/-- the beads that a script gives, at the start -/
theorem inv_start {m : Int} {b : T3} (h : Ub b) : Inv0 m b 0 [(b, 0)] [b] :=
  ⟨⟨List.pairwise_singleton _ _, fun e he => by rw [List.mem_singleton.mp he]; exact ⟨h, ⟨[], trivial, rfl, rfl⟩, Int.le_refl _, Int.le_refl _⟩, List.mem_cons_self⟩, fun t ht => by rw [List.mem_singleton.mp ht]; exact List.mem_cons_self, fun e he => by rw [List.mem_singleton.mp he]; exact .inl List.mem_cons_self⟩
def reachF (m : Int) (b : T3) : FS := bfsN m 7000 0 [(b, 0)] [b]
/-- what is found: just what meetings lead to, each by the fewest -/
theorem reach_all {m : Int} {b : T3} {n : Int} {f : FS} (h : Inv0 m b n f []) : ∀ (l : List (Int × Int)) (t : T3) (v : Int), (t, v) ∈ f → goesL m l t → ∃ w, (endL m l t, w) ∈ f ∧ w ≤ v + l.length
  | [], t, v, ht, _ => ⟨v, ht, by simp⟩
  | p :: l, t, v, ht, g => by
    rcases h.cl (t, v) ht with c | c
    · cases c
    · obtain ⟨w, h1, h2⟩ := c p g.1
      obtain ⟨x, h3, h4⟩ := reach_all h l (metT m t p) w h1 g.2
      have h2 : w ≤ v + 1 := h2
      exact ⟨x, h3, by rw [List.length_cons]; omega⟩
theorem reach_spec {m : Int} (hm : m = 1 ∨ m = 2) {b : T3} (hb : Ub b) : ((reachF m b).map Prod.fst).Nodup ∧ (∀ t v, (t, v) ∈ reachF m b → Ub t ∧ Reach m b t v) ∧ ∀ l, goesL m l b → ∃ w, (endL m l b, w) ∈ reachF m b ∧ w ≤ l.length := by
  obtain ⟨n, h⟩ := bfs_inv hm 7000 0 [(b, 0)] [b] (inv_start hb) (by simp)
  refine ⟨h.fd.nd, fun t v ht => ⟨(h.fd.ok _ ht).1, (h.fd.ok _ ht).2.1⟩, fun l g => ?_⟩
  obtain ⟨w, h1, h2⟩ := reach_all h l b 0 h.fd.b0 g
  exact ⟨w, h1, by omega⟩
abbrev s_law_number : Stmt := top 24
theorem sc_law_number : FnScope ["_law_cell", "_law_at", "_law_whole", "_law_blend", "_law_more"] ["_law_cell", "_law_at", "_law_whole"] (defScope s_law_number) := ⟨rfl, rfl, rfl, by decide +kernel, rfl, by decide +kernel, by decide +kernel⟩
/-! ### law_number -/
def lawNum (cell at_ whole : Int) : Int := if (decide ((10 : Int) ^ (Int.toNat 18) ≤ cell)) = true then cell.fdiv (1 + at_ % 7) else
  (((((cell + 977 * at_) * 48271 + whole) % 2147483647 * (cell + 31 * at_ + 7)) * (((cell + 977 * at_) * 48271 + whole) % 2147483647 + cell + 5)) * ((((cell + 977 * at_) * 48271 + whole) % 2147483647) * (((cell + 977 * at_) * 48271 + whole) % 2147483647) + 11)).fdiv (1009 + at_)
def A_law_number (K : PySem.W.Frag) (ks : List Kd) (r : Rs) : Prop := ∃ (cell at_ whole : Int) (n : Nat), ks = [kI cell, kI at_, kI whole] ∧ Nb cell n ∧ n ≤ 1048576 ∧ 0 ≤ at_ ∧ at_ ≤ 1000 ∧ r = .v (kI (lawNum cell at_ whole))
theorem ok_law_number (B : Bt mg) (D : DefAt K mg "_law_number" s_law_number ["_law_cell", "_law_at", "_law_whole"]) : CallD P w K mg base 1 "_law_number" (spR (A_law_number K)) := by
  refine callD_of D sc_law_number (by rintro ks r ⟨a, b, c, n, rfl, _⟩; rfl) fun f cdv Ar outer s H E hr => ⟨_, (pss_cons (ps_if (pt_cmpR op_ge (pv 0) (pe_op op_pow pe_int pe_int) (nomark _)) (pss_one (ps_ret (pe_op op_fdivN (pv 0) (pe_op op_add pe_int (pe_op op_mod (pv 1) pe_int))))) pss_nil)
      (pss_cons (ps_set (i := 3) sc_law_number.nd rfl (.inl rfl) (pe_op op_mod (pe_op op_add (pe_op op_mulB (pe_op op_add (pv 0) (pe_op op_mulB pe_int (pv 1))) pe_int) (pv 2)) pe_int))
      (pss_cons (ps_set (i := 4) sc_law_number.nd rfl (.inl rfl) (pe_op op_mulB (pv 3) (pe_op op_add (pe_op op_add (pv 0) (pe_op op_mulB pe_int (pv 1))) pe_int)))
      (pss_one (ps_ret (pe_op op_fdivN (pe_op op_mulB (pe_op op_mulB (pv 4) (pe_op op_add (pe_op op_add (pv 3) (pv 0)) pe_int)) (pe_op op_add (pe_op op_mulB (pv 3) (pv 3)) pe_int)) (pe_op op_add pe_int (pv 1)))))))), fun ks r h => ?_⟩
  obtain ⟨cell, at_, whole, n, rfl, hn, hn2, h0, h1, rfl⟩ := h
  change DoesR _ _ [.sh _, .sh _, .sh _, .no, .no] _
  have na : Nb at_ 10 := Nb.range h0 (by show at_ < 1024; omega)
  have nc : Nb cell (n + 20) := hn.mono (by omega)
  have m1 : CMulB 977 at_ := cmul_of (n := 10) (m := 10) (by unfold Nb; decide) na (by decide)
  have n1 : Nb (977 * at_) (n + 20) := ((show Nb 977 10 by unfold Nb; decide).mul na).mono (by omega)
  have m2 : CMulB (cell + 977 * at_) 48271 := cmul_of (nc.add n1) (show Nb 48271 16 by unfold Nb; decide) (by omega)
  have m3 : CMulB 31 at_ := cmul_of (n := 5) (m := 10) (by unfold Nb; decide) na (by decide)
  have n3 : Nb (31 * at_) (n + 20) := ((show Nb 31 5 by unfold Nb; decide).mul na).mono (by omega)
  have n4 : Nb (cell + 31 * at_ + 7) (n + 22) := (nc.add n3).add ((show Nb 7 3 by unfold Nb; decide).mono (by omega))
  have d1 : CDivN cell (1 + at_ % 7) := ⟨by omega, by omega⟩
  refine' .inl (d_seqif ?t1 (fun e => d_ret1 (d_to (d_ret ?v1) ?q1)) (fun e => d_seq d_next ?r))
  case t1 => walk_at "dx et"
  case v1 => walk_at "dx ev"
  case q1 =>
    unfold lawNum
    rw [if_pos e]
  case r =>
    refine' d_seq (d_asg ?v2) ?r
    case v2 => walk_at "dx ev"
    case r =>
      have hb0 : 0 ≤ ((cell + 977 * at_) * 48271 + whole) % 2147483647 := Int.emod_nonneg _ (by decide)
      have hb1 : ((cell + 977 * at_) * 48271 + whole) % 2147483647 < 2147483647 := Int.emod_lt_of_pos _ (by decide)
      unfold lawNum
      rw [if_neg (by rw [e]; exact Bool.false_ne_true)]
      generalize ((cell + 977 * at_) * 48271 + whole) % 2147483647 = bl at hb0 hb1 ⊢
      have nb : Nb bl 31 := Nb.range hb0 (by show bl < 2147483648; omega)
      have m4 : CMulB bl (cell + 31 * at_ + 7) := cmul_of nb n4 (by omega)
      have n5 : Nb (bl * (cell + 31 * at_ + 7)) (31 + (n + 22)) := nb.mul n4
      have n6 : Nb (bl + cell + 5) (n + 20 + 11 + 1 + 1) := ((nb.mono (by omega)).add (nc.mono (by omega))).add ((show Nb 5 3 by unfold Nb; decide).mono (by omega))
      have m5 : CMulB (bl * (cell + 31 * at_ + 7)) (bl + cell + 5) := cmul_of n5 n6 (by omega)
      have n7 := n5.mul n6
      have m6 : CMulB bl bl := cmul_of nb nb (by decide)
      have n8 : Nb (bl * bl + 11) (62 + 1) := (nb.mul nb).add ((show Nb 11 4 by unfold Nb; decide).mono (by decide))
      have m7 : CMulB (bl * (cell + 31 * at_ + 7) * (bl + cell + 5)) (bl * bl + 11) := cmul_of n7 n8 (by omega)
      have d2 : CDivN (bl * (cell + 31 * at_ + 7) * (bl + cell + 5) * (bl * bl + 11)) (1009 + at_) := ⟨by omega, by omega⟩
      refine' d_seq (d_asg ?v3) (d_ret ?v4)
      case v3 => walk_at "dx ev"
      case v4 => walk_at "dx ev"
abbrev s_law_can : Stmt := top 26
theorem sc_law_can : FnScope ["_law_beads_here", "_law_pair"] ["_law_beads_here"] (defScope s_law_can) := ⟨rfl, rfl, rfl, by decide +kernel, rfl, by decide +kernel, by decide +kernel⟩
/-! ### law_can -/
def A_law_can (K : PySem.W.Frag) (ks : List Kd) (r : Rs) : Prop := ∃ a b c : Int, ks = [k3 K a b c] ∧ r = .nl ((canL a b c).map (kP K))
theorem ok_law_can (B : Bt mg) (D : DefAt K mg "_law_can" s_law_can ["_law_beads_here"]) : CallD P w K mg base 1 "_law_can" (spR (A_law_can K)) := by
  refine callD_of D sc_law_can (by rintro ks r ⟨a, b, c, rfl, _⟩; rfl) fun f cdv Ar outer s H E hr => ⟨_, (pss_one (ps_ret (pe_lc (own := [("_law_pair", 1)]) (g := (gName 1))  rfl sc_law_can.nd (pi_listK (K := K) (pe_lst (pa_cons (pe_tup (pa_cons pe_int (pa_cons pe_int pa_nil))) (pa_cons (pe_tup (pa_cons pe_int (pa_cons pe_int pa_nil))) (pa_cons (pe_tup (pa_cons pe_int (pa_cons pe_int pa_nil))) pa_nil)))) rfl) (blkOk_by (own := [("_law_pair", 1)]) (N := ["_law_beads_here", "_law_pair"]) (sc := defScope s_law_can) (by decide +kernel)) (fun _ _ _ _ _ => (pg_name (i := 1) sc_law_can.nd rfl (.inl rfl))) (fun _ _ _ _ _ => (pts_one (PW.pt (pw_and (pt_cmpR op_gt (pe_ix (ix_seqK (K := K) rfl) (pv 0) (pe_ix (ix_seqK (K := K) rfl) (pv 1) pe_int (fun _ _ => rfl)) (fun _ _ => rfl)) pe_int (nomark _)) (pw_and1 (pt_cmpR op_gt (pe_ix (ix_seqK (K := K) rfl) (pv 0) (pe_ix (ix_seqK (K := K) rfl) (pv 1) pe_int (fun _ _ => rfl)) (fun _ _ => rfl)) pe_int (nomark _))))))) (fun _ _ _ _ _ => (pv 1))))), fun ks r h => ?_⟩
  obtain ⟨a, b, c, rfl, rfl⟩ := h
  change DoesR _ _ [.sh _, .no] _
  refine' d_rto (d_retN ?en) ?q
  case en => walk_at "dx en"
  case q => exact canL_of and_pos and_pos and_pos
abbrev s_law_met : Stmt := top 27
theorem sc_law_met : FnScope ["_law_beads_here", "_law_pair", "_law_more", "_law_found"] ["_law_beads_here", "_law_pair", "_law_more"] (defScope s_law_met) := ⟨rfl, rfl, rfl, by decide +kernel, rfl, by decide +kernel, by decide +kernel⟩
/-! ### law_metT -/
abbrev kRt (t : T3) : Kd := kTr [kI t.1, kI t.2.1, kI t.2.2]
def A_law_met (K : PySem.W.Frag) (ks : List Kd) (r : Rs) : Prop := ∃ a b c i j m : Int, ks = [k3 K a b c, k2 K i j, kI m] ∧ Pr i j ∧ r = .v (kRt (metF a b c i j m))
theorem ok_law_met (B : Bt mg) (D : DefAt K mg "_law_met" s_law_met ["_law_beads_here", "_law_pair", "_law_more"]) : CallD P w K mg base 1 "_law_met" (spR (A_law_met K)) := by
  refine callD_of D sc_law_met (by rintro ks r ⟨a, b, c, i, j, m, rfl, _⟩; rfl) fun f cdv Ar outer s H E hr => ⟨_, (pss_cons (ps_set (i := 3) sc_law_met.nd rfl (.inl rfl) (pe_callTy (call_listK (K := K) rfl) (by rfl) B.b_list (by decide +kernel) (pa_cons (pv 0) pa_nil)))
      (pss_cons (ps_asg (pe_op op_sub (pe_ix (ix_seqK (K := K) rfl) (pv 3) (pe_ix (ix_seqK (K := K) rfl) (pv 1) pe_int (fun _ _ => rfl)) (fun _ _ => rfl)) pe_int) (pg_sub (pv 3) (pe_ix (ix_seqK (K := K) rfl) (pv 1) pe_int (fun _ _ => rfl)) set_list))
      (pss_cons (ps_asg (pe_op op_sub (pe_ix (ix_seqK (K := K) rfl) (pv 3) (pe_ix (ix_seqK (K := K) rfl) (pv 1) pe_int (fun _ _ => rfl)) (fun _ _ => rfl)) pe_int) (pg_sub (pv 3) (pe_ix (ix_seqK (K := K) rfl) (pv 1) pe_int (fun _ _ => rfl)) set_list))
      (pss_cons (ps_asg (pe_op op_add (pe_ix (ix_seqK (K := K) rfl) (pv 3) (pe_op op_sub (pe_op op_sub pe_int (pe_ix (ix_seqK (K := K) rfl) (pv 1) pe_int (fun _ _ => rfl))) (pe_ix (ix_seqK (K := K) rfl) (pv 1) pe_int (fun _ _ => rfl))) (fun _ _ => rfl)) (pv 2)) (pg_sub (pv 3) (pe_op op_sub (pe_op op_sub pe_int (pe_ix (ix_seqK (K := K) rfl) (pv 1) pe_int (fun _ _ => rfl))) (pe_ix (ix_seqK (K := K) rfl) (pv 1) pe_int (fun _ _ => rfl))) set_list))
      (pss_one (ps_ret (pe_tup (pa_cons (pe_ix (ix_seqK (K := K) rfl) (pv 3) pe_int (fun _ _ => rfl)) (pa_cons (pe_ix (ix_seqK (K := K) rfl) (pv 3) pe_int (fun _ _ => rfl)) (pa_cons (pe_ix (ix_seqK (K := K) rfl) (pv 3) pe_int (fun _ _ => rfl)) pa_nil)))))))))), fun ks r h => ?_⟩
  obtain ⟨a, b, c, i, j, m, rfl, hp, rfl⟩ := h
  change DoesR _ _ [.sh _, .sh _, .sh _, .no] _
  rcases hp with ⟨rfl, rfl⟩ | ⟨rfl, rfl⟩ | ⟨rfl, rfl⟩
  all_goals
    refine' .inl (d_seq (d_asgN ?e1) (d_seq (d_setO rfl (ev_fz ?e2) (ev_fz ?e3) ?j1) (d_seq (d_setO rfl (ev_fz ?e4) (ev_fz ?e5) ?j2) (d_seq (d_setO rfl (ev_fz ?e6) (ev_fz ?e7) ?j3) (d_frz (i := 3) rfl (d_le (d_ret ?e8) ?q))))))
    case e1 => walk_at "dx en"
    case e2 => walk_at "dx ev"
    case e3 => walk_at "dx ev"
    case j1 => rfl
    case e4 => walk_at "dx ev"
    case e5 => walk_at "dx ev"
    case j2 => rfl
    case e6 => walk_at "dx ev"
    case e7 => walk_at "dx ev"
    case j3 => rfl
    case e8 => exact ev_tupTr (by walk_at "dx ea") (Nat.le_of_ble_eq_true rfl)
    case q => exact Kd.le.refl _
abbrev s_law_beads : Stmt := top 25
theorem sc_law_beads : FnScope ["_law_script", "_law_by", "_law_wide", "_law_cells", "_law_whole", "_law_found", "_law_kind", "_law_number_here"] ["_law_script", "_law_by", "_law_wide"] (defScope s_law_beads) := ⟨rfl, rfl, rfl, by decide +kernel, rfl, by decide +kernel, by decide +kernel⟩
/-! ### law_beadsT -/
@[irreducible] def bigN : Nat := 1048576
theorem bigN_eq : bigN = 1048576 := by unfold bigN; rfl
def lbCells (ns : List Int) : List Int := if ns = [] then [5] else ns.take 63
def lbWhole (ns : List Int) (by_ : Int) : Int := (if (lbCells ns).sum < 0 then -(lbCells ns).sum else (lbCells ns).sum) + by_
def lbNum (ns : List Int) (by_ k : Int) : Int := (lawNum ((lbCells ns).getD ((k + by_) % (lbCells ns).length).toNat 0) (k + 3 * by_) (lbWhole ns by_)).fdiv 3
def lbV (ns : List Int) (by_ wide k : Int) : Int := if (lbNum ns by_ k).fdiv 7 % 5 = 0 then 0 else lbNum ns by_ k % wide
def lawBeads (ns : List Int) (by_ wide : Int) : Int × Int × Int :=
  if lbV ns by_ wide 0 = 0 ∧ lbV ns by_ wide 1 = 0 ∧ lbV ns by_ wide 2 = 0 then
    (if lbWhole ns by_ % 3 = 0 then (1 + lbWhole ns by_ % wide, 0, 0) else if lbWhole ns by_ % 3 = 1 then (0, 1 + lbWhole ns by_ % wide, 0) else (0, 0, 1 + lbWhole ns by_ % wide))
  else (lbV ns by_ wide 0, lbV ns by_ wide 1, lbV ns by_ wide 2)
theorem lbV_range {ns : List Int} {by_ wide k : Int} (hw : 0 < wide) : 0 ≤ lbV ns by_ wide k ∧ lbV ns by_ wide k < wide := by
  unfold lbV
  split
  · exact ⟨Int.le_refl _, hw⟩
  · exact ⟨Int.emod_nonneg _ (by omega), Int.emod_lt_of_pos _ hw⟩
/-- what holds of beads by the cells -/
structure BeadsOk (wide : Int) (p : Int × Int × Int) : Prop where
  a0 : 0 ≤ p.1
  b0 : 0 ≤ p.2.1
  c0 : 0 ≤ p.2.2
  s0 : 0 < p.1 + p.2.1 + p.2.2
  le : (p.1 < wide ∧ p.2.1 < wide ∧ p.2.2 < wide) ∨ (p.1 ≤ wide ∧ p.2.1 = 0 ∧ p.2.2 = 0) ∨ (p.1 = 0 ∧ p.2.1 ≤ wide ∧ p.2.2 = 0) ∨ (p.1 = 0 ∧ p.2.1 = 0 ∧ p.2.2 ≤ wide)
theorem lawBeads_ok (ns : List Int) (by_ : Int) {wide : Int} (hw : 0 < wide) : BeadsOk wide (lawBeads ns by_ wide) := by
  have h0 := lbV_range (ns := ns) (by_ := by_) (k := 0) hw
  have h1 := lbV_range (ns := ns) (by_ := by_) (k := 1) hw
  have h2 := lbV_range (ns := ns) (by_ := by_) (k := 2) hw
  have h3 := Int.emod_nonneg (lbWhole ns by_) (show wide ≠ 0 by omega)
  have h4 := Int.emod_lt_of_pos (lbWhole ns by_) hw
  unfold lawBeads
  generalize lbV ns by_ wide 0 = x at *
  generalize lbV ns by_ wide 1 = y at *
  generalize lbV ns by_ wide 2 = z at *
  generalize lbWhole ns by_ % wide = m at *
  split
  · split
    · exact ⟨by simp only; omega, by simp only; omega, by simp only; omega, by simp only; omega, .inr (.inl ⟨by simp only; omega, rfl, rfl⟩)⟩
    · split
      · exact ⟨by simp only; omega, by simp only; omega, by simp only; omega, by simp only; omega, .inr (.inr (.inl ⟨rfl, by simp only; omega, rfl⟩))⟩
      · exact ⟨by simp only; omega, by simp only; omega, by simp only; omega, by simp only; omega, .inr (.inr (.inr ⟨rfl, rfl, by simp only; omega⟩))⟩
  · exact ⟨by simp only; omega, by simp only; omega, by simp only; omega, by simp only; omega, .inl ⟨by simp only; omega, by simp only; omega, by simp only; omega⟩⟩
theorem shaped_ints (ns : List Int) : SeqAt.shaped (.list (ns.map PyData.int)) = true := by
  have h : ∀ l : List Int, PyData.canLayAll0 (l.map PyData.int) = true ∧ PyData.depthAll (l.map PyData.int) ≤ 1 := by
    intro l
    induction l with
    | nil => exact ⟨rfl, Nat.zero_le _⟩
    | cons a l ih =>
      refine ⟨?_, ?_⟩
      · simp only [List.map_cons, PyData.canLayAll0, PyData.canLay0, ih.1, Bool.and_true]
      · have := ih.2
        simp only [List.map_cons, PyData.depthAll, PyData.depth]
        omega
  obtain ⟨h1, h2⟩ := h ns
  show (PyData.canLay0 (.list (ns.map PyData.int)) && decide (PyData.depth (.list (ns.map PyData.int)) ≤ 64)) = true
  rw [Bool.and_eq_true]
  refine ⟨by simp only [PyData.canLay0]; exact h1, decide_eq_true ?_⟩
  simp only [PyData.depth]
  omega
theorem eqv_ints_nil (ns : List Int) : PyData.eqv (.list (ns.map PyData.int)) (.list []) = decide (ns = []) := by
  cases ns with
  | nil => rfl
  | cons a l => simp [PyData.eqv, PyData.eqvAll]
def A_law_beads (K : PySem.W.Frag) (ks : List Kd) (r : Rs) : Prop := ∃ (ns : List Int) (by_ wide : Int), ks = [kS K (ns.map kI), kI by_, kI wide] ∧ (∀ z ∈ ns, Nb z bigN) ∧ 0 ≤ by_ ∧ by_ ≤ 100 ∧ 0 < wide ∧ r = .v (kRt (lawBeads ns by_ wide))
theorem lbCells_nb {ns : List Int} (h : ∀ z ∈ ns, Nb z bigN) (i : Nat) : Nb ((lbCells ns).getD i 0) bigN := by
  have z0 : Nb 0 bigN := Nb.mono (n := 1) (by unfold Nb; decide) (by rw [bigN_eq]; decide)
  have z5 : Nb 5 bigN := Nb.mono (n := 3) (by unfold Nb; decide) (by rw [bigN_eq]; decide)
  unfold lbCells
  by_cases e : ns = []
  · rw [if_pos e]
    match i with
    | 0 => exact z5
    | i + 1 => exact z0
  · rw [if_neg e]
    rw [List.getD_eq_getElem?_getD]
    cases q : (ns.take 63)[i]? with
    | none => exact z0
    | some z => exact h z (List.mem_of_mem_take (List.mem_of_getElem? q))
theorem lbCells_pos (ns : List Int) : 0 < (lbCells ns).length := by
  unfold lbCells
  by_cases e : ns = []
  · rw [if_pos e]; decide
  · rw [if_neg e]
    cases ns with
    | nil => exact absurd rfl e
    | cons a l => simp
theorem ok_law_beads (B : Bt mg) (D : DefAt K mg "_law_beads" s_law_beads ["_law_script", "_law_by", "_law_wide"]) (d__law_number : CallD P w K mg base 1 "_law_number" (spR (A_law_number K))) : CallD P w K mg base 2 "_law_beads" (spR (A_law_beads K)) := by
  refine callD_of D sc_law_beads (by rintro ks r ⟨ns, by_, wide, rfl, _⟩; rfl) fun f cdv Ar outer s H E hr => ⟨_, (pss_cons (ps_set (i := 3) sc_law_beads.nd rfl (.inl rfl) (pe_ifExp (pt_cmpR (op_neK (K := K) hr rfl) (pv 0) (pe_lst pa_nil) (nomark _)) (pe_slice (sl_listK (K := K) rfl) (pv 0) po_none (po_some pe_int)) (pe_lst (pa_cons pe_int pa_nil))))
      (pss_cons (ps_set (i := 4) sc_law_beads.nd rfl (.inl rfl) (pe_op op_add (pe_callB call_abs (by rfl) B.b_abs (by decide +kernel) (pa_cons (pe_callB (cr_sumK (K := K) rfl rfl) (by rfl) B.b_sum (by decide +kernel) (pa_cons (pv 3) pa_nil)) pa_nil)) (pv 1)))
      (pss_cons (ps_set (i := 5) sc_law_beads.nd rfl (.inl rfl) (pe_lst pa_nil))
      (pss_cons (ps_for (passes_of rfl) rfl (pi_range1 (by rfl) B.b_range (pa_cons pe_int pa_nil)) (pg_name (i := 6) sc_law_beads.nd rfl (.inl rfl)) (pss_cons (ps_set (i := 7) sc_law_beads.nd rfl (.inl rfl) (pe_op op_fdivN (pe_d d__law_number hr (by decide) (pa_cons (pe_ix (ix_seqK (K := K) rfl) (pv 3) (pe_op op_mod (pe_op op_add (pv 6) (pv 1)) (pe_callB (call_lenK (K := K) rfl) (by rfl) B.b_len PySem.boot_len (pa_cons (pv 3) pa_nil))) (fun _ _ => rfl)) (pa_cons (pe_op op_add (pv 6) (pe_op op_mulB pe_int (pv 1))) (pa_cons (pv 4) pa_nil)))) pe_int))
      (pss_one (ps_expr (pe_bm PySem.F.plainAttrs_list PySem.F.slot_list_append PySem.F.type_list_append mt_append (pv 5) (pa_cons (pe_ifExp (pt_cmpR (op_eqK (K := K) hr rfl) (pe_op op_mod (pe_op op_fdivN (pv 7) pe_int) pe_int) pe_int (nomark _)) pe_int (pe_op op_mod (pv 7) (pv 2))) pa_nil))))))
      (pss_cons (ps_if (pt_cmpR (op_eqK (K := K) hr rfl) (pv 5) (pe_lst (pa_cons pe_int (pa_cons pe_int (pa_cons pe_int pa_nil)))) (nomark _)) (pss_one (ps_asg (pe_op op_add pe_int (pe_op op_mod (pv 4) (pv 2))) (pg_sub (pv 5) (pe_op op_mod (pv 4) pe_int) set_list))) pss_nil)
      (pss_one (ps_ret (pe_tup (pa_cons (pe_ix (ix_seqK (K := K) rfl) (pv 5) pe_int (fun _ _ => rfl)) (pa_cons (pe_ix (ix_seqK (K := K) rfl) (pv 5) pe_int (fun _ _ => rfl)) (pa_cons (pe_ix (ix_seqK (K := K) rfl) (pv 5) pe_int (fun _ _ => rfl)) pa_nil))))))))))), fun ks r h => ?_⟩
  obtain ⟨ns, by_, wide, rfl, hns, hb0, hb1, hw, rfl⟩ := h
  change DoesR _ _ [.sh _, .sh _, .sh _, .no, .no, .no, .no, .no] _
  have hpos := lbCells_pos ns
  have cell : ∀ k : Int, 0 ≤ (k + by_) % ((lbCells ns).length : Nat) ∧ (k + by_) % ((lbCells ns).length : Nat) < ((lbCells ns).length : Nat) := fun k => ⟨Int.emod_nonneg _ (by omega), Int.emod_lt_of_pos _ (by omega)⟩
  -- the turns' numbers
  have num : ∀ (k : Int) (δ : List Sl), 0 ≤ k → k ≤ 2 → δ[3]? = some (.sh (kL ((lbCells ns).map kI))) → δ[6]? = some (.sh (kI k)) → δ[1]? = some (.sh (kI by_)) → δ[4]? = some (.sh (kI (lbWhole ns by_))) →
      EvD (tOp (rI CDivN fun i j => V.int (i.fdiv j)) (tCall (spR (A_law_number K)) [] E0 (tCons (tOp (rIx K) (tVar 3) (tOp (rI (fun _ j => 0 < j) fun i j => V.int (i % j)) (tOp (rI0 fun i j => V.int (i + j)) (tVar 6) (tVar 1)) (tCB (rLenK K) (tCons (tVar 3) tNil))))
        (tCons (tOp (rI0 fun i j => V.int (i + j)) (tVar 6) (tOp (rI CMulB fun i j => V.int (i * j)) (tC (V.int 3)) (tVar 1))) (tCons (tVar 4) tNil)))) (tC (V.int 3))) δ (kI (lbNum ns by_ k)) := by
    intro k δ hk0 hk2 e3 e6 e1 e4
    have l1 : EvD (tCB (rLenK K) (tCons (tVar 3) tNil)) δ (kI ((lbCells ns).length : Nat)) := by
      have := ev_cb (ea_cons (ev_var e3) ea_nil) (ca_lenL (K := K))
      rw [List.length_map] at this
      exact this
    have hm : CMulB 3 by_ := cmul_of (n := 2) (m := 10) (by unfold Nb; decide) (Nb.range hb0 (by show by_ < 1024; omega)) (by decide)
    exact ev_op (ev_call (ea_cons (ev_op (ev_var e3) (ev_op (ev_op (ev_var e6) (ev_var e1) op_I0) l1 (op_I (by show (0 : Int) < _; omega))) (op_ixqL (at_ints (cell k).1 (cell k).2))) (ea_cons (ev_op (ev_var e6) (ev_op ev_c (ev_var e1) (op_I hm)) op_I0) (ea_cons (ev_var e4) ea_nil)))
      ⟨_, _, _, bigN, rfl, lbCells_nb hns _, by rw [bigN_eq]; exact Nat.le_refl _, by omega, by omega, rfl⟩) ev_c (op_I ⟨by decide, by decide⟩)
  have val : ∀ (k : Int) (δ : List Sl), δ[7]? = some (.sh (kI (lbNum ns by_ k))) → δ[2]? = some (.sh (kI wide)) →
      EvD (tIf (tTest (tOp (rEqD K) (tOp (rI (fun _ j => 0 < j) fun i j => V.int (i % j)) (tOp (rI CDivN fun i j => V.int (i.fdiv j)) (tVar 7) (tC (V.int 7))) (tC (V.int 5))) (tC (V.int 0)))) (tC (V.int 0)) (tOp (rI (fun _ j => 0 < j) fun i j => V.int (i % j)) (tVar 7) (tVar 2))) δ (kI (lbV ns by_ wide k)) := by
    intro k δ e7 e2
    refine ev_to (ev_ite (et_test (ev_op (ev_op (ev_op (ev_var e7) ev_c (op_I ⟨by decide, by decide⟩)) ev_c (op_I (by show (0 : Int) < 5; decide))) ev_c (op_eqk isd_int isd_int rfl rfl))) (fun _ => ev_c) (fun _ => ev_op (ev_var e7) (ev_var e2) (op_I hw))) ?_
    unfold lbV
    by_cases q : (lbNum ns by_ k).fdiv 7 % 5 = 0
    · rw [if_pos q, if_pos (by simp [PyData.eqv, q])]
    · rw [if_neg q, if_neg (by simp [PyData.eqv, q])]
  refine' .inl (d_seq (d_asg (k := kL ((lbCells ns).map kI)) (ev_ofN (en_if ?t1 (fun e => en_to ?v1 ?q1) (fun e => en_to ?v2 ?q2)))) (d_seq (d_asg (k := kI (lbWhole ns by_)) ?v3) (d_seq (d_asgN (en_lst ea_nil (by decide))) (d_seq (d_for (src_range (n := 3) ev_c (by decide)) (.cons b_name (d_seq (d_asg (num 0 _ (by decide) (by decide) rfl rfl rfl rfl)) (d_append rfl (val 0 _ rfl rfl) (Nat.le_of_ble_eq_true rfl)))
    (.cons b_name (d_seq (d_asg (num 1 _ (by decide) (by decide) rfl rfl rfl rfl)) (d_append rfl (val 1 _ rfl rfl) (Nat.le_of_ble_eq_true rfl))) (.cons b_name (d_seq (d_asg (num 2 _ (by decide) (by decide) rfl rfl rfl rfl)) (d_append rfl (val 2 _ rfl rfl) (Nat.le_of_ble_eq_true rfl))) .nil)))) ?rest))))
  case t1 =>
    refine' et_test (ev_op (ev_var rfl) (ev_ofN (en_lst ea_nil (by decide))) (op_nek (isd_seq (isds_ints ns)) (isd_lst isds_nil) (shaped_ints ns) rfl))
  case v1 => walk_at "dx en"
  case q1 =>
    rw [eqv_ints_nil] at e
    have : ¬ ns = [] := by simpa using e
    unfold lbCells
    rw [if_neg this, List.map_take]
  case v2 => walk_at "dx en"
  case q2 =>
    rw [eqv_ints_nil] at e
    have : ns = [] := by simpa using e
    unfold lbCells
    rw [if_pos this]
    rfl
  case v3 => exact ev_op (ev_cb (ea_cons (ev_cb (ea_cons (ev_var rfl) ea_nil) ca_sumL) ea_nil) ca_abs) (ev_var rfl) op_I0
  case rest =>
    change Does _ [.sh (kS K (ns.map kI)), .sh (kI by_), .sh (kI wide), .sh (kL ((lbCells ns).map kI)), .sh (kI (lbWhole ns by_)), .ow [kI (lbV ns by_ wide 0), kI (lbV ns by_ wide 1), kI (lbV ns by_ wide 2)], .sh (kI 2), .sh (kI (lbNum ns by_ 2))] _
    have r3 : lbWhole ns by_ % 3 = 0 ∨ lbWhole ns by_ % 3 = 1 ∨ lbWhole ns by_ % 3 = 2 := by omega
    unfold lawBeads
    generalize lbV ns by_ wide 0 = x
    generalize lbV ns by_ wide 1 = y
    generalize lbV ns by_ wide 2 = z
    generalize lbNum ns by_ 2 = u
    generalize lbWhole ns by_ = wh at r3
    have t : EvT (tTest (tOp (rEqD K) (tVar 5) (tLst (tCons (tC (.int 0)) (tCons (tC (.int 0)) (tCons (tC (.int 0)) tNil)))))) [.sh (kS K (ns.map kI)), .sh (kI by_), .sh (kI wide), .sh (kL ((lbCells ns).map kI)), .sh (kI wh), .ow [kI x, kI y, kI z], .sh (kI 2), .sh (kI u)] (decide (x = 0 ∧ y = 0 ∧ z = 0)) := by
      refine' et_fz (et_to ?t ?q)
      case t => walk_at "dx et"
      case q =>
        simp only [PyData.eqv, PyData.eqvAll]
        rw [Bool.eq_iff_iff]
        simp
    by_cases q : x = 0 ∧ y = 0 ∧ z = 0
    · rw [if_pos q]
      obtain ⟨rfl, rfl, rfl⟩ := q
      have wm : EvD (tOp (rI0 fun i j => V.int (i + j)) (tC (V.int 1)) (tOp (rI (fun _ j => 0 < j) fun i j => V.int (i % j)) (tVar 4) (tVar 2))) [.sh (kS K (ns.map kI)), .sh (kI by_), .sh (kI wide), .sh (kL ((lbCells ns).map kI)), .sh (kI wh), .ow [kI 0, kI 0, kI 0], .sh (kI 2), .sh (kI u)] (kI (1 + wh % wide)) := ev_op ev_c (ev_op (ev_var rfl) (ev_var rfl) (op_I hw)) op_I0
      have wi : EvD (tOp (rI (fun _ j => 0 < j) fun i j => V.int (i % j)) (tVar 4) (tC (.int 3))) [.sh (kS K (ns.map kI)), .sh (kI by_), .sh (kI wide), .sh (kL ((lbCells ns).map kI)), .sh (kI wh), .ow [kI 0, kI 0, kI 0], .sh (kI 2), .sh (kI u)] (kI (wh % 3)) := ev_op (ev_var rfl) ev_c (op_I (by show (0 : Int) < 3; decide))
      generalize 1 + wh % wide = v at wm ⊢
      rcases r3 with r3 | r3 | r3
      · rw [r3] at wi ⊢
        refine' d_seq (d_yes t (d_setO (j := 0) rfl wm wi rfl)) (d_frz (i := 5) rfl (d_le (d_ret ?v) ?w))
        case v => exact ev_tupTr (by walk_at "dx ea") (Nat.le_of_ble_eq_true rfl)
        case w => exact Kd.le.refl _
      · rw [r3] at wi ⊢
        refine' d_seq (d_yes t (d_setO (j := 1) rfl wm wi rfl)) (d_frz (i := 5) rfl (d_le (d_ret ?v) ?w))
        case v => exact ev_tupTr (by walk_at "dx ea") (Nat.le_of_ble_eq_true rfl)
        case w => exact Kd.le.refl _
      · rw [r3] at wi ⊢
        refine' d_seq (d_yes t (d_setO (j := 2) rfl wm wi rfl)) (d_frz (i := 5) rfl (d_le (d_ret ?v) ?w))
        case v => exact ev_tupTr (by walk_at "dx ea") (Nat.le_of_ble_eq_true rfl)
        case w => exact Kd.le.refl _
    · rw [if_neg q]
      rw [decide_eq_false q] at t
      refine' d_skip t rfl (d_frz (i := 5) rfl (d_le (d_ret ?v) ?w))
      case v => exact ev_tupTr (by walk_at "dx ea") (Nat.le_of_ble_eq_true rfl)
      case w => exact Kd.le.refl _
abbrev s_law_reached : Stmt := top 28
theorem sc_law_reached : FnScope ["_law_beads_here", "_law_more", "_law_found", "_law_line", "_law_steps_here", "_law_some", "_law_behind", "_law_pair", "_law_there"] ["_law_beads_here", "_law_more"] (defScope s_law_reached) := ⟨rfl, rfl, rfl, by decide +kernel, rfl, by decide +kernel, by decide +kernel⟩
/-! ### law_reached -/
def dTs (l : List T3) : List PyData := l.map fun t => .tuple [.int t.1, .int t.2.1, .int t.2.2]
theorem isd_tr (t : T3) : IsD K (kRt t) (.tuple [.int t.1, .int t.2.1, .int t.2.2]) := fun v H h => isd_tup (isds_cons isd_int (isds_cons isd_int (isds_cons isd_int isds_nil))) v H (kTr_le v H h)
theorem isds_trs (l : List T3) : IsDs K (l.map kRt) (dTs l) := isds_map isd_tr l
theorem shaped_trs (l : List T3) : SeqAt.shaped (.list (dTs l)) = true := by
  have h : ∀ l : List T3, PyData.canLayAll0 (dTs l) = true ∧ PyData.depthAll (dTs l) ≤ 2 := by
    intro l
    induction l with
    | nil => exact ⟨rfl, Nat.zero_le _⟩
    | cons a l ih =>
      have ih1 := ih.1
      have ih2 := ih.2
      unfold dTs at ih1 ih2 ⊢
      refine ⟨?_, ?_⟩
      · simp only [List.map_cons, PyData.canLayAll0, PyData.canLay0, ih1, Bool.and_true]
      · simp only [List.map_cons, PyData.depthAll, PyData.depth]
        omega
  obtain ⟨h1, h2⟩ := h l
  show (PyData.canLay0 (.list (dTs l)) && decide (PyData.depth (.list (dTs l)) ≤ 64)) = true
  rw [Bool.and_eq_true]
  refine ⟨by simp only [PyData.canLay0]; exact h1, decide_eq_true ?_⟩
  simp only [PyData.depth]
  omega
theorem eqv_trs_nil (l : List T3) : PyData.eqv (.list (dTs l)) (.list []) = decide (l = []) := by
  cases l with
  | nil => rfl
  | cons a l => rfl
theorem dd_bfs {i : Nat} {c : TT} {tb u : TS} {m : Int} (hm : m = 1 ∨ m = 2) {b : T3} (S : Int → List T3 → List Sl) (hstop : ∀ n d, EvT c (dAt (S n []) i d) false)
    (hgo : ∀ n f line, line ≠ [] → Inv0 m b n f line → (∀ d, EvT c (dAt (S n line) i d) true) ∧ DoesD i tb (S n line) (kvsOf f) (S (n + 1) (lev m (n + 1) f line).2) (kvsOf (lev m (n + 1) f line).1))
    (hret : ∀ n kvs, DoesDR i u (S n []) kvs (kD kvs)) {N : Nat} {n : Int} {f : FS} {line : List T3} (h : Inv0 m b n f line) (hN : 6861 ≤ N + f.length + (if line = [] then 1 else 0)) : DoesDR i (tSeq (tWhile c tb) u) (S n line) (kvsOf f) (kD (kvsOf (bfsN m N n f line))) := by
  have key : ∀ (N : Nat) (n : Int) (f : FS) (line : List T3), Inv0 m b n f line → 6861 ≤ N + f.length + (if line = [] then 1 else 0) → ∃ M n', WhRunD i c tb M (S n line) (kvsOf f) (S n' []) (kvsOf (bfsN m N n f line)) := by
    intro N
    induction N with
    | zero =>
      intro n f line h hN
      have := h.fd.len
      split at hN <;> omega
    | succ N ih =>
      intro n f line h hN
      unfold bfsN
      by_cases q : line = []
      · rw [if_pos q]
        subst q
        exact ⟨0, n, .stop (hstop n)⟩
      · rw [if_neg q]
        rw [if_neg q] at hN
        obtain ⟨h1, h2⟩ := h.lev hm
        obtain ⟨g1, g2⟩ := hgo n f line q h
        obtain ⟨M, n', r⟩ := ih (n + 1) _ _ h1 (by
          split
          · omega
          · rename_i z
            have : 0 < (lev m (n + 1) f line).2.length := List.length_pos_iff.mpr z
            omega)
        exact ⟨M + 1, n', .turn g1 g2 r⟩
  obtain ⟨M, n', r⟩ := key N n f line h hN
  exact dd_seqR (dd_while r) (hret n' _)
def A_law_reached (K : PySem.W.Frag) (ks : List Kd) (r : Rs) : Prop := ∃ (t : T3) (m : Int), ks = [kRt t, kI m] ∧ (m = 1 ∨ m = 2) ∧ Ub t ∧ r = .v (kD (kvsOf (reachF m t)))
theorem ok_law_reached (B : Bt mg) (D : DefAt K mg "_law_reached" s_law_reached ["_law_beads_here", "_law_more"]) (d__law_can : CallD P w K mg base 1 "_law_can" (spR (A_law_can K))) (d__law_met : CallD P w K mg base 1 "_law_met" (spR (A_law_met K))) : CallD P w K mg base 2 "_law_reached" (spR (A_law_reached K)) := by
  refine callD_of D sc_law_reached (by rintro ks r ⟨t, m, rfl, _⟩; rfl) fun f cdv Ar outer s H E hr => ⟨_, (pss_cons (ps_par3 (i := 2) (j := 3) (l := 4) rfl sc_law_reached.nd rfl rfl rfl (by decide) (by decide) (by decide) rfl rfl rfl (pa_cons (pe_disp1 (hu_of hr) (pv 0) pe_int) (pa_cons (pe_lst (pa_cons (pv 0) pa_nil)) (pa_cons pe_int pa_nil))) (by rfl))
      (pss_cons (ps_while (passes_of rfl) (pt_cmpR (op_neK (K := K) hr rfl) (pv 3) (pe_lst pa_nil) (nomark _)) (pss_cons (ps_par (i := 4) (j := 6) rfl sc_law_reached.nd rfl rfl (by decide) rfl rfl (pa_cons (pe_op op_add (pv 4) pe_int) (pa_cons (pe_lst pa_nil) pa_nil)) (by rfl))
      (pss_cons (ps_for (passes_of rfl) rfl (pi_listK (K := K) (pv 3) rfl) (pg_name (i := 5) sc_law_reached.nd rfl (.inl rfl)) (pss_one (ps_for (passes_of rfl) rfl (pi_listK (K := K) (pe_d d__law_can hr (by decide) (pa_cons (pv 5) pa_nil)) rfl) (pg_name (i := 7) sc_law_reached.nd rfl (.inl rfl)) (pss_cons (ps_set (i := 8) sc_law_reached.nd rfl (.inl rfl) (pe_d d__law_met hr (by decide) (pa_cons (pv 5) (pa_cons (pv 7) (pa_cons (pv 1) pa_nil)))))
      (pss_one (ps_if (pt_cmp (pc_dnotin (hu_of hr) (pv 8) (pv 2))) (pss_cons (ps_dput (hu_of hr) (pv 2) (pv 8) (pv 4) (by rfl))
      (pss_one (ps_expr (pe_bm PySem.F.plainAttrs_list PySem.F.slot_list_append PySem.F.type_list_append mt_append (pv 6) (pa_cons (pv 8) pa_nil))))) pss_nil))))))
      (pss_one (ps_set (i := 3) sc_law_reached.nd rfl (.inl rfl) (pv 6))))))
      (pss_one (ps_ret (pe_frz (pv 2)))))), fun ks r h => ?_⟩
  obtain ⟨b, m, rfl, hm, hb, rfl⟩ := h
  change DoesR _ _ [.sh _, .sh _, .no, .no, .no, .no, .no, .no, .no] _
  refine .inl (dd_start (k := keyT b) (x := .int 0) (y := .int 0) rfl (by decide) (by decide) ?_)
  refine' dd_bfs hm (fun n line => [.sh (kRt b), .sh (kI m), .no, .sh (kL (line.map kRt)), .sh (kI n), .no, .no, .no, .no]) ?hstop ?hgo ?hret (inv_start hb) (Nat.le_of_ble_eq_true rfl)
  case hstop => exact fun n d => et_to (et_test (ev_op (ev_var rfl) (ev_ofN (en_lst ea_nil (Nat.zero_le _))) (op_nek (isd_lst (isds_trs [])) (isd_lst isds_nil) (shaped_trs []) rfl))) rfl
  case hret => exact fun n kvs => dd_ret (Nat.le_of_ble_eq_true rfl)
  case hgo =>
    intro n f line hne hI
    refine ⟨fun d => et_to (et_test (ev_op (ev_var rfl) (ev_ofN (en_lst ea_nil (Nat.zero_le _))) (op_nek (isd_lst (isds_trs line)) (isd_lst isds_nil) (shaped_trs line) rfl))) (by rw [eqv_trs_nil, decide_eq_false hne]; rfl), ?_⟩
    refine' dd_seq (δ1 := [.sh (kRt b), .sh (kI m), .no, .sh (kL (line.map kRt)), .sh (kI (n + 1)), .no, .ow [], .no, .no]) (dd_frame fun d => d_parN2 (ev_op (ev_var rfl) ev_c op_I0) (en_lst ea_nil (Nat.zero_le _))) ?r1
    have run : ∀ {tb : TS}, (∀ (s : FS × List T3) (a : T3) (l : List T3), (∃ t, Mid m b n f.length s (a :: l) t []) → (∃ t, Mid m b n f.length (visitAll m (n + 1) s a) l t []) ∧ ∃ ws δ1, (∀ d, Bnd (gName 5) ws (kRt a) (dAt [.sh (kRt b), .sh (kI m), .no, .sh (kL (line.map kRt)), .sh (kI (n + 1)), .no, .ow (s.2.map kRt), .no, .no] 2 d) (dAt δ1 2 d)) ∧
        DoesD 2 tb δ1 (kvsOf s.1) [.sh (kRt b), .sh (kI m), .no, .sh (kL (line.map kRt)), .sh (kI (n + 1)), .no, .ow ((visitAll m (n + 1) s a).2.map kRt), .no, .no] (kvsOf (visitAll m (n + 1) s a).1)) →
        ForRunD 2 (gName 5) tb (line.map kRt) [.sh (kRt b), .sh (kI m), .no, .sh (kL (line.map kRt)), .sh (kI (n + 1)), .no, .ow [], .no, .no] (kvsOf f) [.sh (kRt b), .sh (kI m), .no, .sh (kL (line.map kRt)), .sh (kI (n + 1)), .no, .ow ((lev m (n + 1) f line).2.map kRt), .no, .no] (kvsOf (lev m (n + 1) f line).1) := fun h =>
      (forRunD_fold (i := 2) (ok := fun _ _ => True) (S := fun s : FS × List T3 => [.sh (kRt b), .sh (kI m), .no, .sh (kL (line.map kRt)), .sh (kI (n + 1)), .no, .ow (s.2.map kRt), .no, .no]) (T := fun s => kvsOf s.1) (P := fun s l => ∃ t, Mid m b n f.length s l t []) h line (f, []) ⟨b, hI.start b⟩).1
    case r1 =>
      refine' dd_seq (dd_for (fun d => src_list (ev_var rfl)) (run ?st)) (dd_weak (δ1 := [.sh (kRt b), .sh (kI m), .no, .sh (kL ((lev m (n + 1) f line).2.map kRt)), .sh (kI (n + 1)), .no, .sh (kL ((lev m (n + 1) f line).2.map kRt)), .no, .no]) (dd_frame fun d => d_frz (i := 6) rfl (d_asg (ev_var rfl))) fun d => ?w)
      case w => walk_at "dx weak"
      case st =>
        rintro s a l ⟨t0, h0⟩
        have h1 := h0.next
        refine ⟨⟨a, mid_all hm (canT a) s h1⟩, _, [.sh (kRt b), .sh (kI m), .no, .sh (kL (line.map kRt)), .sh (kI (n + 1)), .sh (kRt a), .ow (s.2.map kRt), .no, .no], fun d => b_name, ?_⟩
        have run2 : ∀ {tb : TS}, (∀ (s : FS × List T3) (p : Int × Int) (ps : List (Int × Int)), Mid m b n f.length s l a (p :: ps) → Mid m b n f.length (visit m (n + 1) a s p) l a ps ∧ ∃ ws δ1, (∀ d, Bnd (gName 7) ws (kP K p) (dAt [.sh (kRt b), .sh (kI m), .no, .sh (kL (line.map kRt)), .sh (kI (n + 1)), .sh (kRt a), .ow (s.2.map kRt), .no, .no] 2 d) (dAt δ1 2 d)) ∧
            DoesD 2 tb δ1 (kvsOf s.1) [.sh (kRt b), .sh (kI m), .no, .sh (kL (line.map kRt)), .sh (kI (n + 1)), .sh (kRt a), .ow ((visit m (n + 1) a s p).2.map kRt), .no, .no] (kvsOf (visit m (n + 1) a s p).1)) →
            ForRunD 2 (gName 7) tb ((canT a).map (kP K)) [.sh (kRt b), .sh (kI m), .no, .sh (kL (line.map kRt)), .sh (kI (n + 1)), .sh (kRt a), .ow (s.2.map kRt), .no, .no] (kvsOf s.1) [.sh (kRt b), .sh (kI m), .no, .sh (kL (line.map kRt)), .sh (kI (n + 1)), .sh (kRt a), .ow ((visitAll m (n + 1) s a).2.map kRt), .no, .no] (kvsOf (visitAll m (n + 1) s a).1) := fun h =>
          (forRunD_fold (i := 2) (ok := fun _ _ => True) (S := fun s : FS × List T3 => [.sh (kRt b), .sh (kI m), .no, .sh (kL (line.map kRt)), .sh (kI (n + 1)), .sh (kRt a), .ow (s.2.map kRt), .no, .no]) (T := fun s => kvsOf s.1) (P := fun s ps => Mid m b n f.length s l a ps) h (canT a) s h1).1
        refine' dd_weak (dd_for (fun d => src_list (ev_ofN (en_call (ea_cons (ev_le (ev_var rfl) kTr_le) ea_nil) ⟨a.1, a.2.1, a.2.2, rfl, rfl⟩))) (run2 ?st2)) fun d => ?w2
        case w2 => walk_at "dx weak"
        case st2 =>
          clear run run2 h0 h1
          intro s p ps h
          have hv := h.visit hm
          have hp := h.pc p List.mem_cons_self
          have hl1 := h.fd.len
          have hl2 : s.2.length ≤ 6859 := by have := h.ln; omega
          refine ⟨hv, _, [.sh (kRt b), .sh (kI m), .no, .sh (kL (line.map kRt)), .sh (kI (n + 1)), .sh (kRt a), .ow (s.2.map kRt), .sh (kP K p), .no], fun d => b_name, ?_⟩
          refine' dd_seq (δ1 := [.sh (kRt b), .sh (kI m), .no, .sh (kL (line.map kRt)), .sh (kI (n + 1)), .sh (kRt a), .ow (s.2.map kRt), .sh (kP K p), .sh (kRt (metT m a p))]) (dd_frame fun d => d_asg (ev_call (ea_cons (ev_le (ev_var rfl) kTr_le) (ea_cons (ev_var rfl) (ea_cons (ev_var rfl) ea_nil))) ⟨a.1, a.2.1, a.2.2, p.1, p.2, m, rfl, canL_pr hp, rfl⟩)) ?r2
          case r2 =>
            unfold visit
            generalize metT m a p = u
            by_cases q : u ∈ s.1.map Prod.fst
            · rw [if_pos q]
              refine' dd_weak (dd_ifnot (k := keyT u) (Nat.le_of_ble_eq_true rfl) (fun d => ev_var rfl) (fun z => absurd q ((valV_kvs u s.1).1.mp z)) fun _ => ⟨rfl, rfl⟩) fun d => ?w3
              case w3 => walk_at "dx weak"
            · rw [if_neg q]
              have e : kvsOf (s.1 ++ [(u, n + 1)]) = putK (kvsOf s.1) (keyT u) (.int (n + 1)) := (putK_kvs q).symm
              show DoesD 2 _ _ _ [.sh (kRt b), .sh (kI m), .no, .sh (kL (line.map kRt)), .sh (kI (n + 1)), .sh (kRt a), .ow ((s.2 ++ [u]).map kRt), .no, .no] (kvsOf (s.1 ++ [(u, n + 1)]))
              rw [e, List.map_append]
              refine' dd_weak (δ1 := [.sh (kRt b), .sh (kI m), .no, .sh (kL (line.map kRt)), .sh (kI (n + 1)), .sh (kRt a), .ow (s.2.map kRt ++ [kRt u]), .sh (kP K p), .sh (kRt u)]) (dd_ifnot (k := keyT u) (Nat.le_of_ble_eq_true rfl) (fun d => ev_var rfl) (fun _ => dd_seq (dd_put (k := keyT u) (v := .int (n + 1)) (Nat.le_of_ble_eq_true rfl) (fun d => ev_var rfl) (fun d => ev_var rfl) ?l1) (dd_frame fun d => d_appendB rfl (ev_var rfl) ?l2)) fun z => absurd ((valV_kvs u s.1).1.mpr q) z) fun d => ?w4
              case l1 => unfold kvsOf; rw [List.length_map, sizeLine_eq]; omega
              case l2 => rw [List.length_map, sizeLine_eq]; omega
              case w4 => walk_at "dx weak"
/-! ### law1 -/
theorem isd_pr (p : Int × Int) : IsD K (kP K p) (.tuple [.int p.1, .int p.2]) := isd_tup (isds_cons isd_int (isds_cons isd_int isds_nil))
def dPs (l : List (Int × Int)) : List PyData := l.map fun p => .tuple [.int p.1, .int p.2]
theorem isds_prs (l : List (Int × Int)) : IsDs K (l.map (kP K)) (dPs l) := isds_map isd_pr l
theorem shaped_prs (l : List (Int × Int)) : SeqAt.shaped (.list (dPs l)) = true := by
  have h : ∀ l : List (Int × Int), PyData.canLayAll0 (dPs l) = true ∧ PyData.depthAll (dPs l) ≤ 2 := by
    intro l
    induction l with
    | nil => exact ⟨rfl, Nat.zero_le _⟩
    | cons a l ih =>
      have ih1 := ih.1
      have ih2 := ih.2
      unfold dPs at ih1 ih2 ⊢
      refine ⟨?_, ?_⟩
      · simp only [List.map_cons, PyData.canLayAll0, PyData.canLay0, ih1, Bool.and_true]
      · simp only [List.map_cons, PyData.depthAll, PyData.depth]
        omega
  obtain ⟨h1, h2⟩ := h l
  show (PyData.canLay0 (.list (dPs l)) && decide (PyData.depth (.list (dPs l)) ≤ 64)) = true
  rw [Bool.and_eq_true]
  refine ⟨by simp only [PyData.canLay0]; exact h1, decide_eq_true ?_⟩
  simp only [PyData.depth]
  omega
theorem eqv_self {d : PyData} (h : SeqAt.shaped d = true) : PyData.eqv d d = true := SeqAt.eqv_refl d (SeqAt.canLay_of_shaped h)
/-- a comprehension that makes the same of every item -/
theorem lc_same {g : TG} {te : TE} {vs ws : List Nat} {δ : List Sl} {α : Type} {f : α → Kd} {k' : Kd} {δ1 : α → List Sl} (hb : ∀ a, Bnd g ws (f a) (wipeD δ vs) (δ1 a)) (hw : ∀ w ∈ ws, w ∈ vs) (he : ∀ a, EvD te (δ1 a) k') : ∀ l : List α, LcRun g tYes te vs δ (l.map f) (l.map fun _ => k')
  | [] => .nil
  | a :: l => .keep (hb a) hw et_yes (he a) (lc_same hb hw he l)
theorem canL_len (a b c : Int) : (canL a b c).length ≤ 3 := by
  unfold canL
  split <;> split <;> split <;> decide
theorem metF_sum {i j : Int} (h : Pr i j) (a b c m : Int) : (metF a b c i j m).1 + (metF a b c i j m).2.1 + (metF a b c i j m).2.2 = a + b + c - 2 + m := by
  rcases h with ⟨rfl, rfl⟩ | ⟨rfl, rfl⟩ | ⟨rfl, rfl⟩ <;> simp [metF] <;> omega
local macro_rules | `(tactic| walk_at "dx isds") => `(tactic| exact isds_prs _)
local macro_rules | `(tactic| walk_at "dx shp") => `(tactic| exact shaped_prs _)
theorem lc_all {g : TG} {te : TE} {vs ws : List Nat} {δ : List Sl} {α : Type} {f : α → Kd} {δ1 : α → List Sl} (hb : ∀ a, Bnd g ws (f a) (wipeD δ vs) (δ1 a)) (hw : ∀ w ∈ ws, w ∈ vs) (he : ∀ a, EvD te (δ1 a) (kB true)) (l : List α) : LcRun g tYes te vs δ (l.map f) ((l.map fun _ => true).map kB) := by
  rw [List.map_map]
  exact lc_same hb hw he l
theorem all_true {α : Type} (l : List α) : (l.map fun _ => true).all id = true := by simp
local macro_rules | `(tactic| walk_at "dx call") => `(tactic| exact ⟨_, _, _, rfl, rfl⟩)
local macro_rules | `(tactic| walk_at "dx call") => `(tactic| exact ⟨_, _, _, _, _, _, rfl, by assumption, rfl⟩)
abbrev s_All_shows : Stmt := inClass (top 2) 1
theorem sc_All_shows : FnScope ["self", "beads", "kind", "others", "at", "one"] ["self", "beads", "kind"] (defScope s_All_shows) := ⟨rfl, rfl, rfl, by decide +kernel, rfl, by decide +kernel, by decide +kernel⟩
abbrev s_Barred_shows : Stmt := inClass (top 3) 0
theorem sc_Barred_shows : FnScope ["self", "beads", "kind", "others", "at", "one"] ["self", "beads", "kind"] (defScope s_Barred_shows) := ⟨rfl, rfl, rfl, by decide +kernel, rfl, by decide +kernel, by decide +kernel⟩
/-! ### shows -/
theorem kE_nk {a b c : Int} {n : Nat} {k : Kd} (h : k = kI n) (e : n = nk a b c) : k.le (kI (nk a b c)) := by subst h; subst e; exact Kd.le.refl _
theorem nil2 {x y : Int} : PyData.eqv (.list [.int x, .int y]) (.list [.int 0, .int 0]) = decide (x = 0 ∧ y = 0) := by
  simp only [PyData.eqv, PyData.eqvAll]
  rw [Bool.eq_iff_iff]
  simp
theorem max_of2 {x y z : Int} (h1 : z ∈ [x, y]) (h2 : ∀ u, u ∈ [x, y] → u ≤ z) : z = max x y := by
  have hx := h2 x (by simp)
  have hy := h2 y (by simp)
  simp only [List.mem_cons, List.mem_nil_iff, or_false] at h1
  rcases h1 with rfl | rfl <;> omega
def A_All_shows (K : PySem.W.Frag) (CA : Addr) (ks : List Kd) (r : Rs) : Prop := ∃ s a b c k x y z : Int, ks = [kO CA [("steps", .int s)], k3 K a b c, kI k] ∧ Sel k a b c x y z ∧ r = .v (kB (decide (stepsG x y (nk a b c) = some s)))
theorem ok_All_shows {C_All : Addr} (B : Bt mg) (D : DefM K C_All "shows" "All.shows" s_All_shows ["self", "beads", "kind"]) (c_All : OwnC K mg "All" C_All) (na_All_steps : NoAttr K C_All "steps") : MethD P w K mg base 1 C_All "shows" (spR (A_All_shows K C_All)) := by
  refine methD_of D sc_All_shows (by rintro ks r ⟨s, a, b, c, k, x, y, z, rfl, _⟩; rfl) fun f cdv Ar outer s H E hr => ⟨_, (pss_cons (ps_setLc (i := 3) (own := [("at", 4), ("one", 5)]) (g := (gTup K 2 (gCons (gName 4) (gCons (gName 5) gNil))))  rfl sc_All_shows.nd rfl rfl (sw_true rfl rfl rfl (by decide +kernel)) (pi_enumTK (K := K) (by rfl) B.b_enumerate (pa_cons (pv 1) pa_nil) rfl) (blkOk_by (own := [("at", 4), ("one", 5)]) (N := ["self", "beads", "kind", "others", "at", "one"]) (sc := defScope s_All_shows) (by decide +kernel)) (fun _ _ _ _ _ => (pg_tup rfl (pgs_cons (pg_name (i := 4) sc_All_shows.nd rfl (.inl rfl)) (pgs_cons (pg_name (i := 5) sc_All_shows.nd rfl (.inl rfl)) pgs_nil)))) (fun _ _ _ _ _ => (pts_one (pt_cmpR (op_neK (K := K) hr rfl) (pv 4) (pv 2) (nomark _)))) (fun _ _ _ _ _ => (pv 5)))
      (pss_cons (ps_if (pt_cmpR (op_eqK (K := K) hr rfl) (pv 3) (pe_lst (pa_cons pe_int (pa_cons pe_int pa_nil))) (nomark _)) (pss_one (ps_ret (pe_cmpR (op_eqK (K := K) hr rfl) (pe_fldK (K := K) (pv 0) rfl) pe_int (nomark _)))) pss_nil)
      (pss_cons (ps_if (PW.pt (pw_or (pt_cmpR (op_eqK (K := K) hr rfl) (pe_callB (call_lenK (K := K) rfl) (by rfl) B.b_len PySem.boot_len (pa_cons (pe_lc (own := [("one", 5)]) (g := (gName 5))  rfl sc_All_shows.nd (pi_tupK (K := K) (pv 1) rfl) (blkOk_by (own := [("one", 5)]) (N := ["self", "beads", "kind", "others", "at", "one"]) (sc := defScope s_All_shows) (by decide +kernel)) (fun _ _ _ _ _ => (pg_name (i := 5) sc_All_shows.nd rfl (.inl rfl))) (fun _ _ _ _ _ => (pts_one (pt_cmpR op_gt (pv 5) pe_int (nomark _)))) (fun _ _ _ _ _ => (pv 5))) pa_nil)) pe_int (nomark _)) (pw_or1 (pt_cmpR (op_neK (K := K) hr rfl) (pe_op op_mod (pe_op op_sub (pe_ix (ix_seqK (K := K) rfl) (pv 3) pe_int (fun _ _ => rfl)) (pe_ix (ix_seqK (K := K) rfl) (pv 3) pe_int (fun _ _ => rfl))) pe_int) pe_int (nomark _))))) (pss_one (ps_ret pe_bl)) pss_nil)
      (pss_one (ps_ret (pe_cmpR (op_eqK (K := K) hr rfl) (pe_fldK (K := K) (pv 0) rfl) (pe_callB (cr_maxK (K := K) rfl rfl) (by rfl) B.b_max (by decide +kernel) (pa_cons (pv 3) pa_nil)) (nomark _))))))), fun ks r h => ?_⟩
  obtain ⟨s, a, b, c, k, x, y, z, rfl, hx, rfl⟩ := h
  change DoesR _ _ [.sh _, .sh _, .sh _, .no, .no, .no] _
  refine' .inl (d_seq (d_asg (k := kL ([x, y].map kI)) (ev_ofN ?ot)) ?r)
  case ot =>
    rcases hx with ⟨rfl, rfl, rfl, rfl⟩ | ⟨rfl, rfl, rfl, rfl⟩ | ⟨rfl, rfl, rfl, rfl⟩
    · walk_at "dx en"
    · walk_at "dx en"
    · walk_at "dx en"
  case r =>
    change Does _ [.sh (kO C_All [("steps", .int s)]), .sh (k3 K a b c), .sh (kI k), .sh (kL ([x, y].map kI)), .no, .no] _
    have fld : EvD (tFld K (tVar 0) "steps") [.sh (kO C_All [("steps", .int s)]), .sh (k3 K a b c), .sh (kI k), .sh (kL ([x, y].map kI)), .no, .no] (kI s) := ev_fld (ev_var rfl) c_All.i.c na_All_steps rfl
    refine' d_seqif (et_to (et_test (ev_op (ev_var rfl) ?l0 (op_eqk (isd_lst (isds_ints [x, y])) (isd_lst ?d0) (shaped_ints [x, y]) rfl))) nil2) (fun e => d_ret1 (d_to (d_ret (ev_op fld ev_c (op_eqk isd_int isd_int rfl rfl))) ?q1)) (fun e => d_seq d_next (d_seqif (et_or (et_test (ev_op (k1 := kI (nk a b c)) (ev_le ?n (kE_le ?qn)) ev_c (op_eqk isd_int isd_int rfl rfl))) (fun _ => et_test (ev_op (ev_op (ev_op (ev_op (ev_var rfl) ev_c (op_ixqL rfl)) (ev_op (ev_var rfl) ev_c (op_ixqL rfl)) op_I0) ev_c (op_I ?p3)) ev_c (op_nek isd_int isd_int rfl rfl)))) (fun e2 => d_ret1 (d_to (d_ret ev_c) ?q2)) (fun e2 => d_seq d_next (d_to (d_ret (ev_op fld (ev_cb (ea_cons (ev_var rfl) ea_nil) (ca_maxL (ns := [x, y]) (m := max x y) (Nat.zero_lt_succ 1) fun z h1 h2 => max_of2 h1 h2)) (op_eqk isd_int isd_int rfl rfl))) ?q3))))
    case l0 => walk_at "dx ev"
    case d0 => walk_at "dx isds"
    case q1 =>
      have e := of_decide_eq_true e
      unfold stepsG
      rw [if_pos e, eqv_int]
      congr 1
      rw [decide_eq_decide]
      exact ⟨fun h => by rw [h], fun h => (Option.some.inj h).symm⟩
    case n => walk_at "dx ev"
    case qn =>
      unfold nk
      by_cases h1 : 0 < a <;> by_cases h2 : 0 < b <;> by_cases h3 : 0 < c <;> simp [h1, h2, h3]
    case p3 => show (0 : Int) < 3; decide
    case q2 =>
      have e := of_decide_eq_false e
      have e3 : nk a b c = 1 ∨ (x - y) % 3 ≠ 0 := by
        rw [eqv_int, eqv_int] at e2
        simp only [Bool.or_eq_true, decide_eq_true_iff, Bool.not_eq_true', decide_eq_false_iff_not] at e2
        rcases e2 with e2 | e2
        · exact .inl (Int.ofNat_inj.mp e2)
        · exact .inr e2
      unfold stepsG
      rw [if_neg e, if_pos e3]
      rfl
    case q3 =>
      have e := of_decide_eq_false e
      have e3 : ¬ (nk a b c = 1 ∨ (x - y) % 3 ≠ 0) := by
        rw [eqv_int, eqv_int] at e2
        simp only [Bool.or_eq_false_iff, decide_eq_false_iff_not, Bool.not_eq_false', decide_eq_true_iff] at e2
        rintro (z | z)
        · exact e2.1 (by rw [z]; rfl)
        · exact z e2.2
      unfold stepsG
      rw [if_neg e, if_neg e3, eqv_int]
      congr 1
      rw [decide_eq_decide]
      exact ⟨fun h => by rw [h], fun h => (Option.some.inj h).symm⟩
def A_Barred_shows (K : PySem.W.Frag) (CB : Addr) (ks : List Kd) (r : Rs) : Prop := ∃ a b c k x y z : Int, ks = [kO CB [], k3 K a b c, kI k] ∧ Sel k a b c x y z ∧ r = .v (kB (decide (stepsG x y (nk a b c) = none)))
theorem ok_Barred_shows {C_Barred : Addr} (B : Bt mg) (D : DefM K C_Barred "shows" "Barred.shows" s_Barred_shows ["self", "beads", "kind"]) : MethD P w K mg base 1 C_Barred "shows" (spR (A_Barred_shows K C_Barred)) := by
  refine methD_of D sc_Barred_shows (by rintro ks r ⟨a, b, c, k, x, y, z, rfl, _⟩; rfl) fun f cdv Ar outer s H E hr => ⟨_, (pss_cons (ps_setLc (i := 3) (own := [("at", 4), ("one", 5)]) (g := (gTup K 2 (gCons (gName 4) (gCons (gName 5) gNil))))  rfl sc_Barred_shows.nd rfl rfl (sw_true rfl rfl rfl (by decide +kernel)) (pi_enumTK (K := K) (by rfl) B.b_enumerate (pa_cons (pv 1) pa_nil) rfl) (blkOk_by (own := [("at", 4), ("one", 5)]) (N := ["self", "beads", "kind", "others", "at", "one"]) (sc := defScope s_Barred_shows) (by decide +kernel)) (fun _ _ _ _ _ => (pg_tup rfl (pgs_cons (pg_name (i := 4) sc_Barred_shows.nd rfl (.inl rfl)) (pgs_cons (pg_name (i := 5) sc_Barred_shows.nd rfl (.inl rfl)) pgs_nil)))) (fun _ _ _ _ _ => (pts_one (pt_cmpR (op_neK (K := K) hr rfl) (pv 4) (pv 2) (nomark _)))) (fun _ _ _ _ _ => (pv 5)))
      (pss_cons (ps_if (pt_cmpR (op_eqK (K := K) hr rfl) (pv 3) (pe_lst (pa_cons pe_int (pa_cons pe_int pa_nil))) (nomark _)) (pss_one (ps_ret pe_bl)) pss_nil)
      (pss_one (ps_ret (pe_or (pe_cmpR (op_eqK (K := K) hr rfl) (pe_callB (call_lenK (K := K) rfl) (by rfl) B.b_len PySem.boot_len (pa_cons (pe_lc (own := [("one", 5)]) (g := (gName 5))  rfl sc_Barred_shows.nd (pi_tupK (K := K) (pv 1) rfl) (blkOk_by (own := [("one", 5)]) (N := ["self", "beads", "kind", "others", "at", "one"]) (sc := defScope s_Barred_shows) (by decide +kernel)) (fun _ _ _ _ _ => (pg_name (i := 5) sc_Barred_shows.nd rfl (.inl rfl))) (fun _ _ _ _ _ => (pts_one (pt_cmpR op_gt (pv 5) pe_int (nomark _)))) (fun _ _ _ _ _ => (pv 5))) pa_nil)) pe_int (nomark _)) (pe_one (pe_cmpR (op_neK (K := K) hr rfl) (pe_op op_mod (pe_op op_sub (pe_ix (ix_seqK (K := K) rfl) (pv 3) pe_int (fun _ _ => rfl)) (pe_ix (ix_seqK (K := K) rfl) (pv 3) pe_int (fun _ _ => rfl))) pe_int) pe_int (nomark _)))))))), fun ks r h => ?_⟩
  obtain ⟨a, b, c, k, x, y, z, rfl, hx, rfl⟩ := h
  change DoesR _ _ [.sh _, .sh _, .sh _, .no, .no, .no] _
  refine' .inl (d_seq (d_asg (k := kL ([x, y].map kI)) (ev_ofN ?ot)) ?r)
  case ot =>
    rcases hx with ⟨rfl, rfl, rfl, rfl⟩ | ⟨rfl, rfl, rfl, rfl⟩ | ⟨rfl, rfl, rfl, rfl⟩
    · walk_at "dx en"
    · walk_at "dx en"
    · walk_at "dx en"
  case r =>
    change Does _ [.sh (kO C_Barred []), .sh (k3 K a b c), .sh (kI k), .sh (kL ([x, y].map kI)), .no, .no] _
    refine' d_seqif (et_to (et_test (ev_op (ev_var rfl) ?l0 (op_eqk (isd_lst (isds_ints [x, y])) (isd_lst ?d0) (shaped_ints [x, y]) rfl))) nil2) (fun e => d_ret1 (d_to (d_ret ev_c) ?q1)) (fun e => d_seq d_next (d_to (d_ret (ev_or (ev_op (k1 := kI (nk a b c)) (ev_le ?n (kE_le ?qn)) ev_c (op_eqk isd_int isd_int rfl rfl)) (fun _ => ev_op (ev_op (ev_op (ev_op (ev_var rfl) ev_c (op_ixqL rfl)) (ev_op (ev_var rfl) ev_c (op_ixqL rfl)) op_I0) ev_c (op_I ?p3)) ev_c (op_nek isd_int isd_int rfl rfl)))) ?q2))
    case l0 => walk_at "dx ev"
    case d0 => walk_at "dx isds"
    case q1 =>
      have e := of_decide_eq_true e
      unfold stepsG
      rw [if_pos e]
      rfl
    case n => walk_at "dx ev"
    case qn =>
      unfold nk
      by_cases h1 : 0 < a <;> by_cases h2 : 0 < b <;> by_cases h3 : 0 < c <;> simp [h1, h2, h3]
    case p3 => show (0 : Int) < 3; decide
    case q2 =>
      have e := of_decide_eq_false e
      unfold stepsG
      rw [if_neg e, eqv_int, eqv_int]
      by_cases e3 : nk a b c = 1 ∨ (x - y) % 3 ≠ 0
      · rw [if_pos e3]
        rcases e3 with e3 | e3
        · rw [e3]; rfl
        · rw [decide_eq_false e3, Bool.not_false, Bool.or_true]; rfl
      · rw [if_neg e3, decide_eq_false (p := ((nk a b c : Nat) : Int) = 1) (fun z => e3 (.inl (Int.ofNat_inj.mp z))), decide_eq_true (Decidable.not_not.mp fun z => e3 (.inr z))]
        rfl
abbrev s_law_steps : Stmt := top 29
theorem sc_law_steps : FnScope ["_law_beads_here", "_law_kind", "_law_others", "_law_one"] ["_law_beads_here", "_law_kind"] (defScope s_law_steps) := ⟨rfl, rfl, rfl, by decide +kernel, rfl, by decide +kernel, by decide +kernel⟩
abbrev s_law_due : Stmt := top 30
theorem sc_law_due : FnScope ["_law_beads_here", "_law_kind", "_law_answer", "_law_steps_here"] ["_law_beads_here", "_law_kind", "_law_answer"] (defScope s_law_due) := ⟨rfl, rfl, rfl, by decide +kernel, rfl, by decide +kernel, by decide +kernel⟩
/-! ### steps4 -/
theorem pe_orr {X : Cx} {e : Expr} {t1 t2 : TE} (h1 : PE X e t1) (h2 : PE X e t2) : PE X e (fun σ H Q => t1 σ H Q ∨ t2 σ H Q) := ⟨fun pins s σ H Q I h => h.elim (h1.run pins s σ H Q I) (h2.run pins s σ H Q I)⟩
theorem ev_orl {t1 t2 : TE} {δ : List Sl} {k : Kd} (h : EvD t1 δ k) : EvD (fun σ H Q => t1 σ H Q ∨ t2 σ H Q) δ k := fun H0 Hb H σ g Q q => .inl (h H0 Hb H σ g Q q)
theorem ev_orr {t1 t2 : TE} {δ : List Sl} {k : Kd} (h : EvD t2 δ k) : EvD (fun σ H Q => t1 σ H Q ∨ t2 σ H Q) δ k := fun H0 Hb H σ g Q q => .inr (h H0 Hb H σ g Q q)
theorem ev_isNo {e : TE} {δ : List Sl} {o : Option Int} (h : EvD e δ (kE (optV o))) : EvD (tOp (fun x y H Q => y = .non ∧ Q (.bl (decide (x = .non))) H) e (tC .non)) δ (kB (decide (o = none))) :=
  ev_op h ev_c (op_isNk fun v H hv => by
    have hv : v = optV o := hv
    subst hv
    cases o <;> rfl)
theorem ev_notNo {e : TE} {δ : List Sl} {o : Option Int} (h : EvD e δ (kE (optV o))) : EvD (tOp (fun x y H Q => y = .non ∧ Q (.bl (!decide (x = .non))) H) e (tC .non)) δ (kB (!decide (o = none))) :=
  ev_op h ev_c (op_notNk fun v H hv => by
    have hv : v = optV o := hv
    subst hv
    cases o <;> rfl)
theorem eqv_prs_nil (l : List (Int × Int)) : PyData.eqv (.list (dPs l)) (.list []) = decide (l = []) := by
  cases l with
  | nil => rfl
  | cons a l => rfl
theorem can_nil {a b c : Int} (ha : 0 ≤ a) (hb : 0 ≤ b) (hc : 0 ≤ c) (hs : 0 < a + b + c) : canL a b c = [] ↔ nk a b c = 1 := by
  unfold canL nk
  by_cases h1 : 0 < a <;> by_cases h2 : 0 < b <;> by_cases h3 : 0 < c <;> simp [h1, h2, h3] <;> omega
def A_law_steps (K : PySem.W.Frag) (ks : List Kd) (r : Rs) : Prop := ∃ a b c k x y z : Int, ks = [k3 K a b c, kI k] ∧ 0 ≤ a ∧ 0 ≤ b ∧ 0 ≤ c ∧ 0 < a + b + c ∧ Sel k a b c x y z ∧ r = .v (kE (optV (stepsG x y (nk a b c))))
theorem ok_law_steps (B : Bt mg) (D : DefAt K mg "_law_steps" s_law_steps ["_law_beads_here", "_law_kind"]) (d__law_can : CallD P w K mg base 1 "_law_can" (spR (A_law_can K))) : CallD P w K mg base 2 "_law_steps" (spR (A_law_steps K)) := by
  refine callD_of D sc_law_steps (by rintro ks r ⟨a, b, c, k, x, y, z, rfl, _⟩; rfl) fun f cdv Ar outer s H E hr => ⟨_, (pss_cons (ps_setLc (i := 2) (own := [("_law_one", 3)]) (g := (gName 3))  rfl sc_law_steps.nd rfl rfl (sw_true rfl rfl rfl (by decide +kernel)) (pi_listK (K := K) (pe_lst (pa_cons pe_int (pa_cons pe_int (pa_cons pe_int pa_nil)))) rfl) (blkOk_by (own := [("_law_one", 3)]) (N := ["_law_beads_here", "_law_kind", "_law_others", "_law_one"]) (sc := defScope s_law_steps) (by decide +kernel)) (fun _ _ _ _ _ => (pg_name (i := 3) sc_law_steps.nd rfl (.inl rfl))) (fun _ _ _ _ _ => (pts_one (pt_cmpR (op_neK (K := K) hr rfl) (pv 3) (pv 1) (nomark _)))) (fun _ _ _ _ _ => (pe_ix (ix_seqK (K := K) rfl) (pv 0) (pv 3) (fun _ _ => rfl))))
      (pss_cons (ps_if (pt_cmpR (op_eqK (K := K) hr rfl) (pv 2) (pe_lst (pa_cons pe_int (pa_cons pe_int pa_nil))) (nomark _)) (pss_one (ps_ret pe_int)) pss_nil)
      (pss_cons (ps_if (PW.pt (pw_or (pt_cmpR (op_eqK (K := K) hr rfl) (pe_d d__law_can hr (by decide) (pa_cons (pv 0) pa_nil)) (pe_lst pa_nil) (nomark _)) (pw_or1 (pt_cmpR (op_neK (K := K) hr rfl) (pe_op op_mod (pe_op op_sub (pe_ix (ix_seqK (K := K) rfl) (pv 2) pe_int (fun _ _ => rfl)) (pe_ix (ix_seqK (K := K) rfl) (pv 2) pe_int (fun _ _ => rfl))) pe_int) pe_int (nomark _))))) (pss_one (ps_ret pe_non)) pss_nil)
      (pss_one (ps_ret (pe_callB (cr_maxK (K := K) rfl rfl) (by rfl) B.b_max (by decide +kernel) (pa_cons (pv 2) pa_nil))))))), fun ks r h => ?_⟩
  obtain ⟨a, b, c, k, x, y, z, rfl, ha, hb, hc, hs, hx, rfl⟩ := h
  change DoesR _ _ [.sh _, .sh _, .no, .no] _
  have hcn := can_nil ha hb hc hs
  refine' .inl (d_seq (d_asg (k := kL ([x, y].map kI)) (ev_ofN ?ot)) ?r)
  case ot =>
    rcases hx with ⟨rfl, rfl, rfl, rfl⟩ | ⟨rfl, rfl, rfl, rfl⟩ | ⟨rfl, rfl, rfl, rfl⟩
    · walk_at "dx en"
    · walk_at "dx en"
    · walk_at "dx en"
  case r =>
    change Does _ [.sh (k3 K a b c), .sh (kI k), .sh (kL ([x, y].map kI)), .no] _
    refine' d_seqif (et_to (et_test (ev_op (ev_var rfl) ?l0 (op_eqk (d := .list [.int x, .int y]) (e := .list [.int 0, .int 0]) (isd_lst (isds_ints [x, y])) (isd_lst ?d0) (shaped_ints [x, y]) rfl))) nil2) (fun e => d_ret1 (d_to (d_ret ev_c) ?q1)) (fun e => d_seq d_next (d_seqif (et_or (et_test (ev_op (ev_ofN (en_call (ea_cons (ev_var rfl) ea_nil) ⟨a, b, c, rfl, rfl⟩)) (ev_ofN (en_lst ea_nil (Nat.zero_le _))) (op_eqk (isd_lst (isds_prs _)) (isd_lst isds_nil) (shaped_prs _) rfl))) (fun _ => et_test (ev_op (ev_op (ev_op (ev_op (ev_var rfl) ev_c (op_ixqL rfl)) (ev_op (ev_var rfl) ev_c (op_ixqL rfl)) op_I0) ev_c (op_I ?p3)) ev_c (op_nek isd_int isd_int rfl rfl)))) (fun e2 => d_ret1 (d_to (d_ret ev_c) ?q2)) (fun e2 => d_seq d_next (d_to (d_ret (ev_cb (ea_cons (ev_var rfl) ea_nil) (ca_maxL (ns := [x, y]) (m := max x y) (Nat.zero_lt_succ 1) fun z h1 h2 => max_of2 h1 h2))) ?q3))))
    case l0 => walk_at "dx ev"
    case d0 => walk_at "dx isds"
    case p3 => show (0 : Int) < 3; decide
    case q1 =>
      have e := of_decide_eq_true e
      unfold stepsG
      rw [if_pos e]
      rfl
    case q2 =>
      have e := of_decide_eq_false e
      have e3 : nk a b c = 1 ∨ (x - y) % 3 ≠ 0 := by
        rw [eqv_prs_nil, eqv_int] at e2
        simp only [Bool.or_eq_true, decide_eq_true_iff, Bool.not_eq_true', decide_eq_false_iff_not] at e2
        exact e2.elim (fun h => .inl (hcn.mp h)) .inr
      unfold stepsG
      rw [if_neg e, if_pos e3]
      rfl
    case q3 =>
      have e := of_decide_eq_false e
      have e3 : ¬ (nk a b c = 1 ∨ (x - y) % 3 ≠ 0) := by
        rw [eqv_prs_nil, eqv_int] at e2
        simp only [Bool.or_eq_false_iff, decide_eq_false_iff_not, Bool.not_eq_false', decide_eq_true_iff] at e2
        rintro (h | h)
        · exact e2.1 (hcn.mpr h)
        · exact h e2.2
      unfold stepsG
      rw [if_neg e, if_neg e3]
      rfl
theorem et_isB {C_Barred C_All : Addr} {e : TE} {δ : List Sl} {o : Option Int} (cA : OwnC K mg "All" C_All) (cB : OwnC K mg "Barred" C_Barred) (D : Addr) (pA pB : Bool) (hA : PySem.W.kitOne K (.ref C_All) (.ref D) = some pA) (hB : PySem.W.kitOne K (.ref C_Barred) (.ref D) = some pB) (h : EvD e δ (ansK C_All C_Barred o)) : EvD (tCB (rIsi K) (tCons e (tCons (tC (.ref D)) tNil))) δ (kB (if o = none then pB else pA)) := by
  cases o with
  | none => exact ev_cb (ea_cons h (ea_cons ev_c ea_nil)) (ca_isiO cB.i hB)
  | some s => exact ev_cb (ea_cons h (ea_cons ev_c ea_nil)) (ca_isiO cA.i hA)
def A_law_due (K : PySem.W.Frag) (CA CB : Addr) (ks : List Kd) (r : Rs) : Prop := ∃ (a b c k x y z : Int) (o : Option Int), ks = [k3 K a b c, kI k, ansK CA CB o] ∧ 0 ≤ a ∧ 0 ≤ b ∧ 0 ≤ c ∧ 0 < a + b + c ∧ Sel k a b c x y z ∧ r = .v (kB (decide (stepsG x y (nk a b c) = o)))
theorem ok_law_due {C_All C_Barred : Addr} (B : Bt mg) (D : DefAt K mg "_law_due" s_law_due ["_law_beads_here", "_law_kind", "_law_answer"]) (d__law_steps : CallD P w K mg base 2 "_law_steps" (spR (A_law_steps K))) (c_All : OwnC K mg "All" C_All) (c_Barred : OwnC K mg "Barred" C_Barred) (na_All_steps : NoAttr K C_All "steps")
    (i_All_Barred_f : PySem.W.kitOne K (.ref C_All) (.ref C_Barred) = some false) (i_Barred_Barred_t : PySem.W.kitOne K (.ref C_Barred) (.ref C_Barred) = some true) : CallD P w K mg base 3 "_law_due" (spR (A_law_due K C_All C_Barred)) := by
  refine callD_of D sc_law_due (by rintro ks r ⟨a, b, c, k, x, y, z, o, rfl, _⟩; rfl) fun f cdv Ar outer s H E hr => ⟨_, (pss_cons (ps_set (i := 3) sc_law_due.nd rfl (.inl rfl) (pe_d d__law_steps hr (by decide) (pa_cons (pv 0) (pa_cons (pv 1) pa_nil))))
      (pss_one (ps_ret (pe_ifExp (pt_val (pe_callB (call_isiK (K := K) rfl) (by rfl) B.b_isinstance PyProof.Rows.boot_isinstance (pa_cons (pv 2) (pa_cons (pe_gref (by rfl) c_Barred.gC) pa_nil)))) (pe_cmpR op_isN (pv 3) pe_non (nomark _)) (pe_and (pe_cmpR op_notN (pv 3) pe_non (nomark _)) (pe_one (pe_cmpR (op_eqK (K := K) hr rfl) (pe_fldK (K := K) (pv 2) rfl) (pv 3) (nomark _)))))))), fun ks r h => ?_⟩
  obtain ⟨a, b, c, k, x, y, z, o, rfl, ha, hb, hc, hs, hx, rfl⟩ := h
  change DoesR _ _ [.sh _, .sh _, .sh _, .no] _
  refine' .inl (d_seq (d_asg (ev_call (ea_cons (ev_var rfl) (ea_cons (ev_var rfl) ea_nil)) ⟨a, b, c, k, x, y, z, rfl, ha, hb, hc, hs, hx, rfl⟩)) ?r)
  generalize stepsG x y (nk a b c) = st
  change Does _ [.sh (k3 K a b c), .sh (kI k), .sh (ansK C_All C_Barred o), .sh (kE (optV st))] _
  have hi := et_b (et_isB (δ := [.sh (k3 K a b c), .sh (kI k), .sh (ansK C_All C_Barred o), .sh (kE (optV st))]) c_All c_Barred C_Barred false true i_All_Barred_f i_Barred_Barred_t (ev_var (i := 2) rfl))
  cases o with
  | none => exact d_ret (ev_ifT hi (ev_isNo (ev_var rfl)))
  | some v =>
    refine' d_to (d_ret (ev_ifF hi (ev_and (b2 := decide (st = some v)) (ev_notNo (ev_var rfl)) fun e => ?x))) ?q
    case x =>
      cases st with
      | none => cases e
      | some w =>
        refine ev_to (ev_op (ev_fld (ev_var rfl) c_All.i.c na_All_steps rfl) (ev_var (k := kI w) rfl) (op_eqk isd_int isd_int rfl rfl)) ?_
        rw [eqv_int]
        congr 1
        rw [decide_eq_decide]
        exact ⟨fun h => by rw [h], fun h => (Option.some.inj h).symm⟩
    case q => cases st <;> simp
abbrev s_law_right : Stmt := top 31
theorem sc_law_right : FnScope ["_law_beads_here", "_law_kind", "_law_steps_here", "_law_other", "_law_again", "_law_answer"] ["_law_beads_here", "_law_kind", "_law_steps_here", "_law_other"] (defScope s_law_right) := ⟨rfl, rfl, rfl, by decide +kernel, rfl, by decide +kernel, by decide +kernel⟩
/-! ### right4 -/
theorem op_notB {a b : Bool} : Op rNotB (kB a) (kB b) (kB (!decide (a = b))) := fun Hb H x y Q e h1 h2 q => ⟨a, b, h1, h2, q _ rfl⟩
def A_law_right (K : PySem.W.Frag) (ks : List Kd) (r : Rs) : Prop := ∃ a b c k x y z a' b' c' x' y' z' : Int, ks = [k3 K a b c, kI k, kE (optV (stepsG x y (nk a b c))), k3 K a' b' c'] ∧ 0 ≤ a ∧ 0 ≤ b ∧ 0 ≤ c ∧ 0 < a + b + c ∧ Sel k a b c x y z ∧ 0 ≤ a' ∧ 0 ≤ b' ∧ 0 ≤ c' ∧ 0 < a' + b' + c' ∧ Sel k a' b' c' x' y' z' ∧ r = .v (kB true)
theorem ok_law_right {C_All C_Barred C_Answer : Addr} (B : Bt mg) (D : DefAt K mg "_law_right" s_law_right ["_law_beads_here", "_law_kind", "_law_steps_here", "_law_other"]) (d_all_of : CallD P w K mg base 3 "all_of" (spR (A_all_of K C_All C_Barred))) (d__law_due : CallD P w K mg base 3 "_law_due" (spR (A_law_due K C_All C_Barred)))
    (d_All_shows : MethD P w K mg base 1 C_All "shows" (spR (A_All_shows K C_All))) (d_Barred_shows : MethD P w K mg base 1 C_Barred "shows" (spR (A_Barred_shows K C_Barred))) (c_All : OwnC K mg "All" C_All) (c_Barred : OwnC K mg "Barred" C_Barred) (c_Answer : OwnC K mg "Answer" C_Answer) (na_All_steps : NoAttr K C_All "steps")
    (i_All_Answer_t : PySem.W.kitOne K (.ref C_All) (.ref C_Answer) = some true) (i_Barred_Answer_t : PySem.W.kitOne K (.ref C_Barred) (.ref C_Answer) = some true) (i_All_All_t : PySem.W.kitOne K (.ref C_All) (.ref C_All) = some true) (i_Barred_All_f : PySem.W.kitOne K (.ref C_Barred) (.ref C_All) = some false)
    (i_All_Barred_f : PySem.W.kitOne K (.ref C_All) (.ref C_Barred) = some false) (i_Barred_Barred_t : PySem.W.kitOne K (.ref C_Barred) (.ref C_Barred) = some true) : CallD P w K mg base 4 "_law_right" (spR (A_law_right K)) := by
  refine callD_of D sc_law_right (by rintro ks r ⟨a, b, c, k, x, y, z, a', b', c', x', y', z', rfl, _⟩; rfl) fun f cdv Ar outer s H E hr => ⟨_, (pss_cons (ps_for (passes_of rfl) rfl (pi_range1 (by rfl) B.b_range (pa_cons pe_int pa_nil)) (pg_name (i := 4) sc_law_right.nd rfl (.inl rfl)) (pss_cons (ps_set (i := 5) sc_law_right.nd rfl (.inl rfl) (pe_d d_all_of hr (by decide) (pa_cons (pv 0) (pa_cons (pv 1) pa_nil))))
      (pss_cons (ps_if (pt_not (pt_val (pe_callB (call_isiK (K := K) rfl) (by rfl) B.b_isinstance PyProof.Rows.boot_isinstance (pa_cons (pv 5) (pa_cons (pe_gref (by rfl) c_Answer.gC) pa_nil))))) (pss_one (ps_ret pe_bl)) pss_nil)
      (pss_cons (ps_if (pt_cmpR (op_neK (K := K) hr rfl) (pe_lst (pa_cons (pe_callB (call_isiK (K := K) rfl) (by rfl) B.b_isinstance PyProof.Rows.boot_isinstance (pa_cons (pv 5) (pa_cons (pe_gref (by rfl) c_All.gC) pa_nil))) (pa_cons (pe_callB (call_isiK (K := K) rfl) (by rfl) B.b_isinstance PyProof.Rows.boot_isinstance (pa_cons (pv 5) (pa_cons (pe_gref (by rfl) c_Barred.gC) pa_nil))) pa_nil))) (pe_lst (pa_cons (pe_cmpR op_notN (pv 2) pe_non (nomark _)) (pa_cons (pe_cmpR op_isN (pv 2) pe_non (nomark _)) pa_nil))) (nomark _)) (pss_one (ps_ret pe_bl)) pss_nil)
      (pss_cons (ps_if (PW.pt (pw_and (pt_cmpR op_notN (pv 2) pe_non (nomark _)) (pw_and1 (PW.pt (pw_or (pt_val (pe_callB (call_isiK (K := K) rfl) (by rfl) B.b_isinstance PyProof.Rows.boot_isinstance (pa_cons (pe_fldK (K := K) (pv 5) rfl) (pa_cons (pe_ty (n := "bool") (by rfl) B.b_bool (by decide +kernel)) pa_nil)))) (pw_or1 (pt_cmpR (op_neK (K := K) hr rfl) (pe_fldK (K := K) (pv 5) rfl) (pv 2) (nomark _)))))))) (pss_one (ps_ret pe_bl)) pss_nil)
      (pss_one (ps_if (PW.pt (pw_or (pt_cmpR op_notBl (pe_orr (pe_md d_All_shows c_All.i.c hr (by decide) (pv 5) (pa_cons (pv 0) (pa_cons (pv 1) pa_nil))) (pe_md d_Barred_shows c_Barred.i.c hr (by decide) (pv 5) (pa_cons (pv 0) (pa_cons (pv 1) pa_nil)))) pe_bl (nomark _)) (pw_or1 (pt_cmpR (op_neK (K := K) hr rfl) (pe_orr (pe_md d_All_shows c_All.i.c hr (by decide) (pv 5) (pa_cons (pv 3) (pa_cons (pv 1) pa_nil))) (pe_md d_Barred_shows c_Barred.i.c hr (by decide) (pv 5) (pa_cons (pv 3) (pa_cons (pv 1) pa_nil)))) (pe_d d__law_due hr (by decide) (pa_cons (pv 3) (pa_cons (pv 1) (pa_cons (pv 5) pa_nil)))) (nomark _))))) (pss_one (ps_ret pe_bl)) pss_nil)))))))
      (pss_one (ps_ret pe_bl))), fun ks r h => ?_⟩
  obtain ⟨a, b, c, k, x, y, z, a', b', c', x', y', z', rfl, ha, hb, hc, hs, hx, ha', hb', hc', hs', hx', rfl⟩ := h
  change DoesR _ _ [.sh _, .sh _, .sh _, .sh _, .no, .no] _
  cases hst : stepsG x y (nk a b c) with
  | none =>
    refine' .inl (d_seq (δ1 := [.sh (k3 K a b c), .sh (kI k), .sh (kE (optV none)), .sh (k3 K a' b' c'), .no, .no]) (d_for (src_range (n := 2) ev_c (by decide)) (forRun_all _ fun q hq => ?turn)) (d_ret ev_c))
    case turn =>
      have an : A_all_of K C_All C_Barred [k3 K a b c, kI k] (.v (ansK C_All C_Barred none)) := ⟨a, b, c, k, x, y, z, rfl, ha, hb, hc, hs, hx, by rw [hst]⟩
      refine' ⟨_, _, b_name, d_seq (d_asg (ev_call (ea_cons (ev_var rfl) (ea_cons (ev_var rfl) ea_nil)) an)) ?r⟩
      change Does _ [.sh (k3 K a b c), .sh (kI k), .sh (kE (optV none)), .sh (k3 K a' b' c'), .sh q, .sh (ansK C_All C_Barred none)] _
      refine' d_skip (et_not (et_b (et_isB c_All c_Barred C_Answer true true i_All_Answer_t i_Barred_Answer_t (ev_var rfl)))) rfl (d_skip (et_test (ev_op (ev_ofN (en_lst (ea_cons (et_isB c_All c_Barred C_All true false i_All_All_t i_Barred_All_f (ev_var rfl)) (ea_cons (et_isB c_All c_Barred C_Barred false true i_All_Barred_f i_Barred_Barred_t (ev_var rfl)) ea_nil)) (Nat.le_of_ble_eq_true rfl))) (ev_ofN (en_lst (ea_cons (ev_notNo (ev_var rfl)) (ea_cons (ev_isNo (ev_var rfl)) ea_nil)) (Nat.le_of_ble_eq_true rfl))) (op_nek (isd_lst (isds_cons isd_bl (isds_cons isd_bl isds_nil))) (isd_lst (isds_cons isd_bl (isds_cons isd_bl isds_nil))) rfl rfl))) rfl (d_skip (et_and (b2 := false) (et_test (ev_notNo (o := none) (ev_var rfl))) (fun e => nomatch e)) rfl
        (d_weak (d_skip1 (et_or (et_test (ev_op (ev_orr (ev_meth (ev_var rfl) rfl (ea_cons (ev_var rfl) (ea_cons (ev_var rfl) ea_nil)) ⟨a, b, c, k, x, y, z, rfl, hx, rfl⟩)) ev_c op_notB)) (fun _ => et_test (ev_op (ev_orr (ev_meth (ev_var rfl) rfl (ea_cons (ev_var rfl) (ea_cons (ev_var rfl) ea_nil)) ⟨a', b', c', k, x', y', z', rfl, hx', rfl⟩)) (ev_call (ea_cons (ev_var rfl) (ea_cons (ev_var rfl) (ea_cons (ev_var rfl) ea_nil))) ⟨a', b', c', k, x', y', z', none, rfl, ha', hb', hc', hs', hx', rfl⟩) (op_nek isd_bl isd_bl rfl rfl)))) ?q1) ?w)))
      case q1 =>
        rw [hst, eqv_self (d := .bool (decide (stepsG x' y' (nk a' b' c') = none))) rfl]
        rfl
      case w => walk_at "dx weak"
  | some v =>
    refine' .inl (d_seq (δ1 := [.sh (k3 K a b c), .sh (kI k), .sh (kI v), .sh (k3 K a' b' c'), .no, .no]) (d_for (src_range (n := 2) ev_c (by decide)) (forRun_all _ fun q hq => ?turn2)) (d_ret ev_c))
    case turn2 =>
      have an : A_all_of K C_All C_Barred [k3 K a b c, kI k] (.v (ansK C_All C_Barred (some v))) := ⟨a, b, c, k, x, y, z, rfl, ha, hb, hc, hs, hx, by rw [hst]⟩
      refine' ⟨_, _, b_name, d_seq (d_asg (ev_call (ea_cons (ev_var rfl) (ea_cons (ev_var rfl) ea_nil)) an)) ?r5⟩
      change Does _ [.sh (k3 K a b c), .sh (kI k), .sh (kE (optV (some v))), .sh (k3 K a' b' c'), .sh q, .sh (ansK C_All C_Barred (some v))] _
      refine' d_skip (et_not (et_b (et_isB c_All c_Barred C_Answer true true i_All_Answer_t i_Barred_Answer_t (ev_var rfl)))) rfl (d_skip (et_test (ev_op (ev_ofN (en_lst (ea_cons (et_isB c_All c_Barred C_All true false i_All_All_t i_Barred_All_f (ev_var rfl)) (ea_cons (et_isB c_All c_Barred C_Barred false true i_All_Barred_f i_Barred_Barred_t (ev_var rfl)) ea_nil)) (Nat.le_of_ble_eq_true rfl))) (ev_ofN (en_lst (ea_cons (ev_notNo (ev_var rfl)) (ea_cons (ev_isNo (ev_var rfl)) ea_nil)) (Nat.le_of_ble_eq_true rfl))) (op_nek (isd_lst (isds_cons isd_bl (isds_cons isd_bl isds_nil))) (isd_lst (isds_cons isd_bl (isds_cons isd_bl isds_nil))) rfl rfl))) rfl (d_skip (et_and (et_test (ev_notNo (o := some v) (ev_var rfl))) (fun e => et_or (et_b (ev_cb (ea_cons (ev_fld (v := .int v) (ev_var rfl) c_All.i.c na_All_steps rfl) (ea_cons ev_c ea_nil)) ?i1)) (fun _ => et_test (ev_op (ev_fld (v := .int v) (ev_var rfl) c_All.i.c na_All_steps rfl) (ev_var (k := kI v) rfl) (op_nek isd_int isd_int rfl rfl))))) ?q2
        (d_weak (d_skip1 (et_or (et_test (ev_op (ev_orl (ev_meth (ev_var rfl) rfl (ea_cons (ev_var rfl) (ea_cons (ev_var rfl) ea_nil)) ⟨v, a, b, c, k, x, y, z, rfl, hx, rfl⟩)) ev_c op_notB)) (fun _ => et_test (ev_op (ev_orl (ev_meth (ev_var rfl) rfl (ea_cons (ev_var rfl) (ea_cons (ev_var rfl) ea_nil)) ⟨v, a', b', c', k, x', y', z', rfl, hx', rfl⟩)) (ev_call (ea_cons (ev_var rfl) (ea_cons (ev_var rfl) (ea_cons (ev_var rfl) ea_nil))) ⟨a', b', c', k, x', y', z', some v, rfl, ha', hb', hc', hs', hx', rfl⟩) (op_nek isd_bl isd_bl rfl rfl)))) ?q3) ?w2)))
      case i1 => walk_at "dx ca"
      case q2 => rw [eqv_int]; simp
      case q3 =>
        rw [hst, eqv_self (d := .bool (decide (stepsG x' y' (nk a' b' c') = some v))) rfl]
        simp
      case w2 => walk_at "dx weak"
/-! ### turn4 -/
theorem sum3 (t : T3) : [t.1, t.2.1, t.2.2].sum = sumT t := by simp only [List.sum_cons, List.sum_nil, sumT]; omega
theorem sel_met {k a b c x y z i j : Int} (h : Sel k a b c x y z) (hm : (i, j) ∈ canL a b c) : ∃ a' b' c' x' y' z', metF a b c i j 2 = (a', b', c') ∧ Sel k a' b' c' x' y' z' ∧ ((x' = x - 1 ∧ y' = y - 1 ∧ z' = z + 2 ∧ 0 < x ∧ 0 < y) ∨ (x' = x - 1 ∧ y' = y + 2 ∧ z' = z - 1 ∧ 0 < x ∧ 0 < z) ∨ (x' = x + 2 ∧ y' = y - 1 ∧ z' = z - 1 ∧ 0 < y ∧ 0 < z)) := by
  rcases canL_mem hm with ⟨rfl, rfl, h1, h2⟩ | ⟨rfl, rfl, h1, h2⟩ | ⟨rfl, rfl, h1, h2⟩ <;> rcases h with ⟨rfl, rfl, rfl, rfl⟩ | ⟨rfl, rfl, rfl, rfl⟩ | ⟨rfl, rfl, rfl, rfl⟩
  · exact ⟨_, _, _, _, _, _, rfl, .inl ⟨rfl, rfl, rfl, rfl⟩, .inr (.inl ⟨rfl, rfl, rfl, h2, h1⟩)⟩
  · exact ⟨_, _, _, _, _, _, rfl, .inr (.inl ⟨rfl, rfl, rfl, rfl⟩), .inr (.inl ⟨rfl, rfl, rfl, h1, h2⟩)⟩
  · exact ⟨_, _, _, _, _, _, rfl, .inr (.inr ⟨rfl, rfl, rfl, rfl⟩), .inl ⟨rfl, rfl, rfl, h1, h2⟩⟩
  · exact ⟨_, _, _, _, _, _, rfl, .inl ⟨rfl, rfl, rfl, rfl⟩, .inr (.inr ⟨rfl, rfl, rfl, h2, h1⟩)⟩
  · exact ⟨_, _, _, _, _, _, rfl, .inr (.inl ⟨rfl, rfl, rfl, rfl⟩), .inl ⟨rfl, rfl, rfl, h1, h2⟩⟩
  · exact ⟨_, _, _, _, _, _, rfl, .inr (.inr ⟨rfl, rfl, rfl, rfl⟩), .inr (.inl ⟨rfl, rfl, rfl, h1, h2⟩)⟩
  · exact ⟨_, _, _, _, _, _, rfl, .inl ⟨rfl, rfl, rfl, rfl⟩, .inl ⟨rfl, rfl, rfl, h1, h2⟩⟩
  · exact ⟨_, _, _, _, _, _, rfl, .inr (.inl ⟨rfl, rfl, rfl, rfl⟩), .inr (.inr ⟨rfl, rfl, rfl, h2, h1⟩)⟩
  · exact ⟨_, _, _, _, _, _, rfl, .inr (.inr ⟨rfl, rfl, rfl, rfl⟩), .inr (.inr ⟨rfl, rfl, rfl, h1, h2⟩)⟩
theorem sel_sum {k a b c x y z : Int} (h : Sel k a b c x y z) : x + y + z = a + b + c := by
  rcases h with ⟨rfl, rfl, rfl, rfl⟩ | ⟨rfl, rfl, rfl, rfl⟩ | ⟨rfl, rfl, rfl, rfl⟩ <;> omega
theorem sel_nn {k a b c x y z : Int} (h : Sel k a b c x y z) (ha : 0 ≤ a) (hb : 0 ≤ b) (hc : 0 ≤ c) : 0 ≤ x ∧ 0 ≤ y ∧ 0 ≤ z := by
  rcases h with ⟨rfl, rfl, rfl, rfl⟩ | ⟨rfl, rfl, rfl, rfl⟩ | ⟨rfl, rfl, rfl, rfl⟩ <;> omega
/-- turning keeps the rest by 3, lowers the greater of the two others by at most one -/
theorem goes_two : ∀ (l : List (Int × Int)) {k a b c x y z : Int}, Sel k a b c x y z → 0 ≤ x → 0 ≤ y → 0 ≤ z → goesL 2 l (a, b, c) → ∃ a' b' c' x' y' z', endL 2 l (a, b, c) = (a', b', c') ∧ Sel k a' b' c' x' y' z' ∧ 0 ≤ x' ∧ 0 ≤ y' ∧ 0 ≤ z' ∧ x' + y' + z' = x + y + z ∧ (x' - y' - (x - y)) % 3 = 0 ∧ max x y ≤ max x' y' + l.length
  | [], k, a, b, c, x, y, z, h, hx, hy, hz, _ => ⟨a, b, c, x, y, z, rfl, h, hx, hy, hz, rfl, by omega, by simp⟩
  | (i, j) :: l, k, a, b, c, x, y, z, h, hx, hy, hz, g => by
    obtain ⟨a1, b1, c1, x1, y1, z1, e, h1, hstep⟩ := sel_met h (show (i, j) ∈ canL a b c from g.1)
    have g2 : goesL 2 l (metF a b c i j 2) := g.2
    rw [e] at g2
    obtain ⟨a', b', c', x', y', z', e2, h2, q1, q2, q3, q4, q5, q6⟩ := goes_two l h1 (by omega) (by omega) (by omega) g2
    refine ⟨a', b', c', x', y', z', ?_, h2, q1, q2, q3, by omega, by omega, by rw [List.length_cons]; omega⟩
    show endL 2 l (metF a b c i j 2) = _
    rw [e, e2]
/-- all of the kind k -/
def thereT (k S : Int) : T3 := ((if 0 = k then S else 0), (if 1 = k then S else 0), (if 2 = k then S else 0))
theorem there_sel {k a b c x y z S : Int} (h : Sel k a b c x y z) : (a, b, c) = thereT k S ↔ x = 0 ∧ y = 0 ∧ z = S := by
  unfold thereT
  rcases h with ⟨rfl, rfl, rfl, rfl⟩ | ⟨rfl, rfl, rfl, rfl⟩ | ⟨rfl, rfl, rfl, rfl⟩ <;> simp <;> omega
theorem reach_turn {k a b c x y z : Int} (h : Sel k a b c x y z) (ha : 0 ≤ a) (hb : 0 ≤ b) (hc : 0 ≤ c) (hs : 0 < a + b + c) (hU : a + b + c ≤ 18) :
    (stepsG x y (nk a b c) = none → thereT k (a + b + c) ∉ (reachF 2 (a, b, c)).map Prod.fst) ∧ ∀ s, stepsG x y (nk a b c) = some s → (thereT k (a + b + c), s) ∈ reachF 2 (a, b, c) := by
  obtain ⟨h1, h2, h3⟩ := reach_spec (m := 2) (.inr rfl) (b := (a, b, c)) ⟨ha, hb, hc, hU⟩
  obtain ⟨hx, hy, hz⟩ := sel_nn h ha hb hc
  have hsum := sel_sum h
  refine ⟨fun hn hm => ?_, fun s hn => ?_⟩
  · obtain ⟨⟨t, v⟩, q1, q2⟩ := List.mem_map.mp hm
    obtain ⟨l, g, e, _⟩ := (h2 t v q1).2
    change t = _ at q2
    rw [q2] at e
    obtain ⟨a', b', c', x', y', z', e2, k2, p1, p2, p3, p4, p5, p6⟩ := goes_two l h hx hy hz g
    rw [e2] at e
    obtain ⟨r1, r2, r3⟩ := (there_sel k2).mp e
    unfold stepsG at hn
    split at hn
    · cases hn
    · rename_i n0
      split at hn
      · rename_i n1
        rcases n1 with n1 | n1
        · have hcan := (can_nil ha hb hc hs).mpr n1
          cases l with
          | nil =>
            have e3 : (a, b, c) = (a', b', c') := e2
            have e4 := e3.trans e
            obtain ⟨u1, u2, _⟩ := (there_sel h).mp e4
            exact n0 ⟨u1, u2⟩
          | cons p l =>
            have g1 : p ∈ canL a b c := g.1
            rw [hcan] at g1
            cases g1
        · omega
      · cases hn
  · obtain ⟨n, rfl, hv⟩ := inv_of h ha hb hc hn
    obtain ⟨g, hlen, hown⟩ := tk_fin n h hv
    obtain ⟨a', b', c', x', y', z', e2, k2, p1, p2, p3, p4, p5, p6⟩ := goes_two _ h hx hy hz g
    have hz' : z' = a + b + c := by
      rw [e2] at hown
      rw [← hown, (sel_fn k2).2.2]
    have et : endL 2 (tkL n k (a, b, c)) (a, b, c) = thereT k (a + b + c) := by
      rw [e2]
      exact (there_sel k2).mpr ⟨by omega, by omega, hz'⟩
    obtain ⟨w, w1, w2⟩ := h3 _ g
    rw [et] at w1
    obtain ⟨l2, g2, e3, e4⟩ := (h2 _ w w1).2
    obtain ⟨a2, b2, c2, x2, y2, z2, e5, k5, s1, s2, s3, s4, s5, s6⟩ := goes_two l2 h hx hy hz g2
    rw [e5] at e3
    obtain ⟨u1, u2, u3⟩ := (there_sel k5).mp e3
    obtain ⟨v1, v2, v3, v4, v5, v6⟩ := hv
    have : w = n := by omega
    rw [← this]
    exact w1
theorem valV_there {k a b c x y z : Int} (h : Sel k a b c x y z) (ha : 0 ≤ a) (hb : 0 ≤ b) (hc : 0 ≤ c) (hs : 0 < a + b + c) (hU : a + b + c ≤ 18) : valV (kvsOf (reachF 2 (a, b, c))) (keyT (thereT k (a + b + c))) = (stepsG x y (nk a b c)).map V.int := by
  obtain ⟨q1, q2⟩ := reach_turn h ha hb hc hs hU
  obtain ⟨h1, _, _⟩ := reach_spec (m := 2) (.inr rfl) (b := (a, b, c)) ⟨ha, hb, hc, hU⟩
  cases e : stepsG x y (nk a b c) with
  | none => exact (valV_kvs _ _).1.mpr (q1 e)
  | some s => exact (valV_kvs _ _).2 h1 s (q2 s e)
/-- behind a turning the same can be -/
theorem turn_same {k a b c x y z i j : Int} (h : Sel k a b c x y z) (ha : 0 ≤ a) (hb : 0 ≤ b) (hc : 0 ≤ c) (hs : 0 < a + b + c) (hm : (i, j) ∈ canL a b c) : ∃ a' b' c' x' y' z', metF a b c i j 2 = (a', b', c') ∧ Sel k a' b' c' x' y' z' ∧ 0 ≤ a' ∧ 0 ≤ b' ∧ 0 ≤ c' ∧ 0 < a' + b' + c' ∧ (canL a' b' c' ≠ [] → (stepsG x' y' (nk a' b' c') = none ↔ stepsG x y (nk a b c) = none)) := by
  obtain ⟨a', b', c', x', y', z', e, h', hstep⟩ := sel_met h hm
  obtain ⟨hx, hy, hz⟩ := sel_nn h ha hb hc
  have s1 := sel_sum h
  have s2 := sel_sum h'
  have nn : 0 ≤ a' ∧ 0 ≤ b' ∧ 0 ≤ c' := by
    rcases h' with ⟨rfl, rfl, rfl, rfl⟩ | ⟨rfl, rfl, rfl, rfl⟩ | ⟨rfl, rfl, rfl, rfl⟩ <;> omega
  have hs' : 0 < a' + b' + c' := by omega
  refine ⟨a', b', c', x', y', z', e, h', nn.1, nn.2.1, nn.2.2, hs', fun hn => ?_⟩
  have k1 : ¬ nk a' b' c' = 1 := fun q => hn ((can_nil nn.1 nn.2.1 nn.2.2 hs').mpr q)
  have k2 : ¬ nk a b c = 1 := fun q => by
    rw [(can_nil ha hb hc hs).mpr q] at hm
    cases hm
  have char : ∀ (x y : Int) (n : Nat), ¬ n = 1 → (stepsG x y n = none ↔ (x - y) % 3 ≠ 0) := fun x y n hn => by
    unfold stepsG
    by_cases q : x = 0 ∧ y = 0
    · rw [if_pos q, q.1, q.2]
      simp
    · rw [if_neg q]
      by_cases q2 : (x - y) % 3 = 0
      · rw [if_neg (fun z => z.elim hn (fun z => z q2))]
        simp [q2]
      · rw [if_pos (.inr q2)]
        simp [q2]
  rw [char _ _ _ k1, char _ _ _ k2]
  have : (x' - y') % 3 = (x - y) % 3 := by omega
  rw [this]
abbrev s_law : Stmt := top 32
theorem sc_law : FnScope ["_law_script", "_law_by", "_law_wide", "_law_beads_here", "_law_reached_here", "_law_kind", "_law_there", "_law_steps_here", "_law_one", "_law_pair"] ["_law_script"] (defScope s_law) := ⟨rfl, rfl, rfl, by decide +kernel, rfl, by decide +kernel, by decide +kernel⟩
/-! ### law_k04 -/
def A_law (K : PySem.W.Frag) (ks : List Kd) (r : Rs) : Prop := ∃ ns : List Int, ks = [kS K (ns.map kI)] ∧ (∀ z ∈ ns, Nb z bigN) ∧ r = .v (kB true)
def optD : Option Int → PyData
  | none => .none
  | some s => .int s
theorem isd_opt (o : Option Int) : IsD K (kE (optV o)) (optD o) := by
  cases o with
  | none => exact isd_non
  | some s => exact isd_int
theorem shaped_opt (o : Option Int) : SeqAt.shaped (optD o) = true := by cases o <;> rfl
theorem sel_mem {a b c : Int} {k : Kd} (hk : k ∈ [kI 0, kI 1, kI 2]) : ∃ k' x y z : Int, k = kI k' ∧ Sel k' a b c x y z := by
  rcases List.mem_cons.mp hk with e | hk
  · exact ⟨0, _, _, _, e, .inl ⟨rfl, rfl, rfl, rfl⟩⟩
  rcases List.mem_cons.mp hk with e | hk
  · exact ⟨1, _, _, _, e, .inr (.inl ⟨rfl, rfl, rfl, rfl⟩)⟩
  rcases List.mem_cons.mp hk with e | hk
  · exact ⟨2, _, _, _, e, .inr (.inr ⟨rfl, rfl, rfl, rfl⟩)⟩
  · cases hk
theorem sel_any {k : Int} {a b c x y z : Int} (h : Sel k a b c x y z) (a' b' c' : Int) : ∃ x' y' z', Sel k a' b' c' x' y' z' := by
  rcases h with ⟨rfl, _⟩ | ⟨rfl, _⟩ | ⟨rfl, _⟩
  · exact ⟨_, _, _, .inl ⟨rfl, rfl, rfl, rfl⟩⟩
  · exact ⟨_, _, _, .inr (.inl ⟨rfl, rfl, rfl, rfl⟩)⟩
  · exact ⟨_, _, _, .inr (.inr ⟨rfl, rfl, rfl, rfl⟩)⟩
theorem ok_law {C_All C_Barred : Addr} {f : Addr} {fd : FuncData} (B : Bt mg) (F : Fun K "law" "law" s_law f fd) (d__law_beads : CallD P w K mg base 2 "_law_beads" (spR (A_law_beads K))) (d__law_reached : CallD P w K mg base 2 "_law_reached" (spR (A_law_reached K)))
    (d__law_steps : CallD P w K mg base 2 "_law_steps" (spR (A_law_steps K))) (d__law_right : CallD P w K mg base 4 "_law_right" (spR (A_law_right K))) (d_meetings : CallD P w K mg base 3 "meetings" (spR (A_meetings K))) (d_turned : CallD P w K mg base 3 "turned" (spR (A_turned K)))
    (d_all_of : CallD P w K mg base 3 "all_of" (spR (A_all_of K C_All C_Barred))) (d_All_shows : MethD P w K mg base 1 C_All "shows" (spR (A_All_shows K C_All))) (d_Barred_shows : MethD P w K mg base 1 C_Barred "shows" (spR (A_Barred_shows K C_Barred))) (c_All : OwnC K mg "All" C_All) (c_Barred : OwnC K mg "Barred" C_Barred) (na_All_steps : NoAttr K C_All "steps")
    (i_All_All_t : PySem.W.kitOne K (.ref C_All) (.ref C_All) = some true) (i_Barred_All_f : PySem.W.kitOne K (.ref C_Barred) (.ref C_All) = some false) : FnOk P w K mg base (L2.CX P w) 5 f fd ["_law_script"] (spR (A_law K)) := by
  refine fn_do F sc_law (by rintro ks r ⟨ns, rfl, _⟩; rfl) fun cdv Ar outer s H E hr => ⟨_, (pss_cons (ps_for (passes_of rfl) rfl (pi_listK (K := K) (pe_lst (pa_cons (pe_tup (pa_cons pe_int (pa_cons pe_int pa_nil))) (pa_cons (pe_tup (pa_cons pe_int (pa_cons pe_int pa_nil))) (pa_cons (pe_tup (pa_cons pe_int (pa_cons pe_int pa_nil))) pa_nil)))) rfl) (pg_tup rfl (pgs_cons (pg_name (i := 1) sc_law.nd rfl (.inl rfl)) (pgs_cons (pg_name (i := 2) sc_law.nd rfl (.inl rfl)) pgs_nil))) (pss_cons (ps_set (i := 3) sc_law.nd rfl (.inr rfl) (pe_d d__law_beads hr (by decide) (pa_cons (pv 0) (pa_cons (pv 1) (pa_cons (pv 2) pa_nil)))))
      (pss_cons (ps_set (i := 4) sc_law.nd rfl (.inl rfl) (pe_d d__law_reached hr (by decide) (pa_cons (pv 3) (pa_cons pe_int pa_nil))))
      (pss_one (ps_for (passes_of rfl) rfl (pi_listK (K := K) (pe_lst (pa_cons pe_int (pa_cons pe_int (pa_cons pe_int pa_nil)))) rfl) (pg_name (i := 5) sc_law.nd rfl (.inr rfl)) (pss_cons (ps_set (i := 6) sc_law.nd rfl (.inl rfl) (pe_callTy (call_tupleK (K := K) rfl) (by rfl) B.b_tuple (by decide +kernel) (pa_cons (pe_lc (own := [("_law_one", 8)]) (g := (gName 8)) (tt := tYes) rfl sc_law.nd (pi_listK (K := K) (pe_lst (pa_cons pe_int (pa_cons pe_int (pa_cons pe_int pa_nil)))) rfl) (blkOk_by (own := [("_law_one", 8)]) (N := ["_law_script", "_law_by", "_law_wide", "_law_beads_here", "_law_reached_here", "_law_kind", "_law_there", "_law_steps_here", "_law_one", "_law_pair"]) (sc := defScope s_law) (by decide +kernel)) (fun _ _ _ _ _ => (pg_name (i := 8) sc_law.nd rfl (.inl rfl))) (fun _ _ _ _ _ => pts_nil) (fun _ _ _ _ _ => (pe_ifExp (pt_cmpR (op_eqK (K := K) hr rfl) (pv 8) (pv 5) (nomark _)) (pe_callB (cr_sumTK (K := K) rfl rfl) (by rfl) B.b_sum (by decide +kernel) (pa_cons (pv 3) pa_nil)) pe_int))) pa_nil)))
      (pss_cons (ps_set (i := 7) sc_law.nd rfl (.inl rfl) (pe_ifExp (pt_cmp (pc_din (hu_of hr) (pv 6) (pv 4))) (pe_dget (hu_of hr) (pv 4) (pv 6) (fun _ _ => rfl)) pe_non))
      (pss_one (ps_if (PW.pt (pw_or (pt_cmpR (op_neK (K := K) hr rfl) (pv 7) (pe_d d__law_steps hr (by decide) (pa_cons (pv 3) (pa_cons (pv 5) pa_nil))) (nomark _)) (pw_or1 (pt_not (pt_val (pe_d d__law_right hr (by decide) (pa_cons (pv 3) (pa_cons (pv 5) (pa_cons (pv 7) (pa_cons (pe_tup (pa_cons pe_int (pa_cons pe_int (pa_cons pe_int pa_nil)))) pa_nil)))))))))) (pss_one (ps_ret pe_bl)) pss_nil)))))))))
      (pss_cons (ps_for (passes_of rfl) rfl (pi_listK (K := K) (pe_lst (pa_cons pe_int (pa_cons pe_int pa_nil))) rfl) (pg_name (i := 1) sc_law.nd rfl (.inl rfl)) (pss_cons (ps_set (i := 3) sc_law.nd rfl (.inr rfl) (pe_d d__law_beads hr (by decide) (pa_cons (pv 0) (pa_cons (pv 1) (pa_cons (pe_op op_pow pe_int pe_int) pa_nil)))))
      (pss_one (ps_for (passes_of rfl) rfl (pi_listK (K := K) (pe_lst (pa_cons pe_int (pa_cons pe_int (pa_cons pe_int pa_nil)))) rfl) (pg_name (i := 5) sc_law.nd rfl (.inr rfl)) (pss_cons (ps_set (i := 7) sc_law.nd rfl (.inl rfl) (pe_d d__law_steps hr (by decide) (pa_cons (pv 3) (pa_cons (pv 5) pa_nil))))
      (pss_cons (ps_if (pt_not (pt_val (pe_d d__law_right hr (by decide) (pa_cons (pv 3) (pa_cons (pv 5) (pa_cons (pv 7) (pa_cons (pe_tup (pa_cons pe_int (pa_cons pe_int (pa_cons pe_int pa_nil)))) pa_nil))))))) (pss_one (ps_ret pe_bl)) pss_nil)
      (pss_one (ps_for (passes_of rfl) rfl (pi_listK (K := K) (pe_d d_meetings hr (by decide) (pa_cons (pv 3) pa_nil)) rfl) (pg_name (i := 9) sc_law.nd rfl (.inl rfl)) (pss_cons (ps_set (i := 6) sc_law.nd rfl (.inl rfl) (pe_d d_turned hr (by decide) (pa_cons (pv 3) (pa_cons (pv 9) pa_nil))))
      (pss_one (ps_if (PW.pt (pw_and (pt_cmpR (op_neK (K := K) hr rfl) (pe_d d_meetings hr (by decide) (pa_cons (pv 6) pa_nil)) (pe_lst pa_nil) (nomark _)) (pw_and1 (pt_cmpR (op_neK (K := K) hr rfl) (pe_callB (call_isiK (K := K) rfl) (by rfl) B.b_isinstance PyProof.Rows.boot_isinstance (pa_cons (pe_d d_all_of hr (by decide) (pa_cons (pv 6) (pa_cons (pv 5) pa_nil))) (pa_cons (pe_gref (by rfl) c_All.gC) pa_nil))) (pe_cmpR op_notN (pv 7) pe_non (nomark _)) (nomark _))))) (pss_one (ps_ret pe_bl)) pss_nil)))))))))))
      (pss_one (ps_ret (pe_and (pe_cmpR op_isBl (pe_orr (pe_md d_All_shows c_All.i.c hr (by decide) (pe_d d_all_of hr (by decide) (pa_cons (pe_tup (pa_cons pe_int (pa_cons pe_int (pa_cons pe_int pa_nil)))) (pa_cons pe_int pa_nil))) (pa_cons (pe_tup (pa_cons pe_int (pa_cons pe_int (pa_cons pe_int pa_nil)))) (pa_cons pe_int pa_nil))) (pe_md d_Barred_shows c_Barred.i.c hr (by decide) (pe_d d_all_of hr (by decide) (pa_cons (pe_tup (pa_cons pe_int (pa_cons pe_int (pa_cons pe_int pa_nil)))) (pa_cons pe_int pa_nil))) (pa_cons (pe_tup (pa_cons pe_int (pa_cons pe_int (pa_cons pe_int pa_nil)))) (pa_cons pe_int pa_nil)))) pe_bl (nomark _)) (pe_one (pe_cmpR (op_eqK (K := K) hr rfl) (pe_fldK (K := K) (pe_d d_all_of hr (by decide) (pa_cons (pe_tup (pa_cons pe_int (pa_cons pe_int (pa_cons pe_int pa_nil)))) (pa_cons pe_int pa_nil))) rfl) pe_int (nomark _)))))))), fun ks r h => ?_⟩
  obtain ⟨ns, rfl, hns, rfl⟩ := h
  change DoesR _ _ [.sh _, .no, .no, .no, .no, .no, .no, .no, .no, .no] _
  refine' .inl (d_seq (δ1 := [.sh (kS K (ns.map kI)), .no, .no, .no, .no, .no, .no, .no, .no, .no]) (d_for (src_list ?s1) (forRun_all _ fun k hk => ?turn)) ?rest)
  case s1 => walk_at "dx ev"
  case turn =>
    obtain ⟨by_, wide, rfl, h0, h1, h2, h3⟩ : ∃ by_ wide : Int, k = k2 K by_ wide ∧ 0 ≤ by_ ∧ by_ ≤ 100 ∧ 0 < wide ∧ wide ≤ 6 := by
      rcases List.mem_cons.mp hk with e | hk
      · exact ⟨0, 3, e, by decide, by decide, by decide, by decide⟩
      rcases List.mem_cons.mp hk with e | hk
      · exact ⟨1, 5, e, by decide, by decide, by decide, by decide⟩
      rcases List.mem_cons.mp hk with e | hk
      · exact ⟨2, 6, e, by decide, by decide, by decide, by decide⟩
      · cases hk
    refine' ⟨_, _, ?b, d_seq (d_asg (k := kRt (lawBeads ns by_ wide)) ?c) ?r⟩
    case b => walk_at "dx bnd"
    case c => exact ev_call (ea_cons (ev_var rfl) (ea_cons (ev_var rfl) (ea_cons (ev_var rfl) ea_nil))) ⟨ns, by_, wide, rfl, hns, h0, h1, h2, rfl⟩
    case r =>
      have ok := lawBeads_ok ns by_ h2
      generalize lawBeads ns by_ wide = p at ok ⊢
      obtain ⟨a, b, c⟩ := p
      obtain ⟨ha, hb, hc, hs, hle⟩ := ok
      change 0 ≤ a at ha
      change 0 ≤ b at hb
      change 0 ≤ c at hc
      change 0 < a + b + c at hs
      change (a < wide ∧ b < wide ∧ c < wide) ∨ (a ≤ wide ∧ b = 0 ∧ c = 0) ∨ (a = 0 ∧ b ≤ wide ∧ c = 0) ∨ (a = 0 ∧ b = 0 ∧ c ≤ wide) at hle
      have hU : a + b + c ≤ 18 := by omega
      change Does _ [.sh (kS K (ns.map kI)), .sh (kI by_), .sh (kI wide), .sh (kRt (a, b, c)), .no, .no, .no, .no, .no, .no] _
      refine' d_seq (d_asg (ev_call (ea_cons (ev_var rfl) (ea_cons ev_c ea_nil)) ⟨(a, b, c), 2, rfl, .inr rfl, ⟨ha, hb, hc, hU⟩, rfl⟩)) (d_weak (d_pre (δ1 := [.sh (kS K (ns.map kI)), .no, .no, .sh (kRt (a, b, c)), .sh (kD (kvsOf (reachF 2 (a, b, c)))), .no, .no, .no, .no, .no]) (d_for (src_list (ys := [kI 0, kI 1, kI 2]) ?s2) (forRun_all _ fun k hk => ?t1)) ?w1) ?w2)
      case w1 => walk_at "dx weak"
      case w2 => walk_at "dx weak"
      case s2 => walk_at "dx ev"
      case t1 =>
        obtain ⟨k, x, y, z, rfl, hx⟩ := sel_mem (a := a) (b := b) (c := c) hk
        obtain ⟨x', y', z', hx'⟩ := sel_any hx 1 4 0
        have hv := valV_there hx ha hb hc hs hU
        generalize hF : kvsOf (reachF 2 (a, b, c)) = F at hv ⊢
        refine' ⟨_, _, b_name, d_seq (d_asg (k := kRt (thereT k (a + b + c))) (ev_cbUTr (ea_cons (ev_ofN (en_lc (src_list (ys := [kI 0, kI 1, kI 2]) ?s3) (LcRun.keep (k' := kI (if 0 = k then a + b + c else 0)) b_name ?w3 et_yes ?e0 (LcRun.keep (k' := kI (if 1 = k then a + b + c else 0)) b_name ?w4 et_yes ?e1 (LcRun.keep (k' := kI (if 2 = k then a + b + c else 0)) b_name ?w5 et_yes ?e2 LcRun.nil))) (Nat.le_of_ble_eq_true rfl) rfl)) ea_nil) cau_tupleK)) ?r2⟩
        case s3 => walk_at "dx ev"
        case w3 => decide
        case w4 => decide
        case w5 => decide
        case e0 =>
          refine ev_to (ev_ite (et_test (ev_op (ev_var rfl) (ev_var rfl) (op_eqk isd_int isd_int rfl rfl))) (fun _ => ev_cb (ea_cons (ev_le (ev_var rfl) kTr_le) ea_nil) (ca_sumT (ns := [a, b, c]))) (fun _ => ev_c)) ?_
          rw [eqv_int, sum3 (a, b, c)]
          by_cases q : (0 : Int) = k
          · rw [if_pos q, if_pos (decide_eq_true q)]
          · rw [if_neg q, if_neg (by rw [decide_eq_true_iff]; exact q)]
        case e1 =>
          refine ev_to (ev_ite (et_test (ev_op (ev_var rfl) (ev_var rfl) (op_eqk isd_int isd_int rfl rfl))) (fun _ => ev_cb (ea_cons (ev_le (ev_var rfl) kTr_le) ea_nil) (ca_sumT (ns := [a, b, c]))) (fun _ => ev_c)) ?_
          rw [eqv_int, sum3 (a, b, c)]
          by_cases q : (1 : Int) = k
          · rw [if_pos q, if_pos (decide_eq_true q)]
          · rw [if_neg q, if_neg (by rw [decide_eq_true_iff]; exact q)]
        case e2 =>
          refine ev_to (ev_ite (et_test (ev_op (ev_var rfl) (ev_var rfl) (op_eqk isd_int isd_int rfl rfl))) (fun _ => ev_cb (ea_cons (ev_le (ev_var rfl) kTr_le) ea_nil) (ca_sumT (ns := [a, b, c]))) (fun _ => ev_c)) ?_
          rw [eqv_int, sum3 (a, b, c)]
          by_cases q : (2 : Int) = k
          · rw [if_pos q, if_pos (decide_eq_true q)]
          · rw [if_neg q, if_neg (by rw [decide_eq_true_iff]; exact q)]
        case r2 =>
          generalize thereT k (a + b + c) = T at hv ⊢
          change Does _ [.sh (kS K (ns.map kI)), .no, .no, .sh (kRt (a, b, c)), .sh (kD F), .sh (kI k), .sh (kRt T), .no, .no, .no] _
          refine' d_seq (d_asg (k := kE (optV (stepsG x y (nk a b c)))) ?st) ?r3
          case st =>
            have hi := et_b (ev_din (δ := [.sh (kS K (ns.map kI)), .no, .no, .sh (kRt (a, b, c)), .sh (kD F), .sh (kI k), .sh (kRt T), .no, .no, .no]) (k := keyT T) (ev_var (i := 6) rfl) (ev_var (i := 4) rfl))
            rw [hv] at hi
            cases e : stepsG x y (nk a b c) with
            | none => rw [e] at hi; exact ev_ifF hi ev_c
            | some v =>
              rw [e] at hi hv
              exact ev_ifT hi (ev_dget (k := keyT T) (ev_var rfl) (ev_var rfl) hv)
          case r3 =>
            have right : A_law_right K [k3 K a b c, kI k, kE (optV (stepsG x y (nk a b c))), k3 K 1 4 0] (.v (kB true)) := ⟨a, b, c, k, x, y, z, 1, 4, 0, x', y', z', rfl, ha, hb, hc, hs, hx, by decide, by decide, by decide, by decide, hx', rfl⟩
            have stp : A_law_steps K [k3 K a b c, kI k] (.v (kE (optV (stepsG x y (nk a b c))))) := ⟨a, b, c, k, x, y, z, rfl, ha, hb, hc, hs, hx, rfl⟩
            generalize stepsG x y (nk a b c) = st at right stp ⊢
            change Does _ [.sh (kS K (ns.map kI)), .no, .no, .sh (kRt (a, b, c)), .sh (kD F), .sh (kI k), .sh (kRt T), .sh (kE (optV st)), .no, .no] _
            refine' d_weak (d_skip1 (et_or (et_test (ev_op (ev_var rfl) (ev_call (ea_cons (ev_le (ev_var rfl) kTr_le) (ea_cons (ev_var rfl) ea_nil)) stp) (op_nek (isd_opt st) (isd_opt st) (shaped_opt st) (shaped_opt st)))) (fun _ => et_not (et_b (b := true) (ev_call (ea_cons (ev_le (ev_var rfl) kTr_le) (ea_cons (ev_var rfl) (ea_cons (ev_var rfl) (ea_cons ?oth ea_nil)))) right)))) ?q1) ?w6
            case oth => walk_at "dx ev"
            case q1 => rw [eqv_self (shaped_opt st)]; rfl
            case w6 => walk_at "dx weak"
  case rest =>
    refine' d_seq (d_for (src_list (ys := [kI 3, kI 4]) ?s4) (forRun_all _ fun k hk => ?t2)) ?rest2
    case s4 => walk_at "dx ev"
    case t2 =>
      obtain ⟨by_, rfl, h0, h1⟩ : ∃ by_ : Int, k = kI by_ ∧ 0 ≤ by_ ∧ by_ ≤ 100 := by
        rcases List.mem_cons.mp hk with e | hk
        · exact ⟨3, e, by decide, by decide⟩
        rcases List.mem_cons.mp hk with e | hk
        · exact ⟨4, e, by decide, by decide⟩
        · cases hk
      have h2 : (0 : Int) < 10 ^ 30 := by decide
      refine' ⟨_, _, b_name, d_seq (d_asg (k := kRt (lawBeads ns by_ (10 ^ 30))) ?cc) ?rr⟩
      case cc => exact ev_call (ea_cons (ev_var rfl) (ea_cons (ev_var rfl) (ea_cons (by walk_at "dx ev") ea_nil))) ⟨ns, by_, 10 ^ 30, rfl, hns, h0, h1, h2, rfl⟩
      case rr =>
        have ok := lawBeads_ok ns by_ h2
        generalize lawBeads ns by_ (10 ^ 30) = p at ok ⊢
        obtain ⟨a, b, c⟩ := p
        obtain ⟨ha, hb, hc, hs, hle⟩ := ok
        change 0 ≤ a at ha
        change 0 ≤ b at hb
        change 0 ≤ c at hc
        change 0 < a + b + c at hs
        clear hle
        refine' d_weak (d_pre (δ1 := [.sh (kS K (ns.map kI)), .no, .no, .sh (kRt (a, b, c)), .no, .no, .no, .no, .no, .no]) (d_for (src_list (ys := [kI 0, kI 1, kI 2]) ?s5) (forRun_all _ fun k hk => ?t3)) ?w7) ?w8
        case w7 => walk_at "dx weak"
        case w8 => walk_at "dx weak"
        case s5 => walk_at "dx ev"
        case t3 =>
          obtain ⟨k, x, y, z, rfl, hx⟩ := sel_mem (a := a) (b := b) (c := c) hk
          obtain ⟨x', y', z', hx'⟩ := sel_any hx 3 0 0
          have right : A_law_right K [k3 K a b c, kI k, kE (optV (stepsG x y (nk a b c))), k3 K 3 0 0] (.v (kB true)) := ⟨a, b, c, k, x, y, z, 3, 0, 0, x', y', z', rfl, ha, hb, hc, hs, hx, by decide, by decide, by decide, by decide, hx', rfl⟩
          refine' ⟨_, _, b_name, d_seq (d_asg (ev_call (ea_cons (ev_le (ev_var rfl) kTr_le) (ea_cons (ev_var rfl) ea_nil)) ⟨a, b, c, k, x, y, z, rfl, ha, hb, hc, hs, hx, rfl⟩)) ?r4⟩
          case r4 =>
            generalize hst : stepsG x y (nk a b c) = st at right ⊢
            change Does _ [.sh (kS K (ns.map kI)), .no, .no, .sh (kRt (a, b, c)), .no, .sh (kI k), .no, .sh (kE (optV st)), .no, .no] _
            refine' d_skip (et_not (et_b (b := true) (ev_call (ea_cons (ev_le (ev_var rfl) kTr_le) (ea_cons (ev_var rfl) (ea_cons (ev_var rfl) (ea_cons ?oth2 ea_nil)))) right))) rfl (d_weak (d_for (src_list (ys := (canL a b c).map (kP K)) (ev_ofN (en_call (ea_cons (ev_le (ev_var rfl) kTr_le) ea_nil) ⟨a, b, c, rfl, ha, hb, hc, hs, rfl⟩))) (forRun_all _ fun k hk => ?t4)) ?w9)
            case oth2 => walk_at "dx ev"
            case w9 => walk_at "dx weak"
            case t4 =>
              obtain ⟨⟨i, j⟩, hm, rfl⟩ := List.mem_map.mp hk
              obtain ⟨u, v, t, x1, y1, z1, em, h1x, hu, hv, ht, hs1, hiff⟩ := turn_same hx ha hb hc hs hm
              refine' ⟨_, _, b_name, d_seq (d_asg (k := k3 K u v t) ?tc) ?r5⟩
              case tc => exact ev_le (ev_call (ea_cons (ev_le (ev_var rfl) kTr_le) (ea_cons (ev_var rfl) ea_nil)) ⟨a, b, c, i, j, rfl, ha, hb, hc, hm, rfl⟩) (by rw [em]; exact Kd.le.refl _)
              case r5 =>
                have an : A_all_of K C_All C_Barred [k3 K u v t, kI k] (.v (ansK C_All C_Barred (stepsG x1 y1 (nk u v t)))) := ⟨u, v, t, k, x1, y1, z1, rfl, hu, hv, ht, hs1, h1x, rfl⟩
                rw [hst] at hiff
                generalize stepsG x1 y1 (nk u v t) = s2 at an hiff
                change Does _ [.sh (kS K (ns.map kI)), .no, .no, .sh (kRt (a, b, c)), .no, .sh (kI k), .sh (k3 K u v t), .sh (kE (optV st)), .no, .sh (kP K (i, j))] _
                refine' d_weak (d_skip1 (et_and (et_test (ev_op (ev_ofN (en_call (ea_cons (ev_var rfl) ea_nil) ⟨u, v, t, rfl, hu, hv, ht, hs1, rfl⟩)) (ev_ofN (en_lst ea_nil (Nat.zero_le _))) (op_nek (isd_lst (isds_prs _)) (isd_lst isds_nil) (shaped_prs _) rfl))) (fun _ => et_test (ev_op (et_isB c_All c_Barred C_All true false i_All_All_t i_Barred_All_f (ev_call (ea_cons (ev_var rfl) (ea_cons (ev_var rfl) ea_nil)) an)) (ev_notNo (ev_var rfl)) (op_nek isd_bl isd_bl rfl rfl)))) ?q2) ?w10
                case q2 =>
                  rw [eqv_prs_nil]
                  by_cases q : canL u v t = []
                  · rw [decide_eq_true q]; rfl
                  · have h := hiff q
                    rw [decide_eq_false q]
                    cases s2 with
                    | none => rw [h.mp rfl]; rfl
                    | some w1 =>
                      cases st with
                      | none => exact absurd (h.mpr rfl) (fun z => nomatch z)
                      | some w2 => rfl
                case w10 => walk_at "dx weak"
    case rest2 =>
      have a1 : A_all_of K C_All C_Barred [k3 K 13 15 17, kI 0] (.v (kO C_Barred [])) := ⟨13, 15, 17, 0, 15, 17, 13, rfl, by decide, by decide, by decide, by decide, .inl ⟨rfl, rfl, rfl, rfl⟩, by rw [show stepsG 15 17 (nk 13 15 17) = none by decide +kernel]; rfl⟩
      have a2 : A_all_of K C_All C_Barred [k3 K 1 4 0, kI 2] (.v (kO C_All [("steps", .int 4)])) := ⟨1, 4, 0, 2, 1, 4, 0, rfl, by decide, by decide, by decide, by decide, .inr (.inr ⟨rfl, rfl, rfl, rfl⟩), by rw [show stepsG 1 4 (nk 1 4 0) = some 4 by decide +kernel]; rfl⟩
      refine' d_to (d_ret (ev_and (ev_op (ev_orr (ev_meth (ev_call (ea_cons ?x1 (ea_cons ev_c ea_nil)) a1) rfl (ea_cons ?x2 (ea_cons ev_c ea_nil)) ⟨13, 15, 17, 0, 15, 17, 13, rfl, .inl ⟨rfl, rfl, rfl, rfl⟩, rfl⟩)) ev_c op_isB) (fun _ => ev_op (ev_fld (v := .int 4) (ev_call (ea_cons ?x3 (ea_cons ev_c ea_nil)) a2) c_All.i.c na_All_steps rfl) ev_c (op_eqk (isd_int (i := 4)) isd_int rfl rfl)))) ?q3
      case x1 => walk_at "dx ev"
      case x2 => walk_at "dx ev"
      case x3 => walk_at "dx ev"
      case q3 => decide +kernel
theorem k2_written {t : Addr} {d : Option Addr} {i j : Int} {u v : Tok} {n : Nat} {sl : Array (Option Value)} (l : K.lookup t = some ⟨.type "tuple", d, .seq #[.int i u, .int j v] n, sl⟩) : ∀ H, (k2 K i j).p (.ref t) H := fun H =>
  ⟨t, [.int i, .int j], rfl, .inr ⟨_, _, _, l, rfl, rfl, by rw [sizeLine_eq]; show 2 ≤ 16777216; decide, .cons ⟨_, rfl⟩ (.cons ⟨_, rfl⟩ .nil)⟩, .cons rfl (.cons rfl .nil)⟩
theorem pairs_written {t a b c : Addr} {d d1 d2 d3 : Option Addr} {u1 v1 u2 v2 u3 v3 : Tok} {n n1 n2 n3 : Nat} {sl sl1 sl2 sl3 : Array (Option Value)} (l : K.lookup t = some ⟨.type "tuple", d, .seq #[.ref a, .ref b, .ref c] n, sl⟩)
    (l1 : K.lookup a = some ⟨.type "tuple", d1, .seq #[.int 0 u1, .int 1 v1] n1, sl1⟩) (l2 : K.lookup b = some ⟨.type "tuple", d2, .seq #[.int 0 u2, .int 2 v2] n2, sl2⟩) (l3 : K.lookup c = some ⟨.type "tuple", d3, .seq #[.int 1 u3, .int 2 v3] n3, sl3⟩) :
    ∀ H, (kT K [k2 K 0 1, k2 K 0 2, k2 K 1 2]).p (.ref t) H := fun H =>
  ⟨t, [.ref a, .ref b, .ref c], rfl, .inr ⟨_, _, _, l, rfl, rfl, by rw [sizeLine_eq]; show 3 ≤ 16777216; decide, .cons rfl (.cons rfl (.cons rfl .nil))⟩, .cons (k2_written l1 H) (.cons (k2_written l2 H) (.cons (k2_written l3 H) .nil))⟩
theorem law_sp {ns : List Int} {a : Addr} {H : Hp} (hS : SqL K H a (ns.map V.int)) (hb : ∀ z ∈ ns, Builtin.Int.intBits z ≤ 1048576) : spR (A_law K) [.ref a] H (fun v _ => v = .bl true) (fun _ _ _ => False) :=
  ⟨H, [kS K (ns.map kI)], .v (kB true), ⟨ns, rfl, fun z hz => Nb.of_bits (by rw [bigN_eq]; exact hb z hz), rfl⟩, Same.refl _, .cons ⟨a, ns.map V.int, rfl, hS, by rw [map_kI]; exact allK_of_kE _⟩ .nil, fun Hb' H' v _ _ _ (h : v = .bl true) => h⟩
theorem cx_false {H : Hp} {s : Shared} {e : Value} {s' : Shared} (h : L2.CX P w [] H s (fun _ _ _ => False) e s') : False := by
  obtain ⟨_, _, _, _, _, _, _, _, _, _, _, _, z⟩ := h
  exact z.elim
theorem kit_ownT {C D : Addr} {cd : _} (h1 : PySem.W.clsIn K D = some cd) (h2 : PySem.W.typeIn K (.ref D) = some (.type "type")) (h3 : PySem.W.subIn K (.ref C) (.ref D) = some true) : PySem.W.kitOne K (.ref C) (.ref D) = some true := by
  unfold PySem.W.kitOne
  split
  · rfl
  · show (if ((PySem.W.clsIn K D).isSome && PySem.W.typeIn K (.ref D) == some (.type "type")) = true then PySem.W.subIn K (.ref C) (.ref D) else none) = _
    rw [h1, h2]
    simp only [Option.isSome_some, beq_self_eq_true, Bool.and_self, if_true]
    exact h3
theorem kit_ownF {C D : Addr} {cd : _} (h1 : PySem.W.clsIn K D = some cd) (h2 : PySem.W.typeIn K (.ref D) = some (.type "type")) (h3 : PySem.W.subIn K (.ref C) (.ref D) = some false) (h4 : PySem.W.subIn K (.ref D) (.ref D) = some true) : PySem.W.kitOne K (.ref C) (.ref D) = some false := by
  unfold PySem.W.kitOne
  split
  · rename_i q
    have e : Value.ref C = Value.ref D := eq_of_beq q
    cases e
    rw [h3] at h4
    cases h4
  · show (if ((PySem.W.clsIn K D).isSome && PySem.W.typeIn K (.ref D) == some (.type "type")) = true then PySem.W.subIn K (.ref C) (.ref D) else none) = _
    rw [h1, h2]
    simp only [Option.isSome_some, beq_self_eq_true, Bool.and_self, if_true]
    exact h3
theorem all_mk {l : PySem.W.OpenLaw} {w : World} {K : PySem.W.Frag} {h : Heap} {mg : Str → Option Value} {fa : Addr} (X : K.In h) (G : h.Ns mainGlobals mg) (hfa : mg "law" = some (.ref fa))
    {C_BadBeads : Addr} {C_BadKind : Addr} {C_BadMeeting : Addr} {pP pA pB pC : Addr} {dP dA dB dC : Option Addr} {uA vA uB vB uC vC : Tok} {nP nA nB nC : Nat} {sP sA sB sC : Array (Option Value)} {f0 : Addr} {od0 an0 : Option Addr} {sl0 : Array (Option Value)} {oc0 kV0 dc0 pm0 cd0 ct0 : Value} {f1 : Addr} {od1 an1 : Option Addr} {sl1 : Array (Option Value)} {oc1 kV1 dc1 pm1 cd1 ct1 : Value} {f2 : Addr} {od2 an2 : Option Addr} {sl2 : Array (Option Value)} {oc2 kV2 dc2 pm2 cd2 ct2 : Value} {f3 : Addr} {od3 an3 : Option Addr} {sl3 : Array (Option Value)} {oc3 kV3 dc3 pm3 cd3 ct3 : Value} {f4 : Addr} {od4 an4 : Option Addr} {sl4 : Array (Option Value)} {oc4 kV4 dc4 pm4 cd4 ct4 : Value} {f5 : Addr} {od5 an5 : Option Addr} {sl5 : Array (Option Value)} {oc5 kV5 dc5 pm5 cd5 ct5 : Value} {f6 : Addr} {od6 an6 : Option Addr} {sl6 : Array (Option Value)} {oc6 kV6 dc6 pm6 cd6 ct6 : Value} {f7 : Addr} {od7 an7 : Option Addr} {sl7 : Array (Option Value)} {oc7 kV7 dc7 pm7 cd7 ct7 : Value} {f8 : Addr} {od8 an8 : Option Addr} {sl8 : Array (Option Value)} {oc8 kV8 dc8 pm8 cd8 ct8 : Value} {f9 : Addr} {od9 an9 : Option Addr} {sl9 : Array (Option Value)} {oc9 kV9 dc9 pm9 cd9 ct9 : Value} {f10 : Addr} {od10 an10 : Option Addr} {sl10 : Array (Option Value)} {oc10 kV10 dc10 pm10 cd10 ct10 : Value} {f11 : Addr} {od11 an11 : Option Addr} {sl11 : Array (Option Value)} {oc11 kV11 dc11 pm11 cd11 ct11 : Value} {f12 : Addr} {od12 an12 : Option Addr} {sl12 : Array (Option Value)} {oc12 kV12 dc12 pm12 cd12 ct12 : Value} {f13 : Addr} {od13 an13 : Option Addr} {sl13 : Array (Option Value)} {oc13 kV13 dc13 pm13 cd13 ct13 : Value} {f14 : Addr} {od14 an14 : Option Addr} {sl14 : Array (Option Value)} {oc14 kV14 dc14 pm14 cd14 ct14 : Value} {f15 : Addr} {od15 an15 : Option Addr} {sl15 : Array (Option Value)} {oc15 kV15 dc15 pm15 cd15 ct15 : Value} {f16 : Addr} {od16 an16 : Option Addr} {sl16 : Array (Option Value)} {oc16 kV16 dc16 pm16 cd16 ct16 : Value} {f17 : Addr} {od17 an17 : Option Addr} {sl17 : Array (Option Value)} {oc17 kV17 dc17 pm17 cd17 ct17 : Value} {f18 : Addr} {od18 an18 : Option Addr} {sl18 : Array (Option Value)} {oc18 kV18 dc18 pm18 cd18 ct18 : Value} {f19 : Addr} {od19 an19 : Option Addr} {sl19 : Array (Option Value)} {oc19 kV19 dc19 pm19 cd19 ct19 : Value} {f20 : Addr} {od20 an20 : Option Addr} {sl20 : Array (Option Value)} {oc20 kV20 dc20 pm20 cd20 ct20 : Value} {f21 : Addr} {od21 an21 : Option Addr} {sl21 : Array (Option Value)} {oc21 kV21 dc21 pm21 cd21 ct21 : Value} {C_All : Addr} {fI_All : Addr} {odI_All anI_All : Option Addr} {slI_All : Array (Option Value)} {ocI_All kVI_All dcI_All pmI_All cdI_All ctI_All : Value} {C_Answer : Addr} {C_Barred : Addr} {cdd_All : ClassData} {cdd_Answer : ClassData} {cdd_Barred : ClassData}
    (z_len : PySem.W.nsIn K mainGlobals "len" = some none)
    (z_isinstance : PySem.W.nsIn K mainGlobals "isinstance" = some none)
    (z_sum : PySem.W.nsIn K mainGlobals "sum" = some none)
    (z_max : PySem.W.nsIn K mainGlobals "max" = some none)
    (z_min : PySem.W.nsIn K mainGlobals "min" = some none)
    (z_abs : PySem.W.nsIn K mainGlobals "abs" = some none)
    (z_all : PySem.W.nsIn K mainGlobals "all" = some none)
    (z_any : PySem.W.nsIn K mainGlobals "any" = some none)
    (z_sorted : PySem.W.nsIn K mainGlobals "sorted" = some none)
    (z_list : PySem.W.nsIn K mainGlobals "list" = some none)
    (z_tuple : PySem.W.nsIn K mainGlobals "tuple" = some none)
    (z_range : PySem.W.nsIn K mainGlobals "range" = some none)
    (z_enumerate : PySem.W.nsIn K mainGlobals "enumerate" = some none)
    (z_int : PySem.W.nsIn K mainGlobals "int" = some none)
    (z_bool : PySem.W.nsIn K mainGlobals "bool" = some none)
    (z_str : PySem.W.nsIn K mainGlobals "str" = some none)
    (z_ValueError : PySem.W.nsIn K mainGlobals "ValueError" = some none)
    (ae_BadBeads : PySem.W.nsIn K mainGlobals "BadBeads" = some (some (.ref C_BadBeads)))
    (xe_BadBeads : PySem.W.excIn K C_BadBeads [.type "ValueError", .type "Exception", .type "BaseException", .type "object"] "ValueError.__new__" = true)
    (ke_BadBeads : PySem.W.keepIn K (.ref C_BadBeads) = true)
    (be_BadBeads : PySem.W.subIn K (.ref C_BadBeads) (.type "BaseException") = some true)
    (te_BadBeads : PySem.W.typeIn K (.ref C_BadBeads) = some (.type "type"))
    (ae_BadKind : PySem.W.nsIn K mainGlobals "BadKind" = some (some (.ref C_BadKind)))
    (xe_BadKind : PySem.W.excIn K C_BadKind [.type "ValueError", .type "Exception", .type "BaseException", .type "object"] "ValueError.__new__" = true)
    (ke_BadKind : PySem.W.keepIn K (.ref C_BadKind) = true)
    (be_BadKind : PySem.W.subIn K (.ref C_BadKind) (.type "BaseException") = some true)
    (te_BadKind : PySem.W.typeIn K (.ref C_BadKind) = some (.type "type"))
    (ae_BadMeeting : PySem.W.nsIn K mainGlobals "BadMeeting" = some (some (.ref C_BadMeeting)))
    (xe_BadMeeting : PySem.W.excIn K C_BadMeeting [.type "ValueError", .type "Exception", .type "BaseException", .type "object"] "ValueError.__new__" = true)
    (ke_BadMeeting : PySem.W.keepIn K (.ref C_BadMeeting) = true)
    (be_BadMeeting : PySem.W.subIn K (.ref C_BadMeeting) (.type "BaseException") = some true)
    (te_BadMeeting : PySem.W.typeIn K (.ref C_BadMeeting) = some (.type "type"))
    (aP : PySem.W.nsIn K mainGlobals "PAIRS" = some (some (.ref pP)))
    (lP : K.lookup pP = some ⟨.type "tuple", dP, .seq #[.ref pA, .ref pB, .ref pC] nP, sP⟩)
    (lA : K.lookup pA = some ⟨.type "tuple", dA, .seq #[.int 0 uA, .int 1 vA] nA, sA⟩)
    (lB : K.lookup pB = some ⟨.type "tuple", dB, .seq #[.int 0 uB, .int 2 vB] nB, sB⟩)
    (lC : K.lookup pC = some ⟨.type "tuple", dC, .seq #[.int 1 uC, .int 2 vC] nC, sC⟩)
    (ga_All : PySem.W.nsIn K mainGlobals "All" = some (some (.ref C_All)))
    (pg_All : PySem.W.plainGet K C_All Str.empty = true)
    (hd_All : PySem.W.hasDictIn K C_All = true)
    (po_All : PySem.W.plainOver K C_All = true)
    (sa_All : PySem.W.findIn K (.ref C_All) "__setattr__" = some (some (.builtin "object.__setattr__")))
    (ca_All : PySem.W.findIn K (.ref C_All) "__class__" = some (some (.builtin "object.__class__")))
    (mo_All : PySem.W.mroIn K C_All (.type "object") = some true)
    (kc_All : PySem.W.keepIn K (.ref C_All) = true)
    (cn : PySem.W.specialIn K (.builtin "object.__class__") "__get__" = some (some (.builtin "getset_descriptor.__get__")))
    (ct : PySem.W.takesIn K (.builtin "object.__class__") = some true)
    (mk_All : PySem.W.makesIn K C_All = true)
    (aI_All : PySem.W.findIn K (.ref C_All) "__init__" = some (some (.ref fI_All)))
    (lI_All : K.lookup fI_All = some ⟨ocI_All, odI_All, .func (PySem.W.fnOf "__init__" "All.__init__" (defArgs s_All_init) (defBody s_All_init) (defScope s_All_init) .none kVI_All dcI_All pmI_All anI_All cdI_All ctI_All), slI_All⟩)
    (cI_All : PySem.W.codeIn K cdI_All "All.__init__" = true)
    (kI_All : PySem.W.keepIn K (.ref fI_All) = true)
    (iI_All : PySem.W.isFn K (.ref fI_All) = true)
    (ga_Answer : PySem.W.nsIn K mainGlobals "Answer" = some (some (.ref C_Answer)))
    (pg_Answer : PySem.W.plainGet K C_Answer Str.empty = true)
    (hd_Answer : PySem.W.hasDictIn K C_Answer = true)
    (po_Answer : PySem.W.plainOver K C_Answer = true)
    (sa_Answer : PySem.W.findIn K (.ref C_Answer) "__setattr__" = some (some (.builtin "object.__setattr__")))
    (ca_Answer : PySem.W.findIn K (.ref C_Answer) "__class__" = some (some (.builtin "object.__class__")))
    (mo_Answer : PySem.W.mroIn K C_Answer (.type "object") = some true)
    (kc_Answer : PySem.W.keepIn K (.ref C_Answer) = true)
    (ga_Barred : PySem.W.nsIn K mainGlobals "Barred" = some (some (.ref C_Barred)))
    (pg_Barred : PySem.W.plainGet K C_Barred Str.empty = true)
    (hd_Barred : PySem.W.hasDictIn K C_Barred = true)
    (po_Barred : PySem.W.plainOver K C_Barred = true)
    (sa_Barred : PySem.W.findIn K (.ref C_Barred) "__setattr__" = some (some (.builtin "object.__setattr__")))
    (ca_Barred : PySem.W.findIn K (.ref C_Barred) "__class__" = some (some (.builtin "object.__class__")))
    (mo_Barred : PySem.W.mroIn K C_Barred (.type "object") = some true)
    (kc_Barred : PySem.W.keepIn K (.ref C_Barred) = true)
    (mk_Barred : PySem.W.makesIn K C_Barred = true)
    (in_Barred : PySem.W.findIn K (.ref C_Barred) "__init__" = some (some (.builtin "object.__init__")))
    (cc_All : PySem.W.clsIn K C_All = some cdd_All)
    (ty_All : PySem.W.typeIn K (.ref C_All) = some (.type "type"))
    (si_All_All_t : PySem.W.subIn K (.ref C_All) (.ref C_All) = some true)
    (cc_Answer : PySem.W.clsIn K C_Answer = some cdd_Answer)
    (ty_Answer : PySem.W.typeIn K (.ref C_Answer) = some (.type "type"))
    (si_All_Answer_t : PySem.W.subIn K (.ref C_All) (.ref C_Answer) = some true)
    (cc_Barred : PySem.W.clsIn K C_Barred = some cdd_Barred)
    (ty_Barred : PySem.W.typeIn K (.ref C_Barred) = some (.type "type"))
    (si_All_Barred_f : PySem.W.subIn K (.ref C_All) (.ref C_Barred) = some false)
    (ss_Barred : PySem.W.subIn K (.ref C_Barred) (.ref C_Barred) = some true)
    (si_Barred_All_f : PySem.W.subIn K (.ref C_Barred) (.ref C_All) = some false)
    (ss_All : PySem.W.subIn K (.ref C_All) (.ref C_All) = some true)
    (si_Barred_Answer_t : PySem.W.subIn K (.ref C_Barred) (.ref C_Answer) = some true)
    (si_Barred_Barred_t : PySem.W.subIn K (.ref C_Barred) (.ref C_Barred) = some true)
    (na_All_steps : PySem.W.findIn K (.ref C_All) "steps" = some none)
    (a0 : PySem.W.nsIn K mainGlobals "is_whole" = some (some (.ref f0)))
    (l0 : K.lookup f0 = some ⟨oc0, od0, .func (PySem.W.fnOf "is_whole" "is_whole" (defArgs s_is_whole) (defBody s_is_whole) (defScope s_is_whole) .none kV0 dc0 pm0 an0 cd0 ct0), sl0⟩)
    (c0 : PySem.W.codeIn K cd0 "is_whole" = true)
    (k0 : PySem.W.keepIn K (.ref f0) = true)
    (a1 : PySem.W.nsIn K mainGlobals "asked_beads" = some (some (.ref f1)))
    (l1 : K.lookup f1 = some ⟨oc1, od1, .func (PySem.W.fnOf "asked_beads" "asked_beads" (defArgs s_asked_beads) (defBody s_asked_beads) (defScope s_asked_beads) .none kV1 dc1 pm1 an1 cd1 ct1), sl1⟩)
    (c1 : PySem.W.codeIn K cd1 "asked_beads" = true)
    (k1 : PySem.W.keepIn K (.ref f1) = true)
    (a2 : PySem.W.nsIn K mainGlobals "asked_kind" = some (some (.ref f2)))
    (l2 : K.lookup f2 = some ⟨oc2, od2, .func (PySem.W.fnOf "asked_kind" "asked_kind" (defArgs s_asked_kind) (defBody s_asked_kind) (defScope s_asked_kind) .none kV2 dc2 pm2 an2 cd2 ct2), sl2⟩)
    (c2 : PySem.W.codeIn K cd2 "asked_kind" = true)
    (k2 : PySem.W.keepIn K (.ref f2) = true)
    (a3 : PySem.W.nsIn K mainGlobals "asked_meeting" = some (some (.ref f3)))
    (l3 : K.lookup f3 = some ⟨oc3, od3, .func (PySem.W.fnOf "asked_meeting" "asked_meeting" (defArgs s_asked_meeting) (defBody s_asked_meeting) (defScope s_asked_meeting) .none kV3 dc3 pm3 an3 cd3 ct3), sl3⟩)
    (c3 : PySem.W.codeIn K cd3 "asked_meeting" = true)
    (k3 : PySem.W.keepIn K (.ref f3) = true)
    (a4 : PySem.W.nsIn K mainGlobals "met" = some (some (.ref f4)))
    (l4 : K.lookup f4 = some ⟨oc4, od4, .func (PySem.W.fnOf "met" "met" (defArgs s_met) (defBody s_met) (defScope s_met) .none kV4 dc4 pm4 an4 cd4 ct4), sl4⟩)
    (c4 : PySem.W.codeIn K cd4 "met" = true)
    (k4 : PySem.W.keepIn K (.ref f4) = true)
    (a5 : PySem.W.nsIn K mainGlobals "turned" = some (some (.ref f5)))
    (l5 : K.lookup f5 = some ⟨oc5, od5, .func (PySem.W.fnOf "turned" "turned" (defArgs s_turned) (defBody s_turned) (defScope s_turned) .none kV5 dc5 pm5 an5 cd5 ct5), sl5⟩)
    (c5 : PySem.W.codeIn K cd5 "turned" = true)
    (k5 : PySem.W.keepIn K (.ref f5) = true)
    (a6 : PySem.W.nsIn K mainGlobals "meetings" = some (some (.ref f6)))
    (l6 : K.lookup f6 = some ⟨oc6, od6, .func (PySem.W.fnOf "meetings" "meetings" (defArgs s_meetings) (defBody s_meetings) (defScope s_meetings) .none kV6 dc6 pm6 an6 cd6 ct6), sl6⟩)
    (c6 : PySem.W.codeIn K cd6 "meetings" = true)
    (k6 : PySem.W.keepIn K (.ref f6) = true)
    (a7 : PySem.W.nsIn K mainGlobals "kinds_there" = some (some (.ref f7)))
    (l7 : K.lookup f7 = some ⟨oc7, od7, .func (PySem.W.fnOf "kinds_there" "kinds_there" (defArgs s_kinds_there) (defBody s_kinds_there) (defScope s_kinds_there) .none kV7 dc7 pm7 an7 cd7 ct7), sl7⟩)
    (c7 : PySem.W.codeIn K cd7 "kinds_there" = true)
    (k7 : PySem.W.keepIn K (.ref f7) = true)
    (a8 : PySem.W.nsIn K mainGlobals "others_of" = some (some (.ref f8)))
    (l8 : K.lookup f8 = some ⟨oc8, od8, .func (PySem.W.fnOf "others_of" "others_of" (defArgs s_others_of) (defBody s_others_of) (defScope s_others_of) .none kV8 dc8 pm8 an8 cd8 ct8), sl8⟩)
    (c8 : PySem.W.codeIn K cd8 "others_of" = true)
    (k8 : PySem.W.keepIn K (.ref f8) = true)
    (a9 : PySem.W.nsIn K mainGlobals "steps_of" = some (some (.ref f9)))
    (l9 : K.lookup f9 = some ⟨oc9, od9, .func (PySem.W.fnOf "steps_of" "steps_of" (defArgs s_steps_of) (defBody s_steps_of) (defScope s_steps_of) .none kV9 dc9 pm9 an9 cd9 ct9), sl9⟩)
    (c9 : PySem.W.codeIn K cd9 "steps_of" = true)
    (k9 : PySem.W.keepIn K (.ref f9) = true)
    (a10 : PySem.W.nsIn K mainGlobals "all_of" = some (some (.ref f10)))
    (l10 : K.lookup f10 = some ⟨oc10, od10, .func (PySem.W.fnOf "all_of" "all_of" (defArgs s_all_of) (defBody s_all_of) (defScope s_all_of) .none kV10 dc10 pm10 an10 cd10 ct10), sl10⟩)
    (c10 : PySem.W.codeIn K cd10 "all_of" = true)
    (k10 : PySem.W.keepIn K (.ref f10) = true)
    (a11 : PySem.W.nsIn K mainGlobals "_law_number" = some (some (.ref f11)))
    (l11 : K.lookup f11 = some ⟨oc11, od11, .func (PySem.W.fnOf "_law_number" "_law_number" (defArgs s_law_number) (defBody s_law_number) (defScope s_law_number) .none kV11 dc11 pm11 an11 cd11 ct11), sl11⟩)
    (c11 : PySem.W.codeIn K cd11 "_law_number" = true)
    (k11 : PySem.W.keepIn K (.ref f11) = true)
    (a12 : PySem.W.nsIn K mainGlobals "_law_can" = some (some (.ref f12)))
    (l12 : K.lookup f12 = some ⟨oc12, od12, .func (PySem.W.fnOf "_law_can" "_law_can" (defArgs s_law_can) (defBody s_law_can) (defScope s_law_can) .none kV12 dc12 pm12 an12 cd12 ct12), sl12⟩)
    (c12 : PySem.W.codeIn K cd12 "_law_can" = true)
    (k12 : PySem.W.keepIn K (.ref f12) = true)
    (a13 : PySem.W.nsIn K mainGlobals "_law_met" = some (some (.ref f13)))
    (l13 : K.lookup f13 = some ⟨oc13, od13, .func (PySem.W.fnOf "_law_met" "_law_met" (defArgs s_law_met) (defBody s_law_met) (defScope s_law_met) .none kV13 dc13 pm13 an13 cd13 ct13), sl13⟩)
    (c13 : PySem.W.codeIn K cd13 "_law_met" = true)
    (k13 : PySem.W.keepIn K (.ref f13) = true)
    (a14 : PySem.W.nsIn K mainGlobals "_law_beads" = some (some (.ref f14)))
    (l14 : K.lookup f14 = some ⟨oc14, od14, .func (PySem.W.fnOf "_law_beads" "_law_beads" (defArgs s_law_beads) (defBody s_law_beads) (defScope s_law_beads) .none kV14 dc14 pm14 an14 cd14 ct14), sl14⟩)
    (c14 : PySem.W.codeIn K cd14 "_law_beads" = true)
    (k14 : PySem.W.keepIn K (.ref f14) = true)
    (a15 : PySem.W.nsIn K mainGlobals "_law_reached" = some (some (.ref f15)))
    (l15 : K.lookup f15 = some ⟨oc15, od15, .func (PySem.W.fnOf "_law_reached" "_law_reached" (defArgs s_law_reached) (defBody s_law_reached) (defScope s_law_reached) .none kV15 dc15 pm15 an15 cd15 ct15), sl15⟩)
    (c15 : PySem.W.codeIn K cd15 "_law_reached" = true)
    (k15 : PySem.W.keepIn K (.ref f15) = true)
    (a16 : PySem.W.findIn K (.ref C_All) "shows" = some (some (.ref f16)))
    (l16 : K.lookup f16 = some ⟨oc16, od16, .func (PySem.W.fnOf "shows" "All.shows" (defArgs s_All_shows) (defBody s_All_shows) (defScope s_All_shows) .none kV16 dc16 pm16 an16 cd16 ct16), sl16⟩)
    (c16 : PySem.W.codeIn K cd16 "All.shows" = true)
    (k16 : PySem.W.keepIn K (.ref f16) = true)
    (i16 : PySem.W.isFn K (.ref f16) = true)
    (a17 : PySem.W.findIn K (.ref C_Barred) "shows" = some (some (.ref f17)))
    (l17 : K.lookup f17 = some ⟨oc17, od17, .func (PySem.W.fnOf "shows" "Barred.shows" (defArgs s_Barred_shows) (defBody s_Barred_shows) (defScope s_Barred_shows) .none kV17 dc17 pm17 an17 cd17 ct17), sl17⟩)
    (c17 : PySem.W.codeIn K cd17 "Barred.shows" = true)
    (k17 : PySem.W.keepIn K (.ref f17) = true)
    (i17 : PySem.W.isFn K (.ref f17) = true)
    (a18 : PySem.W.nsIn K mainGlobals "_law_steps" = some (some (.ref f18)))
    (l18 : K.lookup f18 = some ⟨oc18, od18, .func (PySem.W.fnOf "_law_steps" "_law_steps" (defArgs s_law_steps) (defBody s_law_steps) (defScope s_law_steps) .none kV18 dc18 pm18 an18 cd18 ct18), sl18⟩)
    (c18 : PySem.W.codeIn K cd18 "_law_steps" = true)
    (k18 : PySem.W.keepIn K (.ref f18) = true)
    (a19 : PySem.W.nsIn K mainGlobals "_law_due" = some (some (.ref f19)))
    (l19 : K.lookup f19 = some ⟨oc19, od19, .func (PySem.W.fnOf "_law_due" "_law_due" (defArgs s_law_due) (defBody s_law_due) (defScope s_law_due) .none kV19 dc19 pm19 an19 cd19 ct19), sl19⟩)
    (c19 : PySem.W.codeIn K cd19 "_law_due" = true)
    (k19 : PySem.W.keepIn K (.ref f19) = true)
    (a20 : PySem.W.nsIn K mainGlobals "_law_right" = some (some (.ref f20)))
    (l20 : K.lookup f20 = some ⟨oc20, od20, .func (PySem.W.fnOf "_law_right" "_law_right" (defArgs s_law_right) (defBody s_law_right) (defScope s_law_right) .none kV20 dc20 pm20 an20 cd20 ct20), sl20⟩)
    (c20 : PySem.W.codeIn K cd20 "_law_right" = true)
    (k20 : PySem.W.keepIn K (.ref f20) = true)
    (a21 : PySem.W.nsIn K mainGlobals "law" = some (some (.ref f21)))
    (l21 : K.lookup f21 = some ⟨oc21, od21, .func (PySem.W.fnOf "law" "law" (defArgs s_law) (defBody s_law) (defScope s_law) .none kV21 dc21 pm21 an21 cd21 ct21), sl21⟩)
    (c21 : PySem.W.codeIn K cd21 "law" = true)
    (k21 : PySem.W.keepIn K (.ref f21) = true) :
    ∃ fd : FuncData, (∀ (s : Shared) (u : Value), BindsTo s fd ⟨[u], []⟩ [("_law_script", u)]) ∧ ∀ base : Heap, K.In base → base.Ns mainGlobals mg → FnOk l.prog w K mg base (L2.CX l.prog w) 5 fa fd ["_law_script"] (spR (A_law K)) := by
  have e := hfa.symm.trans (PySem.W.mg_of X G a21)
  cases e
  have B : Bt mg := ⟨PySem.W.mg_none_of X G z_len, PySem.W.mg_none_of X G z_isinstance, PySem.W.mg_none_of X G z_sum, PySem.W.mg_none_of X G z_max, PySem.W.mg_none_of X G z_min, PySem.W.mg_none_of X G z_abs, PySem.W.mg_none_of X G z_all, PySem.W.mg_none_of X G z_any, PySem.W.mg_none_of X G z_sorted, PySem.W.mg_none_of X G z_list, PySem.W.mg_none_of X G z_tuple, PySem.W.mg_none_of X G z_range, PySem.W.mg_none_of X G z_enumerate, PySem.W.mg_none_of X G z_int, PySem.W.mg_none_of X G z_bool, PySem.W.mg_none_of X G z_str, PySem.W.mg_none_of X G z_ValueError⟩
  have e_BadBeads : ErrC K mg "BadBeads" C_BadBeads := ⟨PySem.W.mg_of X G ae_BadBeads, xe_BadBeads, ke_BadBeads, be_BadBeads, te_BadBeads⟩
  have e_BadKind : ErrC K mg "BadKind" C_BadKind := ⟨PySem.W.mg_of X G ae_BadKind, xe_BadKind, ke_BadKind, be_BadKind, te_BadKind⟩
  have e_BadMeeting : ErrC K mg "BadMeeting" C_BadMeeting := ⟨PySem.W.mg_of X G ae_BadMeeting, xe_BadMeeting, ke_BadMeeting, be_BadMeeting, te_BadMeeting⟩
  have g_PAIRS := PySem.W.mg_of X G aP
  have hP := pairs_written lP lA lB lC
  have c_All : OwnC K mg "All" C_All := ⟨PySem.W.mg_of X G ga_All, ⟨⟨pg_All, hd_All, po_All, sa_All⟩, ca_All, cn, ct, mo_All⟩⟩
  have DI_All : DefI K C_All "All.__init__" s_All_init ["self", "steps"] := defI_mk (fun _ _ _ _ _ _ us hl => match us, hl with | [_, _], _ => rfl) mk_All aI_All lI_All cI_All kI_All iI_All kc_All
  have c_Answer : OwnC K mg "Answer" C_Answer := ⟨PySem.W.mg_of X G ga_Answer, ⟨⟨pg_Answer, hd_Answer, po_Answer, sa_Answer⟩, ca_Answer, cn, ct, mo_Answer⟩⟩
  have c_Barred : OwnC K mg "Barred" C_Barred := ⟨PySem.W.mg_of X G ga_Barred, ⟨⟨pg_Barred, hd_Barred, po_Barred, sa_Barred⟩, ca_Barred, cn, ct, mo_Barred⟩⟩
  have n_Barred : MkO K C_Barred := ⟨mk_Barred, in_Barred, kc_Barred⟩
  have i_All_All_t : PySem.W.kitOne K (.ref C_All) (.ref C_All) = some true := kit_ownT cc_All ty_All si_All_All_t
  have i_All_Answer_t : PySem.W.kitOne K (.ref C_All) (.ref C_Answer) = some true := kit_ownT cc_Answer ty_Answer si_All_Answer_t
  have i_All_Barred_f : PySem.W.kitOne K (.ref C_All) (.ref C_Barred) = some false := kit_ownF cc_Barred ty_Barred si_All_Barred_f ss_Barred
  have i_Barred_All_f : PySem.W.kitOne K (.ref C_Barred) (.ref C_All) = some false := kit_ownF cc_All ty_All si_Barred_All_f ss_All
  have i_Barred_Answer_t : PySem.W.kitOne K (.ref C_Barred) (.ref C_Answer) = some true := kit_ownT cc_Answer ty_Answer si_Barred_Answer_t
  have i_Barred_Barred_t : PySem.W.kitOne K (.ref C_Barred) (.ref C_Barred) = some true := kit_ownT cc_Barred ty_Barred si_Barred_Barred_t
  have D0 : DefAt K mg "is_whole" s_is_whole ["thing"] := defAt_mk X G (fun _ _ _ _ _ _ us hl => match us, hl with | [_], _ => rfl) a0 l0 c0 k0
  have D1 : DefAt K mg "asked_beads" s_asked_beads ["beads"] := defAt_mk X G (fun _ _ _ _ _ _ us hl => match us, hl with | [_], _ => rfl) a1 l1 c1 k1
  have D2 : DefAt K mg "asked_kind" s_asked_kind ["kind"] := defAt_mk X G (fun _ _ _ _ _ _ us hl => match us, hl with | [_], _ => rfl) a2 l2 c2 k2
  have D3 : DefAt K mg "asked_meeting" s_asked_meeting ["beads", "meeting"] := defAt_mk X G (fun _ _ _ _ _ _ us hl => match us, hl with | [_, _], _ => rfl) a3 l3 c3 k3
  have D4 : DefAt K mg "met" s_met ["beads", "meeting", "more"] := defAt_mk X G (fun _ _ _ _ _ _ us hl => match us, hl with | [_, _, _], _ => rfl) a4 l4 c4 k4
  have D5 : DefAt K mg "turned" s_turned ["beads", "meeting"] := defAt_mk X G (fun _ _ _ _ _ _ us hl => match us, hl with | [_, _], _ => rfl) a5 l5 c5 k5
  have D6 : DefAt K mg "meetings" s_meetings ["beads"] := defAt_mk X G (fun _ _ _ _ _ _ us hl => match us, hl with | [_], _ => rfl) a6 l6 c6 k6
  have D7 : DefAt K mg "kinds_there" s_kinds_there ["beads"] := defAt_mk X G (fun _ _ _ _ _ _ us hl => match us, hl with | [_], _ => rfl) a7 l7 c7 k7
  have D8 : DefAt K mg "others_of" s_others_of ["kind"] := defAt_mk X G (fun _ _ _ _ _ _ us hl => match us, hl with | [_], _ => rfl) a8 l8 c8 k8
  have D9 : DefAt K mg "steps_of" s_steps_of ["beads", "kind"] := defAt_mk X G (fun _ _ _ _ _ _ us hl => match us, hl with | [_, _], _ => rfl) a9 l9 c9 k9
  have D10 : DefAt K mg "all_of" s_all_of ["beads", "kind"] := defAt_mk X G (fun _ _ _ _ _ _ us hl => match us, hl with | [_, _], _ => rfl) a10 l10 c10 k10
  have D11 : DefAt K mg "_law_number" s_law_number ["_law_cell", "_law_at", "_law_whole"] := defAt_mk X G (fun _ _ _ _ _ _ us hl => match us, hl with | [_, _, _], _ => rfl) a11 l11 c11 k11
  have D12 : DefAt K mg "_law_can" s_law_can ["_law_beads_here"] := defAt_mk X G (fun _ _ _ _ _ _ us hl => match us, hl with | [_], _ => rfl) a12 l12 c12 k12
  have D13 : DefAt K mg "_law_met" s_law_met ["_law_beads_here", "_law_pair", "_law_more"] := defAt_mk X G (fun _ _ _ _ _ _ us hl => match us, hl with | [_, _, _], _ => rfl) a13 l13 c13 k13
  have D14 : DefAt K mg "_law_beads" s_law_beads ["_law_script", "_law_by", "_law_wide"] := defAt_mk X G (fun _ _ _ _ _ _ us hl => match us, hl with | [_, _, _], _ => rfl) a14 l14 c14 k14
  have D15 : DefAt K mg "_law_reached" s_law_reached ["_law_beads_here", "_law_more"] := defAt_mk X G (fun _ _ _ _ _ _ us hl => match us, hl with | [_, _], _ => rfl) a15 l15 c15 k15
  have D16 : DefM K C_All "shows" "All.shows" s_All_shows ["self", "beads", "kind"] := defM_mk (fun _ _ _ _ _ _ us hl => match us, hl with | [_, _, _], _ => rfl) a16 l16 c16 k16 i16
  have D17 : DefM K C_Barred "shows" "Barred.shows" s_Barred_shows ["self", "beads", "kind"] := defM_mk (fun _ _ _ _ _ _ us hl => match us, hl with | [_, _, _], _ => rfl) a17 l17 c17 k17 i17
  have D18 : DefAt K mg "_law_steps" s_law_steps ["_law_beads_here", "_law_kind"] := defAt_mk X G (fun _ _ _ _ _ _ us hl => match us, hl with | [_, _], _ => rfl) a18 l18 c18 k18
  have D19 : DefAt K mg "_law_due" s_law_due ["_law_beads_here", "_law_kind", "_law_answer"] := defAt_mk X G (fun _ _ _ _ _ _ us hl => match us, hl with | [_, _, _], _ => rfl) a19 l19 c19 k19
  have D20 : DefAt K mg "_law_right" s_law_right ["_law_beads_here", "_law_kind", "_law_steps_here", "_law_other"] := defAt_mk X G (fun _ _ _ _ _ _ us hl => match us, hl with | [_, _, _, _], _ => rfl) a20 l20 c20 k20
  have F := fun_mk (st := s_law) l21 c21 k21
  refine ⟨PySem.W.fnOf "law" "law" (defArgs s_law) (defBody s_law) (defScope s_law) .none kV21 dc21 pm21 an21 cd21 ct21, fun s u => .of_eq rfl, fun base _ _ => ?_⟩
  have M_All := all_init (P := l.prog) (w := w) (base := base) DI_All c_All na_All_steps
  have d_is_whole := ok_is_whole (P := l.prog) (w := w) (base := base) B D0
  have d_asked_beads := ok_asked_beads (P := l.prog) (w := w) (base := base) B D1 e_BadBeads d_is_whole
  have d_asked_kind := ok_asked_kind (P := l.prog) (w := w) (base := base) B D2 e_BadKind d_is_whole
  have d_asked_meeting := ok_asked_meeting (P := l.prog) (w := w) (base := base) B D3 e_BadMeeting g_PAIRS hP d_is_whole
  have d_met := ok_met (P := l.prog) (w := w) (base := base) B D4
  have d_turned := ok_turned (P := l.prog) (w := w) (base := base) B D5 d_asked_beads d_asked_meeting d_met
  have d_meetings := ok_meetings (P := l.prog) (w := w) (base := base) B D6 g_PAIRS hP d_asked_beads
  have d_kinds_there := ok_kinds_there (P := l.prog) (w := w) (base := base) B D7
  have d_others_of := ok_others_of (P := l.prog) (w := w) (base := base) B D8
  have d_steps_of := ok_steps_of (P := l.prog) (w := w) (base := base) B D9 d_others_of d_kinds_there
  have d_all_of := ok_all_of (P := l.prog) (w := w) (base := base) B D10 d_asked_beads d_asked_kind d_steps_of n_Barred c_Barred M_All c_All
  have d__law_number := ok_law_number (P := l.prog) (w := w) (base := base) B D11
  have d__law_can := ok_law_can (P := l.prog) (w := w) (base := base) B D12
  have d__law_met := ok_law_met (P := l.prog) (w := w) (base := base) B D13
  have d__law_beads := ok_law_beads (P := l.prog) (w := w) (base := base) B D14 d__law_number
  have d__law_reached := ok_law_reached (P := l.prog) (w := w) (base := base) B D15 d__law_can d__law_met
  have d_All_shows := ok_All_shows (P := l.prog) (w := w) (base := base) B D16 c_All na_All_steps
  have d_Barred_shows := ok_Barred_shows (P := l.prog) (w := w) (base := base) B D17
  have d__law_steps := ok_law_steps (P := l.prog) (w := w) (base := base) B D18 d__law_can
  have d__law_due := ok_law_due (P := l.prog) (w := w) (base := base) B D19 d__law_steps c_All c_Barred na_All_steps i_All_Barred_f i_Barred_Barred_t
  have d__law_right := ok_law_right (P := l.prog) (w := w) (base := base) B D20 d_all_of d__law_due d_All_shows d_Barred_shows c_All c_Barred c_Answer na_All_steps i_All_Answer_t i_Barred_Answer_t i_All_All_t i_Barred_All_f i_All_Barred_f i_Barred_Barred_t
  exact ok_law (P := l.prog) (w := w) (base := base) B F d__law_beads d__law_reached d__law_steps d__law_right d_meetings d_turned d_all_of d_All_shows d_Barred_shows c_All c_Barred na_All_steps i_All_All_t i_Barred_All_f
theorem walk {l : PySem.W.OpenLaw} {q : Program} {loose : List Str} {XP : (Str → Option Value) → Heap → Prop} {YP : World → Heap → Prop} {d : DefRec} {K : Params → PySem.W.Frag} (hn : l.most = some 63) (hdf : d.params.defaults = [])
    (hY : ∀ (w : World) (h : Heap), YP w h → (K w.params).In h)
    (F : ∀ (w : World) (mg : Str → Option Value) (fa : Addr) (h : Heap), (K w.params).In h → h.Ns mainGlobals mg → mg d.name = some (.ref fa) →
      ∃ fd : FuncData, (∀ (s : Shared) (u : Value), BindsTo s fd ⟨[u], []⟩ [("_law_script", u)]) ∧ ∀ base : Heap, (K w.params).In base → base.Ns mainGlobals mg → FnOk l.prog w (K w.params) mg base (L2.CX l.prog w) 5 fa fd ["_law_script"] (spR (A_law (K w.params)))) :
    PySem.W.WalkO q loose XP YP l.row.toRowW d [] (fun f vs => PySem.call f vs) :=
  L2.walk_ofB (n := 63) (k := 5) (x := "_law_script") (CX := fun w => L2.CX l.prog w) (sp := fun w => spR (A_law (K w.params))) hn (by decide) hdf ⟨rfl, by decide, by decide⟩ hY F (fun _ _ a ns hl hb _ hS => law_sp hS hb) fun _ _ _ _ _ z => cx_false z
end
end My
open PySem PySem.W PyProof.Rows
set_option maxRecDepth 100000 in
set_option maxHeartbeats 0 in
theorem PySem.Challenge.cw_kindmeets_k04_whole_all_holds : PySem.Challenge.rw_kindmeets_k04_whole_all.Holds := by
  w_on; o_law; k_head; (case hw => w_witness2)
  k_fill
  refine My.walk (l := PySem.Challenge.rw_kindmeets_k04_whole_all) rfl rfl (fun w h Y => PySem.W.kIn_of Y) ?F
  case F =>
    intro w mg fa h KX G hmg
    refine' My.all_mk KX G hmg ?z_len ?z_isinstance ?z_sum ?z_max ?z_min ?z_abs ?z_all ?z_any ?z_sorted ?z_list ?z_tuple ?z_range ?z_enumerate ?z_int ?z_bool ?z_str ?z_ValueError ?ae_BadBeads ?xe_BadBeads ?ke_BadBeads ?be_BadBeads ?te_BadBeads ?ae_BadKind ?xe_BadKind ?ke_BadKind ?be_BadKind ?te_BadKind ?ae_BadMeeting ?xe_BadMeeting ?ke_BadMeeting ?be_BadMeeting ?te_BadMeeting ?aP ?lP ?lA ?lB ?lC ?ga_All ?pg_All ?hd_All ?po_All ?sa_All ?ca_All ?mo_All ?kc_All ?cn ?ct ?mk_All ?aI_All ?lI_All ?cI_All ?kI_All ?iI_All ?ga_Answer ?pg_Answer ?hd_Answer ?po_Answer ?sa_Answer ?ca_Answer ?mo_Answer ?kc_Answer ?ga_Barred ?pg_Barred ?hd_Barred ?po_Barred ?sa_Barred ?ca_Barred ?mo_Barred ?kc_Barred ?mk_Barred ?in_Barred ?cc_All ?ty_All ?si_All_All_t ?cc_Answer ?ty_Answer ?si_All_Answer_t ?cc_Barred ?ty_Barred ?si_All_Barred_f ?ss_Barred ?si_Barred_All_f ?ss_All ?si_Barred_Answer_t ?si_Barred_Barred_t ?na_All_steps ?a0 ?l0 ?c0 ?k0 ?a1 ?l1 ?c1 ?k1 ?a2 ?l2 ?c2 ?k2 ?a3 ?l3 ?c3 ?k3 ?a4 ?l4 ?c4 ?k4 ?a5 ?l5 ?c5 ?k5 ?a6 ?l6 ?c6 ?k6 ?a7 ?l7 ?c7 ?k7 ?a8 ?l8 ?c8 ?k8 ?a9 ?l9 ?c9 ?k9 ?a10 ?l10 ?c10 ?k10 ?a11 ?l11 ?c11 ?k11 ?a12 ?l12 ?c12 ?k12 ?a13 ?l13 ?c13 ?k13 ?a14 ?l14 ?c14 ?k14 ?a15 ?l15 ?c15 ?k15 ?a16 ?l16 ?c16 ?k16 ?i16 ?a17 ?l17 ?c17 ?k17 ?i17 ?a18 ?l18 ?c18 ?k18 ?a19 ?l19 ?c19 ?k19 ?a20 ?l20 ?c20 ?k20 ?a21 ?l21 ?c21 ?k21
    (case z_len => k_is)
    (case z_isinstance => k_is)
    (case z_sum => k_is)
    (case z_max => k_is)
    (case z_min => k_is)
    (case z_abs => k_is)
    (case z_all => k_is)
    (case z_any => k_is)
    (case z_sorted => k_is)
    (case z_list => k_is)
    (case z_tuple => k_is)
    (case z_range => k_is)
    (case z_enumerate => k_is)
    (case z_int => k_is)
    (case z_bool => k_is)
    (case z_str => k_is)
    (case z_ValueError => k_is)
    (case ae_BadBeads => k_is)
    (case xe_BadBeads => k_exc)
    (case ke_BadBeads => k_is)
    (case be_BadBeads => k_is)
    (case te_BadBeads => k_is)
    (case ae_BadKind => k_is)
    (case xe_BadKind => k_exc)
    (case ke_BadKind => k_is)
    (case be_BadKind => k_is)
    (case te_BadKind => k_is)
    (case ae_BadMeeting => k_is)
    (case xe_BadMeeting => k_exc)
    (case ke_BadMeeting => k_is)
    (case be_BadMeeting => k_is)
    (case te_BadMeeting => k_is)
    (case aP => k_is)
    (case lP => k_is)
    (case lA => k_is)
    (case lB => k_is)
    (case lC => k_is)
    (case ga_All => k_is)
    (case pg_All => k_is)
    (case hd_All => k_is)
    (case po_All => k_is)
    (case sa_All => k_is)
    (case ca_All => k_is)
    (case mo_All => k_is)
    (case kc_All => k_is)
    (case cn => k_is)
    (case ct => k_is)
    (case mk_All => k_is)
    (case aI_All => k_is)
    (case lI_All => k_is)
    (case cI_All => k_is)
    (case kI_All => k_is)
    (case iI_All => k_is)
    (case ga_Answer => k_is)
    (case pg_Answer => k_is)
    (case hd_Answer => k_is)
    (case po_Answer => k_is)
    (case sa_Answer => k_is)
    (case ca_Answer => k_is)
    (case mo_Answer => k_is)
    (case kc_Answer => k_is)
    (case ga_Barred => k_is)
    (case pg_Barred => k_is)
    (case hd_Barred => k_is)
    (case po_Barred => k_is)
    (case sa_Barred => k_is)
    (case ca_Barred => k_is)
    (case mo_Barred => k_is)
    (case kc_Barred => k_is)
    (case mk_Barred => k_is)
    (case in_Barred => k_is)
    (case cc_All => k_is)
    (case ty_All => k_is)
    (case si_All_All_t => k_is)
    (case cc_Answer => k_is)
    (case ty_Answer => k_is)
    (case si_All_Answer_t => k_is)
    (case cc_Barred => k_is)
    (case ty_Barred => k_is)
    (case si_All_Barred_f => k_is)
    (case ss_Barred => k_is)
    (case si_Barred_All_f => k_is)
    (case ss_All => k_is)
    (case si_Barred_Answer_t => k_is)
    (case si_Barred_Barred_t => k_is)
    (case na_All_steps => k_is)
    (case a0 => k_is)
    (case l0 => k_is)
    (case c0 => k_is)
    (case k0 => k_is)
    (case a1 => k_is)
    (case l1 => k_is)
    (case c1 => k_is)
    (case k1 => k_is)
    (case a2 => k_is)
    (case l2 => k_is)
    (case c2 => k_is)
    (case k2 => k_is)
    (case a3 => k_is)
    (case l3 => k_is)
    (case c3 => k_is)
    (case k3 => k_is)
    (case a4 => k_is)
    (case l4 => k_is)
    (case c4 => k_is)
    (case k4 => k_is)
    (case a5 => k_is)
    (case l5 => k_is)
    (case c5 => k_is)
    (case k5 => k_is)
    (case a6 => k_is)
    (case l6 => k_is)
    (case c6 => k_is)
    (case k6 => k_is)
    (case a7 => k_is)
    (case l7 => k_is)
    (case c7 => k_is)
    (case k7 => k_is)
    (case a8 => k_is)
    (case l8 => k_is)
    (case c8 => k_is)
    (case k8 => k_is)
    (case a9 => k_is)
    (case l9 => k_is)
    (case c9 => k_is)
    (case k9 => k_is)
    (case a10 => k_is)
    (case l10 => k_is)
    (case c10 => k_is)
    (case k10 => k_is)
    (case a11 => k_is)
    (case l11 => k_is)
    (case c11 => k_is)
    (case k11 => k_is)
    (case a12 => k_is)
    (case l12 => k_is)
    (case c12 => k_is)
    (case k12 => k_is)
    (case a13 => k_is)
    (case l13 => k_is)
    (case c13 => k_is)
    (case k13 => k_is)
    (case a14 => k_is)
    (case l14 => k_is)
    (case c14 => k_is)
    (case k14 => k_is)
    (case a15 => k_is)
    (case l15 => k_is)
    (case c15 => k_is)
    (case k15 => k_is)
    (case a16 => k_is)
    (case l16 => k_is)
    (case c16 => k_is)
    (case k16 => k_is)
    (case i16 => k_is)
    (case a17 => k_is)
    (case l17 => k_is)
    (case c17 => k_is)
    (case k17 => k_is)
    (case i17 => k_is)
    (case a18 => k_is)
    (case l18 => k_is)
    (case c18 => k_is)
    (case k18 => k_is)
    (case a19 => k_is)
    (case l19 => k_is)
    (case c19 => k_is)
    (case k19 => k_is)
    (case a20 => k_is)
    (case l20 => k_is)
    (case c20 => k_is)
    (case k20 => k_is)
    (case a21 => k_is)
    (case l21 => k_is)
    (case c21 => k_is)
    (case k21 => k_is)
#print axioms PySem.Challenge.cw_kindmeets_k04_whole_all_holds
