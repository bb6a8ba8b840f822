import PyProof.Rows.All
import Wide.All
import OpenK.AllK
import Wide.FinOn
import HandS.ForMost
import HandS.ForExc
import HandS.Flow
import HandS.TupAny
import HandS.Wide
import HandS.Zip
import HandS.IsInst
import HandS.Defaults
import HandS.Deep
import HandS.TupMul
import HandS.Style
import HandS.TryOnly
import HandS.ExcIs
import HandS.ExcField
import HandS.ExcInit
import HandS.Text
import HandS.Codes
import HandS.Head0
import HandS.Head1
import HandS.Head2
import HandS.HeadEnd
import HandS.HeadHook1
import HandS.HeadHook2
import KE.SortData
import KE.DataMinMax
import KE.GoesEnum
import KE.GoesMore
import PySem.Challenge.RW_typehall_k04_areas
set_option Elab.async false
set_option linter.all false
set_option maxRecDepth 100000
set_option maxHeartbeats 4000000
section
/-! Z: plain values, what they are in the abstract heap, slots. -/
namespace Z
open PySem PySem.Spec PyProof.Rows L2
/-- plain values: scr is the law's own script -/
inductive PV where
  | non | bl (b : Bool) | int (i : Int) | str (x : List Nat) | tup (xs : List PV) | lst (xs : List PV) | scr (ns : List Int)
  deriving Inhabited
/-- how a computation ends: a value; an error of the class with a number, and its field; bad: not told -/
inductive Res (α : Type) where
  | ok (a : α) | exc (c : Nat) (p : Option PV) | bad
def Res.bind {α β : Type} (r : Res α) (f : α → Res β) : Res β := match r with
  | .ok a => f a
  | .exc c p => .exc c p
  | .bad => .bad
instance : Monad Res where
  pure := Res.ok
  bind := Res.bind
@[simp] theorem ok_bind {α β : Type} (a : α) (f : α → Res β) : (Res.ok a >>= f) = f a := rfl
@[simp] theorem exc_bind {α β : Type} (c : Nat) (p : Option PV) (f : α → Res β) : ((Res.exc c p : Res α) >>= f) = .exc c p := rfl
@[simp] theorem bad_bind {α β : Type} (f : α → Res β) : ((Res.bad : Res α) >>= f) = .bad := rfl
theorem pure_res {α : Type} (a : α) : (pure a : Res α) = .ok a := rfl
abbrev strV (x : List Nat) : V := .str ⟨x.toArray⟩
mutual
/-- the value v is p, by the frozen heap G -/
inductive Rep (K : PySem.W.Frag) (G : Hp) : V → PV → Prop
  | non : Rep K G .non .non
  | bl (b : Bool) : Rep K G (.bl b) (.bl b)
  | int (i : Int) : Rep K G (.int i) (.int i)
  | str (x : List Nat) : (∀ c ∈ x, c < 1114112) → x.length ≤ sizeLine → Rep K G (strV x) (.str x)
  | tup {a : Addr} {vs : List V} {ps : List PV} : SqT K G a vs → Reps K G vs ps → Rep K G (.ref a) (.tup ps)
  | lst {a : Addr} {vs : List V} {ps : List PV} : G a = some (.lst vs) → Reps K G vs ps → Rep K G (.ref a) (.lst ps)
  | scr {a : Addr} {ns : List Int} : SqL K G a (ns.map V.int) → Rep K G (.ref a) (.scr ns)
inductive Reps (K : PySem.W.Frag) (G : Hp) : List V → List PV → Prop
  | nil : Reps K G [] []
  | cons {v : V} {vs : List V} {p : PV} {ps : List PV} : Rep K G v p → Reps K G vs ps → Reps K G (v :: vs) (p :: ps)
end
theorem Same.tup {K : PySem.W.Frag} {H H' : Hp} {a : Addr} {xs : List V} (e : Same H H') (h : SqT K H a xs) : SqT K H' a xs := by
  rcases h with h | h
  · rcases h with h | ⟨o, h⟩
    · exact .inl (.inl (e _ _ h))
    · exact .inl (.inr ⟨o, e _ _ h⟩)
  · exact .inr h
mutual
theorem Rep.mono {K : PySem.W.Frag} {G G' : Hp} (s : Same G G') : ∀ {v : V} {p : PV}, Rep K G v p → Rep K G' v p
  | _, _, .non => .non
  | _, _, .bl b => .bl b
  | _, _, .int i => .int i
  | _, _, .str x h l => .str x h l
  | _, _, .tup h r => .tup (Same.tup s h) (Reps.mono s r)
  | _, _, .lst h r => .lst (s _ _ h) (Reps.mono s r)
  | _, _, .scr h => .scr (s.seq h)
theorem Reps.mono {K : PySem.W.Frag} {G G' : Hp} (s : Same G G') : ∀ {vs : List V} {ps : List PV}, Reps K G vs ps → Reps K G' vs ps
  | _, _, .nil => .nil
  | _, _, .cons r t => .cons (Rep.mono s r) (Reps.mono s t)
end
section
variable {K : PySem.W.Frag} {G G' H H' : Hp}
theorem Reps.length : ∀ {vs : List V} {ps : List PV}, Reps K G vs ps → vs.length = ps.length
  | _, _, .nil => rfl
  | _, _, .cons _ t => congrArg (· + 1) (Reps.length t)
theorem Reps.get : ∀ {vs : List V} {ps : List PV} {i : Nat} {p : PV}, Reps K G vs ps → ps[i]? = some p → ∃ v, vs[i]? = some v ∧ Rep K G v p
  | _, _, _, _, .nil, e => by simp at e
  | _, _, 0, _, .cons r _, e => by simp at e; subst e; exact ⟨_, rfl, r⟩
  | _, _, i + 1, p, .cons _ t, e => by
    obtain ⟨u, h1, h2⟩ := Reps.get (i := i) (p := p) t (by simpa using e)
    exact ⟨u, by simpa using h1, h2⟩
theorem Reps.getV : ∀ {vs : List V} {ps : List PV} {i : Nat} {v : V}, Reps K G vs ps → vs[i]? = some v → ∃ p, ps[i]? = some p ∧ Rep K G v p
  | _, _, _, _, .nil, e => by simp at e
  | _, _, 0, _, .cons r _, e => by simp at e; subst e; exact ⟨_, rfl, r⟩
  | _, _, i + 1, p, .cons _ t, e => by
    obtain ⟨u, h1, h2⟩ := Reps.getV (i := i) (v := p) t (by simpa using e)
    exact ⟨u, by simpa using h1, h2⟩
theorem Reps.append : ∀ {vs ws : List V} {ps qs : List PV}, Reps K G vs ps → Reps K G ws qs → Reps K G (vs ++ ws) (ps ++ qs)
  | _, _, _, _, .nil, s => s
  | _, _, _, _, .cons r t, s => .cons r (Reps.append t s)
theorem Reps.take : ∀ {vs : List V} {ps : List PV} (n : Nat), Reps K G vs ps → Reps K G (vs.take n) (ps.take n)
  | _, _, 0, _ => .nil
  | _, _, _ + 1, .nil => .nil
  | _, _, n + 1, .cons r t => .cons r (Reps.take n t)
theorem Reps.drop : ∀ {vs : List V} {ps : List PV} (n : Nat), Reps K G vs ps → Reps K G (vs.drop n) (ps.drop n)
  | _, _, 0, r => r
  | _, _, _ + 1, .nil => .nil
  | _, _, n + 1, .cons _ t => Reps.drop n t
theorem Reps.set {v : V} {p : PV} (r : Rep K G v p) : ∀ {vs : List V} {ps : List PV} (i : Nat), Reps K G vs ps → Reps K G (vs.set i v) (ps.set i p)
  | _, _, _, .nil => .nil
  | _, _, 0, .cons _ t => .cons r t
  | _, _, i + 1, .cons q t => .cons q (Reps.set r i t)
theorem Reps.eraseIdx : ∀ {vs : List V} {ps : List PV} (i : Nat), Reps K G vs ps → Reps K G (vs.eraseIdx i) (ps.eraseIdx i)
  | _, _, _, .nil => .nil
  | _, _, 0, .cons _ t => t
  | _, _, i + 1, .cons q t => .cons q (Reps.eraseIdx i t)
theorem Reps.reverse {vs : List V} {ps : List PV} (h : Reps K G vs ps) : Reps K G vs.reverse ps.reverse := by
  induction vs generalizing ps with
  | nil => cases h; exact .nil
  | cons v vs ih =>
    cases h with
    | cons r t =>
      rw [List.reverse_cons, List.reverse_cons]
      exact (ih t).append (.cons r .nil)
theorem Reps.rep {vs : List V} {ps : List PV} (h : Reps K G vs ps) : ∀ k : Nat, Reps K G (List.replicate k vs).flatten (List.replicate k ps).flatten
  | 0 => .nil
  | k + 1 => by
    rw [List.replicate_succ, List.replicate_succ, List.flatten_cons, List.flatten_cons]
    exact h.append (Reps.rep h k)
/-- the heap has grown, the frozen part by new objects alone -/
structure Ext (G H G' H' : Hp) : Prop where
  gs : Same G G'
  hs : Same H H'
  gh : Same G' H'
  nw : ∀ a, G a = none → G' a ≠ none → H a = none
theorem Ext.refl (h : Same G H) : Ext G H G H := ⟨Same.refl _, Same.refl _, h, fun _ a b => absurd a b⟩
theorem Ext.trans {G1 H1 G2 H2 : Hp} (a : Ext G H G1 H1) (b : Ext G1 H1 G2 H2) : Ext G H G2 H2 :=
  ⟨a.gs.trans b.gs, a.hs.trans b.hs, b.gh, fun x h h2 => by
    by_cases e : G1 x = none
    · exact a.hs.free (b.nw x e h2)
    · exact a.nw x h e⟩
theorem same_upd {p : Addr} {o : HO} (h : H p = none) : Same H (upd H p o) := fun b x e => by
  rw [upd_ne (ne_of_none e h)]
  exact e
/-- a new object that stays as it is -/
theorem Ext.new {p : Addr} {o : HO} (s : Same G H) (h : H p = none) : Ext G H (upd G p o) (upd H p o) where
  gs := same_upd (s.free h)
  hs := same_upd h
  gh := fun b x e => by
    by_cases hb : b = p
    · subst hb; rw [upd_same] at e ⊢; exact e
    · rw [upd_ne hb] at e ⊢; exact s _ _ e
  nw := fun a ha hb => by
    by_cases e : a = p
    · subst e; exact h
    · rw [upd_ne e] at hb; exact absurd ha hb
/-- a new object that is one's own -/
theorem Ext.newOwn {p : Addr} {o : HO} (s : Same G H) (h : H p = none) : Ext G H G (upd H p o) where
  gs := Same.refl _
  hs := same_upd h
  gh := s.trans (same_upd h)
  nw := fun a ha hb => absurd ha hb
/-- freezing one's own -/
theorem Ext.frz {p : Addr} {o : HO} {G0 H0 : Hp} (e : Ext G0 H0 G H) (h : H p = some o) (g : G p = none) (h0 : H0 p = none) : Ext G0 H0 (upd G p o) H where
  gs := e.gs.trans (same_upd g)
  hs := e.hs
  gh := fun b x q => by
    by_cases hb : b = p
    · subst hb; rw [upd_same] at q; cases q; exact h
    · rw [upd_ne hb] at q; exact e.gh _ _ q
  nw := fun a ha hb => by
    by_cases q : a = p
    · subst q; exact h0
    · rw [upd_ne q] at hb; exact e.nw a ha hb
end
/-- what a local name holds -/
inductive Slot where
  | un | shr (p : PV) | own (xs : List PV)
  deriving Inhabited
section
variable (K : PySem.W.Frag)
def RepSlot (G H H0 : Hp) (o : Option V) : Slot → Prop
  | .un => True
  | .shr p => ∃ v, o = some v ∧ Rep K G v p
  | .own xs => ∃ a vs, o = some (.ref a) ∧ G a = none ∧ H0 a = none ∧ H a = some (.lst vs) ∧ Reps K G vs xs
/-- the state of a body, entered at G0, H0 -/
structure SI (G0 H0 G H : Hp) (ρ : List Slot) (σ : L2.St) : Prop where
  ext : Ext G0 H0 G H
  len : σ.length = ρ.length
  at_ : ∀ (i : Nat) (s : Slot), ρ[i]? = some s → ∃ o, σ[i]? = some o ∧ RepSlot K G H H0 o s
  dis : ∀ (i j : Nat) (a : Addr) (xs ys : List PV), i ≠ j → ρ[i]? = some (.own xs) → ρ[j]? = some (.own ys) → σ[i]? = some (some (.ref a)) → σ[j]? = some (some (.ref a)) → False
end
section
variable {K : PySem.W.Frag} {G0 H0 G H G' H' : Hp} {ρ : List Slot} {σ : L2.St}
theorem Ext.own {a : Addr} {o : HO} (e : Ext G H G' H') (g : G a = none) (h : H a = some o) : G' a = none := by
  cases q : G' a with
  | none => rfl
  | some x =>
    have z := e.nw a g (by rw [q]; exact fun z => nomatch z)
    rw [h] at z; cases z
theorem SI.grow (I : SI K G0 H0 G H ρ σ) (e : Ext G H G' H') : SI K G0 H0 G' H' ρ σ where
  ext := I.ext.trans e
  len := I.len
  at_ := fun i s h => by
    obtain ⟨o, h1, h2⟩ := I.at_ i s h
    refine ⟨o, h1, ?_⟩
    cases s with
    | un => trivial
    | shr p =>
      obtain ⟨v, e1, r⟩ := h2
      exact ⟨v, e1, r.mono e.gs⟩
    | own xs =>
      obtain ⟨a, vs, e1, g, h0, hh, r⟩ := h2
      exact ⟨a, vs, e1, e.own g hh, h0, e.hs _ _ hh, r.mono e.gs⟩
  dis := I.dis
theorem SI.sub (I : SI K G0 H0 G H ρ σ) : Same G H := I.ext.gh
theorem SI.shr {i : Nat} {p : PV} (I : SI K G0 H0 G H ρ σ) (h : ρ[i]? = some (.shr p)) : ∃ v, σ[i]? = some (some v) ∧ Rep K G v p := by
  obtain ⟨o, h1, v, rfl, r⟩ := I.at_ i _ h
  exact ⟨v, h1, r⟩
theorem SI.own {i : Nat} {xs : List PV} (I : SI K G0 H0 G H ρ σ) (h : ρ[i]? = some (.own xs)) : ∃ a vs, σ[i]? = some (some (.ref a)) ∧ G a = none ∧ H0 a = none ∧ H a = some (.lst vs) ∧ Reps K G vs xs := by
  obtain ⟨o, h1, a, vs, rfl, r⟩ := I.at_ i _ h
  exact ⟨a, vs, h1, r⟩
theorem get_set_ne {α : Type} {l : List α} {i j : Nat} {x : α} (h : i ≠ j) : (l.set i x)[j]? = l[j]? := by
  rw [List.getElem?_set_ne h]
/-- a slot gets a value that stays as it is -/
theorem SI.setShr {i : Nat} {v : V} {p : PV} (I : SI K G0 H0 G H ρ σ) (r : Rep K G v p) : SI K G0 H0 G H (ρ.set i (.shr p)) (σ.set i (some v)) where
  ext := I.ext
  len := by rw [List.length_set, List.length_set]; exact I.len
  at_ := fun j s h => by
    by_cases e : i = j
    · subst e
      have hl : i < ρ.length := by
        have := List.getElem?_eq_some_iff.mp h
        obtain ⟨hh, _⟩ := this
        rwa [List.length_set] at hh
      rw [List.getElem?_set_self hl] at h
      cases h
      exact ⟨some v, by rw [List.getElem?_set_self (by rw [I.len]; exact hl)], v, rfl, r⟩
    · rw [get_set_ne e] at h
      rw [get_set_ne e]
      exact I.at_ j s h
  dis := fun j k a xs ys hjk h1 h2 h3 h4 => by
    have n1 : i ≠ j := fun e => by
      subst e
      have hl : i < ρ.length := by
        obtain ⟨hh, _⟩ := List.getElem?_eq_some_iff.mp h1
        rwa [List.length_set] at hh
      rw [List.getElem?_set_self hl] at h1; cases h1
    have n2 : i ≠ k := fun e => by
      subst e
      have hl : i < ρ.length := by
        obtain ⟨hh, _⟩ := List.getElem?_eq_some_iff.mp h2
        rwa [List.length_set] at hh
      rw [List.getElem?_set_self hl] at h2; cases h2
    rw [get_set_ne n1] at h1 h3
    rw [get_set_ne n2] at h2 h4
    exact I.dis j k a xs ys hjk h1 h2 h3 h4
/-- a slot is forgotten -/
theorem SI.setUn {i : Nat} {o : Option V} (I : SI K G0 H0 G H ρ σ) : SI K G0 H0 G H (ρ.set i .un) (σ.set i o) where
  ext := I.ext
  len := by rw [List.length_set, List.length_set]; exact I.len
  at_ := fun j s h => by
    by_cases e : i = j
    · subst e
      have hl : i < ρ.length := by
        obtain ⟨hh, _⟩ := List.getElem?_eq_some_iff.mp h
        rwa [List.length_set] at hh
      rw [List.getElem?_set_self hl] at h
      cases h
      exact ⟨o, by rw [List.getElem?_set_self (by rw [I.len]; exact hl)], trivial⟩
    · rw [get_set_ne e] at h
      rw [get_set_ne e]
      exact I.at_ j s h
  dis := fun j k a xs ys hjk h1 h2 h3 h4 => by
    have n1 : i ≠ j := fun e => by
      subst e
      have hl : i < ρ.length := by
        obtain ⟨hh, _⟩ := List.getElem?_eq_some_iff.mp h1
        rwa [List.length_set] at hh
      rw [List.getElem?_set_self hl] at h1; cases h1
    have n2 : i ≠ k := fun e => by
      subst e
      have hl : i < ρ.length := by
        obtain ⟨hh, _⟩ := List.getElem?_eq_some_iff.mp h2
        rwa [List.length_set] at hh
      rw [List.getElem?_set_self hl] at h2; cases h2
    rw [get_set_ne n1] at h1 h3
    rw [get_set_ne n2] at h2 h4
    exact I.dis j k a xs ys hjk h1 h2 h3 h4
/-- a slot gets a new list, its own -/
theorem SI.setOwn {i : Nat} {a : Addr} {vs : List V} {xs : List PV} (I : SI K G0 H0 G H ρ σ) (g : G a = none) (h0 : H0 a = none) (h : H a = some (.lst vs)) (r : Reps K G vs xs)
    (new : ∀ (j : Nat) (ys : List PV), j ≠ i → ρ[j]? = some (.own ys) → σ[j]? ≠ some (some (.ref a))) : SI K G0 H0 G H (ρ.set i (.own xs)) (σ.set i (some (.ref a))) where
  ext := I.ext
  len := by rw [List.length_set, List.length_set]; exact I.len
  at_ := fun j s h' => by
    by_cases e : i = j
    · subst e
      have hl : i < ρ.length := by
        obtain ⟨hh, _⟩ := List.getElem?_eq_some_iff.mp h'
        rwa [List.length_set] at hh
      rw [List.getElem?_set_self hl] at h'
      cases h'
      exact ⟨some (.ref a), by rw [List.getElem?_set_self (by rw [I.len]; exact hl)], a, vs, rfl, g, h0, h, r⟩
    · rw [get_set_ne e] at h'
      rw [get_set_ne e]
      exact I.at_ j s h'
  dis := fun j k b ys zs hjk h1 h2 h3 h4 => by
    by_cases e1 : i = j
    · subst e1
      have n2 : i ≠ k := hjk
      rw [get_set_ne n2] at h2 h4
      have hl : i < σ.length := by
        obtain ⟨hh, _⟩ := List.getElem?_eq_some_iff.mp h3
        rwa [List.length_set] at hh
      rw [List.getElem?_set_self hl] at h3
      cases h3
      exact new k zs (Ne.symm n2) h2 h4
    · by_cases e2 : i = k
      · subst e2
        rw [get_set_ne e1] at h1 h3
        have hl : i < σ.length := by
          obtain ⟨hh, _⟩ := List.getElem?_eq_some_iff.mp h4
          rwa [List.length_set] at hh
        rw [List.getElem?_set_self hl] at h4
        cases h4
        exact new j ys (Ne.symm e1) h1 h3
      · rw [get_set_ne e1] at h1 h3
        rw [get_set_ne e2] at h2 h4
        exact I.dis j k b ys zs hjk h1 h2 h3 h4
/-- a list of one's own is written -/
theorem SI.write {i : Nat} {a : Addr} {vs' : List V} {xs xs' : List PV} (I : SI K G0 H0 G H ρ σ) (hi : ρ[i]? = some (.own xs)) (ha : σ[i]? = some (some (.ref a))) (r : Reps K G vs' xs') :
    SI K G0 H0 G (upd H a (.lst vs')) (ρ.set i (.own xs')) σ := by
  obtain ⟨a', vs, e1, g, h0, h, _⟩ := I.own hi
  rw [ha] at e1; cases e1
  have gne : ∀ b o, G b = some o → b ≠ a := fun b o e z => by subst z; rw [g] at e; cases e
  have hl : i < ρ.length := (List.getElem?_eq_some_iff.mp hi).1
  refine ⟨⟨I.ext.gs, fun b o e => ?_, fun b o e => ?_, I.ext.nw⟩, by rw [List.length_set]; exact I.len, fun j s hj => ?_, fun j k b ys zs hjk h1 h2 h3 h4 => ?_⟩
  · rw [upd_ne (ne_of_none e h0)]
    exact I.ext.hs b o e
  · rw [upd_ne (gne b o e)]
    exact I.ext.gh b o e
  · by_cases e : i = j
    · subst e
      rw [List.getElem?_set_self hl] at hj
      cases hj
      exact ⟨some (.ref a), ha, a, vs', rfl, g, h0, upd_same, r⟩
    · rw [get_set_ne e] at hj
      obtain ⟨o, q1, q2⟩ := I.at_ j s hj
      refine ⟨o, q1, ?_⟩
      cases s with
      | un => trivial
      | shr p => exact q2
      | own ys =>
        obtain ⟨b, ws, rfl, gb, hb0, hb, rb⟩ := q2
        have nb : b ≠ a := fun z => by
          subst z
          exact I.dis i j b xs ys e hi hj ha q1
        exact ⟨b, ws, rfl, gb, hb0, by rw [upd_ne nb]; exact hb, rb⟩
  · have key : ∀ (l : Nat) (zs : List PV), (ρ.set i (Slot.own xs'))[l]? = some (.own zs) → ∃ ws, ρ[l]? = some (.own ws) := fun l zs hh => by
      by_cases e : i = l
      · subst e; exact ⟨xs, hi⟩
      · rw [get_set_ne e] at hh; exact ⟨zs, hh⟩
    obtain ⟨w1, q1⟩ := key j ys h1
    obtain ⟨w2, q2⟩ := key k zs h2
    exact I.dis j k b w1 w2 hjk q1 q2 h3 h4
/-- a list of one's own is frozen -/
theorem SI.freeze2 {i : Nat} {xs : List PV} (I : SI K G0 H0 G H ρ σ) (hi : ρ[i]? = some (.own xs)) : ∃ G', SI K G0 H0 G' H (ρ.set i (.shr (.lst xs))) σ ∧ Same G G' := by
  obtain ⟨a, vs, ha, g, h0, h, r⟩ := I.own hi
  have hl : i < ρ.length := (List.getElem?_eq_some_iff.mp hi).1
  have sg : Same G (upd G a (.lst vs)) := same_upd g
  refine ⟨upd G a (.lst vs), ⟨I.ext.frz h g h0, by rw [List.length_set]; exact I.len, fun j s hj => ?_, fun j k b ys zs hjk h1 h2 h3 h4 => ?_⟩, sg⟩
  · by_cases e : i = j
    · subst e
      rw [List.getElem?_set_self hl] at hj
      cases hj
      exact ⟨some (.ref a), ha, .ref a, rfl, .lst upd_same (r.mono sg)⟩
    · rw [get_set_ne e] at hj
      obtain ⟨o, q1, q2⟩ := I.at_ j s hj
      refine ⟨o, q1, ?_⟩
      cases s with
      | un => trivial
      | shr p =>
        obtain ⟨v, e1, rr⟩ := q2
        exact ⟨v, e1, rr.mono sg⟩
      | own ys =>
        obtain ⟨b, ws, rfl, gb, hb0, hb, rb⟩ := q2
        have nb : b ≠ a := fun z => by
          subst z
          exact I.dis i j b xs ys e hi hj ha q1
        exact ⟨b, ws, rfl, by rw [upd_ne nb]; exact gb, hb0, hb, rb.mono sg⟩
  · have n1 : i ≠ j := fun e => by
      subst e
      rw [List.getElem?_set_self hl] at h1; cases h1
    have n2 : i ≠ k := fun e => by
      subst e
      rw [List.getElem?_set_self hl] at h2; cases h2
    rw [get_set_ne n1] at h1
    rw [get_set_ne n2] at h2
    exact I.dis j k b ys zs hjk h1 h2 h3 h4
end
end Z
end
section
/-! Z: the small language, and what it computes. -/
namespace Z
open PySem PySem.Spec PyProof.Rows L2
inductive Bop where | add | sub | mul | fdv | mod | pow
  deriving DecidableEq
inductive Cop where | eq | ne | lt | le | gt | ge | isn | nisn | inn | nin
  deriving DecidableEq
inductive Ty where | int | bool | str | tuple | list
  deriving DecidableEq
/-- built-in functions -/
inductive Bi where | len | abs | min2 | max2 | min1 | max1 | sum | int | tuple | list | sorted
  deriving DecidableEq
/-- methods of texts -/
inductive Mt where | join | count
  deriving DecidableEq
/-- expressions, argument lists, targets, iterables, statements, blocks -/
inductive C where
  | v (i : Nat) | rd (i : Nat) | k (p : PV) | g (i : Nat)
  | bin (op : Bop) (a b : C) | neg (a : C) | nt (a : C) | cmp (op : Cop) (a b : C) | chn (op op' : Cop) (a b c : C) | an (a b : C) | or (a b : C) | ife (c a b : C)
  | tup (es : C) | dsp (es : C) | nil | cons (a as : C)
  | ix (a i : C) | sl (a lo hi : C) | nop | rev (a : C) | tl (a : C)
  | call (f : Nat) (es : C) | bi (b : Bi) (es : C) | isi (t : Ty) (e : C) | mt (m : Mt) (o e : C)
  | comp (vs : List Nat) (tg it cn el : C)
  | seq (e : C) | rng1 (a : C) | rng2 (a b : C) | rng3 (a b c : C) | enu (e : C) | zip (a b : C)
  | tn (i : Nat) | tt (ts : C)
  | sset (i : Nat) (e : C) | sown (i : Nat) (e : C) | sasg (tg e : C) | sapp (i : Nat) (e : C) | sext (i : Nat) (e : C) | sput (i : Nat) (ix e : C) | saug (i : Nat) (op : Bop) (e : C)
  | saux (i : Nat) (ix : C) (op : Bop) (e : C)
  | sexp (e : C) | sif (c a b : C) | sfor (tg it body : C) | swh (c body : C) | sret (e : C) | sreo (i : Nat) | sref (e : C) | srai (c : Nat) (es : C) | sfrz (i : Nat)
  | stry (body hs : C) | sbrk | scnt
  | snil | scons (s ss : C)
  /-- isinstance(e, class), e.field, e the error that is held -/
  | isx (c : Nat) | xf (c : Nat)
  /-- what is not told; a list's pop; except clauses -/
  | jk | pick (kvs : List (Int × List Nat)) (e : C) | spop (i : Nat) (ix : C) | hn | hc (cls : Nat) (i : Option Nat) (s r : C)
  deriving Inhabited
/-! ### operations -/
def fits (n : Nat) : Bool := Nat.ble n 16777216
def mulOk (a b : Int) : Bool := Nat.blt a.natAbs 18446744073709551616 || Nat.blt b.natAbs 18446744073709551616 || Nat.blt (a.natAbs.log2 + b.natAbs.log2) 1000000
def divOk (b : Int) : Bool := decide (b ≠ 0) && Nat.blt b.natAbs.log2 9000
mutual
/-- == -/
def eqP : PV → PV → Bool
  | .non, .non => true
  | .bl a, .bl b => a == b
  | .bl a, .int j => (if a then 1 else 0) == j
  | .int i, .bl b => i == (if b then 1 else 0)
  | .int i, .int j => i == j
  | .str x, .str y => x == y
  | .tup xs, .tup ys => eqL xs ys
  | .lst xs, .lst ys => eqL xs ys
  | _, _ => false
def eqL : List PV → List PV → Bool
  | [], [] => true
  | x :: xs, y :: ys => eqP x y && eqL xs ys
  | _, _ => false
end
mutual
/-- no deeper than n -/
def dep : PV → Nat → Bool
  | .tup xs, n + 1 => depL xs n
  | .lst xs, n + 1 => depL xs n
  | .tup _, 0 => false
  | .lst _, 0 => false
  | .scr _, _ => false
  | _, _ => true
def depL : List PV → Nat → Bool
  | [], _ => true
  | x :: xs, n => dep x n && depL xs n
end
mutual
/-- as data -/
def toD : PV → PyData
  | .non => .none
  | .bl b => .bool b
  | .int i => .int i
  | .str x => .str ⟨x.toArray⟩
  | .tup xs => .tuple (toDL xs)
  | .lst xs => .list (toDL xs)
  | .scr _ => .none
def toDL : List PV → List PyData
  | [] => []
  | x :: xs => toD x :: toDL xs
end
def tupN : PV → Bool
  | .tup (_ :: _) => true
  | _ => false
def noTup : PV → Bool
  | .tup _ => false
  | .non => false
  | .scr _ => false
  | _ => true
/-- can it be sorted? -/
def sortOk (xs : List PV) : Bool := depL xs 20 && (xs.all fun a => xs.all fun b => PySem.W.alike (toD a) (toD b)) && (xs.all tupN || xs.all noTup)
def binP : Bop → PV → PV → Res PV
  | .add, .int a, .int b => .ok (.int (a + b))
  | .add, .str a, .str b => if fits (a.length + b.length) then .ok (.str (a ++ b)) else .bad
  | .add, .tup a, .tup b => if fits (a.length + b.length) then .ok (.tup (a ++ b)) else .bad
  | .add, .lst a, .lst b => if fits (a.length + b.length) then .ok (.lst (a ++ b)) else .bad
  | .sub, .int a, .int b => .ok (.int (a - b))
  | .mul, .int a, .int b => if mulOk a b then .ok (.int (a * b)) else .bad
  | .mul, .str x, .int k => if decide (0 ≤ k) && Nat.ble k.toNat 16777216 && fits (x.length * k.toNat) then .ok (.str (List.replicate k.toNat x).flatten) else .bad
  | .mul, .tup x, .int k => if decide (2 ≤ k) && decide (k ≤ 1000) && Nat.ble x.length 1000 && !x.isEmpty then .ok (.tup (List.replicate k.toNat x).flatten) else .bad
  | .mul, .lst x, .int k => if decide (0 ≤ k) && fits (x.length * k.toNat) && Nat.ble k.toNat 16777216 then .ok (.lst (List.replicate k.toNat x).flatten) else .bad
  | .fdv, .int a, .int b => if divOk b then .ok (.int (a.fdiv b)) else .bad
  | .mod, .int a, .int b => if decide (b ≠ 0) then .ok (.int (a.fmod b)) else .bad
  | .pow, .int a, .int b => if decide (0 ≤ b) && decide (b ≤ 1000000) && Nat.blt a.natAbs 18446744073709551616 then .ok (.int (a ^ b.toNat)) else .bad
  | _, _, _ => .bad
/-- op= -/
def augP : Bop → PV → PV → Res PV
  | op, .int a, .int b => binP op (.int a) (.int b)
  | _, _, _ => .bad
def flatP : PV → Bool
  | .non | .bl _ | .int _ | .str _ => true
  | _ => false
def inP (x : PV) (xs : List PV) : Bool := xs.any fun y => eqP y x
def isNon : PV → Bool
  | .non => true
  | _ => false
def cmpP : Cop → PV → PV → Res PV
  | .eq, x, y => if dep x 20 && dep y 20 then .ok (.bl (eqP x y)) else .bad
  | .ne, x, y => if dep x 20 && dep y 20 then .ok (.bl (!eqP x y)) else .bad
  | .lt, .int a, .int b => .ok (.bl (decide (a < b)))
  | .le, .int a, .int b => .ok (.bl (decide (a ≤ b)))
  | .gt, .int a, .int b => .ok (.bl (decide (b < a)))
  | .ge, .int a, .int b => .ok (.bl (decide (b ≤ a)))
  | .lt, .str a, .str b => .ok (.bl (decide (a < b)))
  | .le, .str a, .str b => .ok (.bl (!decide (b < a)))
  | .gt, .str a, .str b => .ok (.bl (decide (b < a)))
  | .ge, .str a, .str b => .ok (.bl (!decide (a < b)))
  | .isn, x, .non => .ok (.bl (isNon x))
  | .nisn, x, .non => .ok (.bl (!isNon x))
  | .inn, .str [c], .str y => .ok (.bl (decide (c ∈ y)))
  | .nin, .str [c], .str y => .ok (.bl (!decide (c ∈ y)))
  | .inn, x, .lst ys => if dep x 20 && depL ys 20 then .ok (.bl (inP x ys)) else .bad
  | .nin, x, .lst ys => if dep x 20 && depL ys 20 then .ok (.bl (!inP x ys)) else .bad
  | .inn, x, .tup ys => if flatP x && ys.all flatP then .ok (.bl (inP x ys)) else .bad
  | .nin, x, .tup ys => if flatP x && ys.all flatP then .ok (.bl (!inP x ys)) else .bad
  | _, _, _ => .bad
def truP : PV → Res Bool
  | .non => .ok false
  | .bl b => .ok b
  | .int i => .ok (i != 0)
  | .str x => .ok (!x.isEmpty)
  | .tup xs => .ok (!xs.isEmpty)
  | .lst xs => .ok (!xs.isEmpty)
  | .scr _ => .bad
def ixP : PV → PV → Res PV
  | .tup xs, .int i => match atI xs i with | some p => .ok p | none => .bad
  | .lst xs, .int i => match atI xs i with | some p => .ok p | none => .bad
  | .str x, .int i => match atI x i with | some c => .ok (.str [c]) | none => .bad
  | .scr ns, .int i => match atI ns i with | some n => .ok (.int n) | none => .bad
  | _, _ => .bad
def sIx (n d : Nat) : Option Int → Nat := HT.sIx n d
def cutP {α : Type} (xs : List α) (lo hi : Option Int) : List α := (xs.drop (HT.sIx xs.length 0 lo)).take (HT.sIx xs.length xs.length hi - HT.sIx xs.length 0 lo)
def intP : PV → Res (Option Int)
  | .int i => .ok (some i)
  | _ => .bad
/-- a slice's part: left out, or an int -/
def partC : C → Res PV → Res (Option Int)
  | .nop, _ => .ok none
  | _, r => r.bind intP
def slV : PV → Option Int → Option Int → Res PV
  | .tup xs, l, h => .ok (.tup (cutP xs l h))
  | .lst xs, l, h => .ok (.lst (cutP xs l h))
  | .str xs, l, h => .ok (.str (cutP xs l h))
  | _, _, _ => .bad
/-- x[::-1] -/
def revP : PV → Res PV
  | .tup xs => .ok (.tup xs.reverse)
  | .lst xs => .ok (.lst xs.reverse)
  | _ => .bad
/-- x[:0:-1] -/
def tlP : PV → Res PV
  | .tup xs => .ok (.tup xs.tail.reverse)
  | _ => .bad
def isiP : Ty → PV → Bool
  | .int, .int _ => true
  | .int, .bl _ => true
  | .bool, .bl _ => true
  | .str, .str _ => true
  | .tuple, .tup _ => true
  | .list, .lst _ => true
  | .list, .scr _ => true
  | _, _ => false
def intsP : List PV → Option (List Int)
  | [] => some []
  | .int i :: r => (intsP r).map (i :: ·)
  | _ => none
def strsP : List PV → Option (List (List Nat))
  | [] => some []
  | .str i :: r => (strsP r).map (i :: ·)
  | _ => none
def maxL : Int → List Int → Int
  | m, [] => m
  | m, x :: r => maxL (if m < x then x else m) r
def minL : Int → List Int → Int
  | m, [] => m
  | m, x :: r => minL (if x < m then x else m) r
def biP : Bi → List PV → Res PV
  | .len, [.str x] => .ok (.int x.length)
  | .len, [.tup x] => .ok (.int x.length)
  | .len, [.lst x] => .ok (.int x.length)
  | .len, [.scr x] => .ok (.int x.length)
  | .abs, [.int i] => .ok (.int (if i < 0 then -i else i))
  | .min2, [.int i, .int j] => .ok (.int (if j < i then j else i))
  | .max2, [.int i, .int j] => .ok (.int (if j > i then j else i))
  | .min1, [.lst xs] => match intsP xs with | some (n :: ns) => .ok (.int (minL n ns)) | _ => .bad
  | .max1, [.lst xs] => match intsP xs with | some (n :: ns) => .ok (.int (maxL n ns)) | _ => .bad
  | .min1, [.tup xs] => match intsP xs with | some (n :: ns) => .ok (.int (minL n ns)) | _ => .bad
  | .max1, [.tup xs] => match intsP xs with | some (n :: ns) => .ok (.int (maxL n ns)) | _ => .bad
  | .sorted, [.lst xs] => if sortOk xs then .ok (.lst (xs.mergeSort (PySem.W.dataLe false toD))) else .bad
  | .sum, [.lst xs] => match intsP xs with | some ns => .ok (.int ns.sum) | none => .bad
  | .int, [.int i] => .ok (.int i)
  | .int, [.bl b] => .ok (.int (if b then 1 else 0))
  | .tuple, [.lst xs] => .ok (.tup xs)
  | .tuple, [.tup xs] => .ok (.tup xs)
  | .list, [.lst xs] => .ok (.lst xs)
  | .list, [.tup xs] => .ok (.lst xs)
  | _, _ => .bad
/-- a text, that a method is asked of -/
def strR : PV → Res PV
  | .str s => .ok (.str s)
  | _ => .bad
def cntP (c : Nat) : List Nat → Int
  | [] => 0
  | n :: r => (if n = c then 1 else 0) + cntP c r
/-- a dict display of ints and texts, at once subscripted -/
def pickP (kvs : List (Int × List Nat)) : PV → Res PV
  | .int i => match kvs.find? fun kv => decide (kv.1 = i) with
    | some kv => .ok (.str kv.2)
    | none => .bad
  | _ => .bad
def mtP : Mt → PV → PV → Res PV
  | .count, .str x, .str [c] => .ok (.int (cntP c x))
  | .join, .str s, .lst xs => match strsP xs with
    | some ys => if fits ((ys.map (·.length)).sum + ys.length * s.length) then .ok (.str (TL.joinL s ys)) else .bad
    | none => .bad
  | _, _, _ => .bad
/-- what a loop goes through -/
def itemsP : PV → Res PV
  | .tup xs => .ok (.lst xs)
  | .lst xs => .ok (.lst xs)
  | .str x => .ok (.lst (x.map fun c => .str [c]))
  | _ => .bad
def smallI (i : Int) : Bool := decide (-(2 ^ 62) ≤ i) && decide (i < 2 ^ 62)
def upL (lo : Int) : Nat → List PV
  | 0 => []
  | n + 1 => .int lo :: upL (lo + 1) n
def dnL (lo : Int) : Nat → List PV
  | 0 => []
  | n + 1 => .int lo :: dnL (lo - 1) n
def rngP (lo hi : PV) : Res PV := match lo, hi with
  | .int a, .int b => if smallI a && smallI b && fits (b - a).toNat then .ok (.lst (upL a (b - a).toNat)) else .bad
  | _, _ => .bad
def rng3P (lo hi st : PV) : Res PV := match lo, hi, st with
  | .int a, .int b, .int (-1) => if smallI a && smallI b && fits (a - b).toNat then .ok (.lst (dnL a (a - b).toNat)) else .bad
  | _, _, _ => .bad
def enuL : Nat → List PV → List PV
  | _, [] => []
  | n, x :: r => .tup [.int n, x] :: enuL (n + 1) r
def zipL : List PV → List PV → List PV
  | x :: xs, y :: ys => .tup [x, y] :: zipL xs ys
  | _, _ => []
def zipP : PV → PV → Res PV
  | .lst xs, .lst ys => .ok (.lst (zipL xs ys))
  | .tup xs, .tup ys => .ok (.lst (zipL xs ys))
  | _, _ => .bad
def enuP : PV → Res PV
  | .lst xs => .ok (.lst (enuL 0 xs))
  | .tup xs => .ok (.lst (enuL 0 xs))
  | _ => .bad
/-- a list's own items -/
def lstOf : PV → Res (List PV)
  | .lst xs => .ok xs
  | _ => .bad
/-! ### slots -/
def setS (ρ : List Slot) (i : Nat) (s : Slot) : List Slot := ρ.set i s
def wipeS (ρ : List Slot) : List Nat → List Slot
  | [] => ρ
  | i :: r => (wipeS ρ r).set i .un
/-- a value to a target -/
def asgP : C → PV → List Slot → Res (List Slot)
  | .tn i, p, ρ => .ok (ρ.set i (.shr p))
  | .tt ts, .tup xs, ρ => asgP ts (.tup xs) ρ
  | .tt ts, .lst xs, ρ => asgP ts (.tup xs) ρ
  | .nil, .tup [], ρ => .ok ρ
  | .cons t ts, .tup (x :: xs), ρ => (asgP t x ρ).bind fun ρ' => asgP ts (.tup xs) ρ'
  | _, _, _ => .bad
/-- what a call gives: a value, or a list of the caller's own -/
inductive RV where
  | shr (p : PV) | own (xs : List PV)
def RV.pv : RV → PV
  | .shr p => p
  | .own xs => .lst xs
/-- a comprehension: no error leaves it -/
def compL (f : PV → Res (Option PV)) : List PV → Res (List PV)
  | [] => .ok []
  | x :: r => match f x with
    | .ok (some y) => (compL f r).bind fun ys => .ok (y :: ys)
    | .ok none => compL f r
    | _ => .bad
abbrev Fns := Nat → List PV → Res RV
abbrev Cons := Nat → Option PV
def ev (φ : Fns) (κ : Cons) : C → List Slot → Res PV
  | .v i, ρ => match ρ[i]? with | some (.shr p) => .ok p | _ => .bad
  | .rd i, ρ => match ρ[i]? with | some (.shr p) => .ok p | some (.own xs) => .ok (.lst xs) | _ => .bad
  | .k p, _ => .ok p
  | .g i, _ => match κ i with | some p => .ok p | none => .bad
  | .bin op a b, ρ => (ev φ κ a ρ).bind fun x => (ev φ κ b ρ).bind fun y => binP op x y
  | .neg a, ρ => (ev φ κ a ρ).bind fun x => match x with | .int i => .ok (.int (-i)) | _ => .bad
  | .nt a, ρ => (ev φ κ a ρ).bind fun x => (truP x).bind fun t => .ok (.bl (!t))
  | .cmp op a b, ρ => (ev φ κ a ρ).bind fun x => (ev φ κ b ρ).bind fun y => cmpP op x y
  | .chn op op' a b c, ρ => (ev φ κ a ρ).bind fun x => (ev φ κ b ρ).bind fun y => (cmpP op x y).bind fun r => match r with
    | .bl true => (ev φ κ c ρ).bind fun z => cmpP op' y z
    | .bl false => .ok (.bl false)
    | _ => .bad
  | .an a b, ρ => (ev φ κ a ρ).bind fun x => (truP x).bind fun t => if t then ev φ κ b ρ else .ok x
  | .or a b, ρ => (ev φ κ a ρ).bind fun x => (truP x).bind fun t => if t then .ok x else ev φ κ b ρ
  | .ife c a b, ρ => (ev φ κ c ρ).bind fun x => (truP x).bind fun t => if t then ev φ κ a ρ else ev φ κ b ρ
  | .tup es, ρ => (ev φ κ es ρ).bind fun l => (lstOf l).bind fun xs => .ok (.tup xs)
  | .dsp es, ρ => (ev φ κ es ρ).bind fun l => (lstOf l).bind fun xs => .ok (.lst xs)
  | .nil, _ => .ok (.lst [])
  | .cons a as, ρ => (ev φ κ a ρ).bind fun x => (ev φ κ as ρ).bind fun l => (lstOf l).bind fun xs => .ok (.lst (x :: xs))
  | .ix a i, ρ => (ev φ κ a ρ).bind fun x => (ev φ κ i ρ).bind fun y => ixP x y
  | .sl a lo hi, ρ => (ev φ κ a ρ).bind fun x => (partC lo (ev φ κ lo ρ)).bind fun l => (partC hi (ev φ κ hi ρ)).bind fun h => slV x l h
  | .nop, _ => .ok .non
  | .rev a, ρ => (ev φ κ a ρ).bind revP
  | .tl a, ρ => (ev φ κ a ρ).bind tlP
  | .call f es, ρ => (ev φ κ es ρ).bind fun l => (lstOf l).bind fun xs => (φ f xs).bind fun r => .ok r.pv
  | .bi b es, ρ => (ev φ κ es ρ).bind fun l => (lstOf l).bind fun xs => biP b xs
  | .isi t e, ρ => (ev φ κ e ρ).bind fun x => .ok (.bl (isiP t x))
  | .mt m o e, ρ => (ev φ κ o ρ).bind fun x => (strR x).bind fun x => (ev φ κ e ρ).bind fun y => mtP m x y
  | .pick kvs e, ρ => (ev φ κ e ρ).bind fun x => pickP kvs x
  | .comp vs tg it cn el, ρ => (ev φ κ it ρ).bind fun l => (lstOf l).bind fun xs =>
    (compL (fun x => (asgP tg x (wipeS ρ vs)).bind fun ρ' => (ev φ κ cn ρ').bind fun c => (truP c).bind fun t => if t then (ev φ κ el ρ').bind fun y => .ok (some y) else .ok none) xs).bind fun ys => .ok (.lst ys)
  | .seq e, ρ => (ev φ κ e ρ).bind itemsP
  | .rng1 a, ρ => (ev φ κ a ρ).bind fun x => rngP (.int 0) x
  | .rng2 a b, ρ => (ev φ κ a ρ).bind fun x => (ev φ κ b ρ).bind fun y => rngP x y
  | .rng3 a b c, ρ => (ev φ κ a ρ).bind fun x => (ev φ κ b ρ).bind fun y => (ev φ κ c ρ).bind fun z => rng3P x y z
  | .enu e, ρ => (ev φ κ e ρ).bind enuP
  | .zip a b, ρ => (ev φ κ a ρ).bind fun x => (ev φ κ b ρ).bind fun y => zipP x y
  | _, _ => .bad
/-- how a statement ends -/
inductive Out where
  | nx (ρ : List Slot) | ret (r : RV) | bk (ρ : List Slot) | ct (ρ : List Slot) | exc (c : Nat) (p : Option PV) (ρ : List Slot) | bad
def lift {α : Type} (r : Res α) (ρ : List Slot) (f : α → Out) : Out := match r with
  | .ok a => f a
  | .exc c p => .exc c p ρ
  | .bad => .bad
def forL (f : PV → List Slot → Out) : List PV → List Slot → Out
  | [], ρ => .nx ρ
  | x :: xs, ρ => match f x ρ with
    | .nx ρ' => forL f xs ρ'
    | .ct ρ' => forL f xs ρ'
    | .bk ρ' => .nx ρ'
    | o => o
def whL (c : List Slot → Res Bool) (f : List Slot → Out) : Nat → List Slot → Out
  | 0, _ => .bad
  | n + 1, ρ => match c ρ with
    | .ok true => (match f ρ with
      | .nx ρ' => whL c f n ρ'
      | .ct ρ' => whL c f n ρ'
      | .bk ρ' => .nx ρ'
      | o => o)
    | .ok false => .nx ρ
    | .exc c p => .exc c p ρ
    | .bad => .bad
def ownAt (ρ : List Slot) (i : Nat) : Res (List PV) := match ρ[i]? with
  | some (.own xs) => .ok xs
  | _ => .bad
/-- in an except clause: c, p the error that is held -/
def evX (cx : Nat → Nat → Bool) (c : Nat) (p : Option PV) : C → Res PV
  | .k q => .ok q
  | .isx d => match p with | none => .ok (.bl (cx c d)) | some _ => .bad
  | .xf d => match p with | some q => (if c == d then .ok q else .bad) | none => .bad
  | .nt a => (evX cx c p a).bind fun x => (truP x).bind fun t => .ok (.bl (!t))
  | .an a b => (evX cx c p a).bind fun x => (truP x).bind fun t => if t then evX cx c p b else .ok x
  | .ife d a b => (evX cx c p d).bind fun x => (truP x).bind fun t => if t then evX cx c p a else evX cx c p b
  | .tup es => (evX cx c p es).bind fun l => (lstOf l).bind fun xs => .ok (.tup xs)
  | .dsp es => (evX cx c p es).bind fun l => (lstOf l).bind fun xs => .ok (.lst xs)
  | .nil => .ok (.lst [])
  | .cons a as => (evX cx c p a).bind fun x => (evX cx c p as).bind fun l => (lstOf l).bind fun xs => .ok (.lst (x :: xs))
  | _ => .bad
/-- an except clause's suite: a value handed back, or put to a list -/
def suite0 (cx : Nat → Nat → Bool) (c : Nat) (p : Option PV) (i : Option Nat) : C → List Slot → Out
  | .sret e, _ => match evX cx c p e with
    | .ok q => .ret (.shr q)
    | _ => .bad
  | .sapp j e, ρ => match i with
    | none => .bad
    | some i => match evX cx c p e with
      | .ok q => lift (ownAt ρ j) ρ fun xs => if fits (xs.length + 1) && !(i == j) then .nx ((ρ.set j (.own (xs ++ [q]))).set i .un) else .bad
      | _ => .bad
  | _, _ => .bad
def okI' (i : Option Nat) (n : Nat) : Bool := match i with
  | none => true
  | some i => Nat.blt i n
def suiteX (cx : Nat → Nat → Bool) (c : Nat) (p : Option PV) (i : Option Nat) (s : C) (ρ : List Slot) : Out := if okI' i ρ.length then suite0 cx c p i s ρ else .bad
/-- the except clauses, one after the other -/
def handX (cx : Nat → Nat → Bool) (c : Nat) (p : Option PV) : C → List Slot → Out
  | .hn, ρ => .exc c p ρ
  | .hc cls i s r, ρ => if cx c cls then suiteX cx c p i s ρ else handX cx c p r ρ
  | _, _ => .bad
/-- cx: whether the class with the one number is under the class with the other -/
def evS (φ : Fns) (κ : Cons) (cx : Nat → Nat → Bool) (wf : Nat) : C → List Slot → Out
  | .sset i e, ρ => lift (ev φ κ e ρ) ρ fun p => .nx (ρ.set i (.shr p))
  | .sown i (.call f es), ρ => lift ((ev φ κ es ρ).bind lstOf) ρ fun xs => lift (φ f xs) ρ fun r => match r with
    | .own ys => .nx (ρ.set i (.own ys))
    | .shr _ => .bad
  | .sown i e, ρ => lift ((ev φ κ e ρ).bind lstOf) ρ fun xs => .nx (ρ.set i (.own xs))
  | .sasg tg e, ρ => lift (ev φ κ e ρ) ρ fun p => lift (asgP tg p ρ) ρ fun ρ' => .nx ρ'
  | .sapp i e, ρ => lift (ownAt ρ i) ρ fun xs => lift (ev φ κ e ρ) ρ fun p => if fits (xs.length + 1) then .nx (ρ.set i (.own (xs ++ [p]))) else .bad
  | .sext i e, ρ => lift (ownAt ρ i) ρ fun xs => lift ((ev φ κ e ρ).bind lstOf) ρ fun ys => if fits (xs.length + ys.length) then .nx (ρ.set i (.own (xs ++ ys))) else .bad
  | .sput i ix e, ρ => lift (ev φ κ e ρ) ρ fun p => lift (ownAt ρ i) ρ fun xs => lift (ev φ κ ix ρ) ρ fun j => match j with
    | .int n => (match ixN xs.length n with | some m => .nx (ρ.set i (.own (xs.set m p))) | none => .bad)
    | _ => .bad
  | .saug i op e, ρ => lift (ev φ κ (.v i) ρ) ρ fun x => lift (ev φ κ e ρ) ρ fun y => lift (augP op x y) ρ fun p => .nx (ρ.set i (.shr p))
  | .saux i ix op e, ρ => lift (ownAt ρ i) ρ fun xs => lift (ev φ κ ix ρ) ρ fun j => lift (ixP (.lst xs) j) ρ fun x => lift (ev φ κ e ρ) ρ fun y => lift (augP op x y) ρ fun p => match j with
    | .int n => (match ixN xs.length n with | some m => .nx (ρ.set i (.own (xs.set m p))) | none => .bad)
    | _ => .bad
  | .sexp e, ρ => lift (ev φ κ e ρ) ρ fun _ => .nx ρ
  | .sif c a b, ρ => lift ((ev φ κ c ρ).bind truP) ρ fun t => if t then evS φ κ cx wf a ρ else evS φ κ cx wf b ρ
  | .sfor tg it body, ρ => lift ((ev φ κ it ρ).bind lstOf) ρ fun xs => forL (fun x ρ' => lift (asgP tg x ρ') ρ' fun ρ'' => evS φ κ cx wf body ρ'') xs ρ
  | .swh c body, ρ => whL (fun ρ' => (ev φ κ c ρ').bind truP) (fun ρ' => evS φ κ cx wf body ρ') wf ρ
  | .sret e, ρ => lift (ev φ κ e ρ) ρ fun p => .ret (.shr p)
  | .sreo i, ρ => lift (ownAt ρ i) ρ fun xs => .ret (.own xs)
  | .sref e, ρ => lift ((ev φ κ e ρ).bind lstOf) ρ fun xs => .ret (.own xs)
  | .srai c .nil, ρ => .exc c none ρ
  | .srai c e, ρ => lift (ev φ κ e ρ) ρ fun p => .exc c (some p) ρ
  | .stry body hs, ρ => match evS φ κ cx wf body ρ with
    | .exc c p ρ' => handX cx c p hs ρ'
    | o => o
  | .spop i ix, ρ => lift (ownAt ρ i) ρ fun xs => lift (ev φ κ ix ρ) ρ fun j => match j with
    | .int n => (match ixN xs.length n with | some m => if smallI n then .nx (ρ.set i (.own (xs.eraseIdx m))) else .bad | none => .bad)
    | _ => .bad
  | .sfrz i, ρ => match ρ[i]? with
    | some (.own xs) => .nx (ρ.set i (.shr (.lst xs)))
    | some (.shr p) => .nx ρ
    | _ => .bad
  | .sbrk, ρ => .bk ρ
  | .scnt, ρ => .ct ρ
  | .snil, ρ => .nx ρ
  | .scons s ss, ρ => match evS φ κ cx wf s ρ with
    | .nx ρ' => evS φ κ cx wf ss ρ'
    | o => o
  | _, _ => .bad
/-- a def: how many parameters, how many names, its body -/
structure FnD where
  np : Nat
  ns : Nat
  body : C
def fin : Out → Res RV
  | .ret r => .ok r
  | .nx _ => .ok (.shr .non)
  | .exc c p _ => .exc c p
  | _ => .bad
def startS (d : FnD) (ps : List PV) : List Slot := ps.map Slot.shr ++ List.replicate (d.ns - d.np) Slot.un
def callN (TT : Nat → Option FnD) (κ : Cons) (cx : Nat → Nat → Bool) (wf : Nat) : Nat → Fns
  | 0, _, _ => .bad
  | n + 1, f, ps => match TT f with
    | some d => if Nat.beq ps.length d.np then fin (evS (callN TT κ cx wf n) κ cx wf d.body (startS d ps)) else .bad
    | none => .bad
end Z
end
section
/-! Z: the operations of the small language are those of the machine. -/
namespace Z
open PySem PySem.Spec PyProof.Rows L2
/-- to be read: frozen, or a list of one's own -/
def RepX (K : PySem.W.Frag) (G H : Hp) (v : V) (p : PV) : Prop := Rep K G v p ∨ ∃ a vs xs, v = .ref a ∧ p = .lst xs ∧ H a = some (.lst vs) ∧ Reps K G vs xs
section
variable {K : PySem.W.Frag} {G G' H H' : Hp} {v : V} {p : PV}
theorem RepX.mono (h : RepX K G H v p) (e : Ext G H G' H') : RepX K G' H' v p := by
  rcases h with h | ⟨a, vs, xs, rfl, rfl, h, r⟩
  · exact .inl (h.mono e.gs)
  · exact .inr ⟨a, vs, xs, rfl, rfl, e.hs _ _ h, r.mono e.gs⟩
theorem RepX.int {i : Int} (h : RepX K G H v (.int i)) : v = .int i := by
  rcases h with h | ⟨a, vs, xs, rfl, e, h, r⟩
  · cases h; rfl
  · cases e
theorem RepX.bl {i : Bool} (h : RepX K G H v (.bl i)) : v = .bl i := by
  rcases h with h | ⟨a, vs, xs, rfl, e, h, r⟩
  · cases h; rfl
  · cases e
theorem RepX.non (h : RepX K G H v .non) : v = .non := by
  rcases h with h | ⟨a, vs, xs, rfl, e, h, r⟩
  · cases h; rfl
  · cases e
theorem RepX.str {x : List Nat} (h : RepX K G H v (.str x)) : v = strV x ∧ (∀ c ∈ x, c < 1114112) ∧ x.length ≤ sizeLine := by
  rcases h with h | ⟨a, vs, xs, rfl, e, h, r⟩
  · cases h; exact ⟨rfl, by assumption, by assumption⟩
  · cases e
theorem RepX.tup {xs : List PV} (h : RepX K G H v (.tup xs)) (s : Same G H) : ∃ a vs, v = .ref a ∧ SqT K G a vs ∧ SqT K H a vs ∧ Reps K G vs xs := by
  rcases h with h | ⟨a, vs, xs, rfl, e, h, r⟩
  · cases h with
    | tup q r => exact ⟨_, _, rfl, q, Same.tup s q, r⟩
  · cases e
theorem RepX.lst {xs : List PV} (h : RepX K G H v (.lst xs)) (s : Same G H) : ∃ a vs, v = .ref a ∧ H a = some (.lst vs) ∧ Reps K G vs xs := by
  rcases h with h | ⟨a, vs, xs, rfl, e, h, r⟩
  · cases h with
    | lst q r => exact ⟨_, _, rfl, s _ _ q, r⟩
  · cases e; exact ⟨a, vs, rfl, h, r⟩
theorem RepX.scr {ns : List Int} (h : RepX K G H v (.scr ns)) (s : Same G H) : ∃ a, v = .ref a ∧ SqL K H a (ns.map V.int) := by
  rcases h with h | ⟨a, vs, xs, rfl, e, h, r⟩
  · cases h with
    | scr q => exact ⟨_, rfl, s.seq q⟩
  · cases e
end
theorem sizeLine_is : sizeLine = 16777216 := rfl
theorem fits_le {n : Nat} (h : fits n = true) : n ≤ sizeLine := Nat.le_of_ble_eq_true h
/-- errors: the class with a number, its name; its field's name -/
abbrev Ends1 := Nat → Option PV → Value → Option Addr → Hp → Hp → Prop
/-- what a computation promises: W: what is wanted of an error -/
def GE (K : PySem.W.Frag) (XI : Ends1) (W : WX) (G H : Hp) (σ : L2.St) (r : Res PV) (Q : VK) : Prop := match r with
  | .ok p => ∀ G' H' v, Ext G H G' H' → Rep K G' v p → Q v H'
  | .exc c p => ∀ G' H' cls d, Ext G H G' H' → XI c p cls d G' H' → W cls d σ H'
  | .bad => False
/-- the machine's operation, as it is -/
def opCan (X : Cx) (f : Value → Value → Sem Value) : R2 := fun x y H Q => ∀ (pins : List (Addr × Obj)) (s : Shared) (σ : L2.St) (v u : Value), Inv X pins σ H s → RelV x v → RelV y u → wpAny (model X.prog X.w) X.A (f v u) (EP X pins σ Q) X.xe s
theorem opCan_ok (X : Cx) (f : Value → Value → Sem Value) : OpR X f (opCan X f) := fun pins s σ H x y v u Q I rx ry h => h pins s σ v u I rx ry
theorem opCan_of {X : Cx} {f : Value → Value → Sem Value} {r : R2} (h : OpR X f r) {x y : V} {H : Hp} {Q : VK} (q : r x y H Q) : opCan X f x y H Q := fun pins s σ v u I rx ry => h pins s σ H x y v u Q I rx ry q
def bopE : Bop → Operator
  | .add => .Add | .sub => .Sub | .mul => .Mult | .fdv => .FloorDiv | .mod => .Mod | .pow => .Pow
section
variable {X : Cx} {W : WX} {XI : Ends1} {G H : Hp} {σ : L2.St} {x y : V} {p q : PV} {Q : VK}
theorem GE.now {r : PV} (h : GE X.K XI W G H σ (.ok r) Q) (s : Same G H) {v : V} (rv : Rep X.K G v r) : Q v H := h G H v (Ext.refl s) rv
theorem GE.lay {r : PV} {o : HO} (h : GE X.K XI W G H σ (.ok r) Q) (s : Same G H) {a : Addr} (ha : H a = none) (rv : Rep X.K (upd G a o) (.ref a) r) : Q (.ref a) (upd H a o) := h _ _ _ (Ext.new s ha) rv
theorem repLst {vs : List V} {xs : List PV} {a : Addr} (r : Reps X.K G vs xs) (ha : G a = none) : Rep X.K (upd G a (.lst vs)) (.ref a) (.lst xs) := .lst upd_same (r.mono (same_upd ha))
theorem repTup {vs : List V} {xs : List PV} {a : Addr} (r : Reps X.K G vs xs) (ha : G a = none) : Rep X.K (upd G a (.tup vs)) (.ref a) (.tup xs) := .tup (.inl (.inl upd_same)) (r.mono (same_upd ha))
theorem nil_of {vs : List V} {xs : List PV} (r : Reps X.K G vs xs) (h : vs = []) : xs = [] := by subst h; cases r; rfl
theorem fold_rep (z : List Nat) : ∀ (k : Nat) (acc : List Nat), (List.replicate k z.toArray).foldl (· ++ ·) acc.toArray = (acc ++ (List.replicate k z).flatten).toArray
  | 0, acc => by simp
  | k + 1, acc => by
    rw [List.replicate_succ, List.foldl_cons, List.replicate_succ, List.flatten_cons]
    have e : acc.toArray ++ z.toArray = (acc ++ z).toArray := by simp
    rw [e, fold_rep z k (acc ++ z), List.append_assoc]
theorem rep_len (z : List Nat) : ∀ k : Nat, (List.replicate k z).flatten.length = z.length * k
  | 0 => by simp
  | k + 1 => by
    rw [List.replicate_succ, List.flatten_cons, List.length_append, rep_len z k, Nat.mul_succ, Nat.add_comm]
def rMulS : R2 := fun x y H Q => ∃ (z : List Nat) (k : Int), x = strV z ∧ y = .int k ∧ 0 ≤ k ∧ k ≤ 16777216 ∧ z.length * k.toNat ≤ 16777216 ∧ Q (strV (List.replicate k.toNat z).flatten) H
theorem op_mulS {X : Cx} : OpR X (binaryOp .Mult) rMulS := by
  intro pins s σ H x y v u Q I rx ry h
  obtain ⟨z, k, rfl, rfl, h0, h1, h2, q⟩ := h
  obtain ⟨t, rfl⟩ := rx
  obtain ⟨t', rfl⟩ := ry
  have hl : (⟨z.toArray⟩ : Str).length = z.length := by simp [Str.length]
  have e0 : (List.replicate k.toNat z.toArray).foldl (· ++ ·) #[] = (List.replicate k.toNat z).flatten.toArray := by
    have := fold_rep z k.toNat []
    rwa [List.nil_append] at this
  have lf := rep_len z k.toNat
  refine P.mul_str ?_ (fun n1 n2 => ?_) (fun n1 n2 => ?_) ?_
  · rw [decide_eq_false (by omega), decide_eq_false (by omega)]; rfl
  · rw [hl]
    have hk : 0 < k := by omega
    have hz : (z.length : Int) ≤ 16777216 := by
      have : z.length * 1 ≤ z.length * k.toNat := Nat.mul_le_mul_left _ (by omega)
      omega
    have hd : (16777216 : Int) ≤ (2 ^ 63 - 1) / k := by
      rw [Int.le_ediv_iff_mul_le hk]
      have : (16777216 : Int) * k ≤ 16777216 * 16777216 := Int.mul_le_mul_of_nonneg_left h1 (by decide)
      omega
    omega
  · rw [hl]
    unfold Builtin.Str.tooLong
    exact decide_eq_false (by show ¬ (z.length * k.toNat > 16777216); omega)
  · split
    · have hk : k = 0 := by omega
      subst hk
      exact ⟨by decide, ⟨strV [], H, I.tok _, ⟨_, rfl⟩, q⟩⟩
    · split
      · rename_i hn hh
        rw [hl, Bool.or_eq_true] at hh
        have e : (List.replicate k.toNat z).flatten = z := by
          rcases hh with hh | hh
          · have : k = 1 := eq_of_beq hh
            subst this
            simp
          · have : z.length = 0 := eq_of_beq hh
            have : z = [] := List.eq_nil_of_length_eq_zero this
            subst this
            simp
        rw [e] at q
        exact ⟨strV z, H, I, ⟨_, rfl⟩, q⟩
      · refine ⟨?_, ⟨strV (List.replicate k.toNat z).flatten, H, I.tok _, ⟨s.toks, ?_⟩, q⟩⟩
        · rw [e0]
          show (List.replicate k.toNat z).flatten.toArray.size ≤ sizeLine
          rw [List.size_toArray, lf]
          exact h2
        · rw [e0]
/-- // of wide ints, below nought too -/
theorem op_fdivG {X : Cx} : OpR X (binaryOp .FloorDiv) (rI (fun _ j => j ≠ 0 ∧ j.natAbs.log2 < 9000) fun i j => .int (i.fdiv j)) := opI fun _ _ _ _ _ _ _ hc q => floordiv_int hc.1 q (.inl (PyProof.noPylong_of_log2 hc.2))
theorem bin_ok (op : Bop) (s : Same G H) (rx : RepX X.K G H x p) (ry : RepX X.K G H y q) (h : GE X.K XI W G H σ (binP op p q) Q) : opCan X (binaryOp (bopE op)) x y H Q := by
  unfold binP at h
  split at h
  · -- add ints
    cases rx.int; cases ry.int
    exact opCan_of op_add ⟨_, _, rfl, rfl, h.now s (.int _)⟩
  · -- add strs
    rename_i xa ya
    obtain ⟨rfl, h1, _⟩ := rx.str
    obtain ⟨rfl, h2, _⟩ := ry.str
    split at h
    · rename_i hf
      refine opCan_of op_add_str ⟨_, _, rfl, rfl, ?_, ?_⟩
      · have := fits_le hf
        simpa [Str.length] using this
      · have e : ((⟨xa.toArray⟩ : Str) ++ (⟨ya.toArray⟩ : Str)) = ⟨(xa ++ ya).toArray⟩ := by
          show Str.append _ _ = _
          unfold Str.append
          simp
        rw [e]
        refine h.now s (.str _ (fun c hc => ?_) ?_)
        · rcases List.mem_append.mp hc with hc | hc
          · exact h1 c hc
          · exact h2 c hc
        · rw [List.length_append]; exact fits_le hf
    · exact h.elim
  · -- add tuples
    obtain ⟨a, vs, rfl, sg, sh, r1⟩ := rx.tup s
    obtain ⟨b, ws, rfl, tg, th, r2⟩ := ry.tup s
    split at h
    · rename_i hf
      have hl : vs.length + ws.length ≤ sizeLine := by rw [r1.length, r2.length]; exact fits_le hf
      refine opCan_of op_catA ⟨_, _, _, _, rfl, rfl, sh, th, hl, fun e => ?_, fun _ e => ?_, fun _ _ c hc => ?_⟩
      · have := nil_of r1 e
        subst this
        exact h.now s (.tup tg (by simpa using r2))
      · have := nil_of r2 e
        subst this
        exact h.now s (.tup sg (by simpa using r1))
      · exact h.lay s hc (repTup (r1.append r2) (s.free hc))
    · exact h.elim
  · -- add lists
    obtain ⟨a, vs, rfl, ha, r1⟩ := rx.lst s
    obtain ⟨b, ws, rfl, hb, r2⟩ := ry.lst s
    split at h
    · rename_i hf
      refine opCan_of op_cat ⟨_, _, _, _, rfl, rfl, ha, hb, by rw [r1.length, r2.length]; exact fits_le hf, fun c hc => ?_⟩
      exact h.lay s hc (repLst (r1.append r2) (s.free hc))
    · exact h.elim
  · -- sub
    cases rx.int; cases ry.int
    exact opCan_of op_sub ⟨_, _, rfl, rfl, h.now s (.int _)⟩
  · -- mul
    cases rx.int; cases ry.int
    rename_i a b
    split at h
    · rename_i hf
      unfold mulOk at hf
      simp only [Bool.or_eq_true] at hf
      rcases hf with (hf | hf) | hf
      · have h1 : a.natAbs < 2 ^ 64 := Nat.le_of_ble_eq_true hf
        exact opCan_of op_mul ⟨_, _, rfl, rfl, .inl ⟨by omega, by omega⟩, h.now s (.int _)⟩
      · have h1 : b.natAbs < 2 ^ 64 := Nat.le_of_ble_eq_true hf
        exact opCan_of op_mul ⟨_, _, rfl, rfl, .inr ⟨by omega, by omega⟩, h.now s (.int _)⟩
      · have h1 : a.natAbs.log2 + b.natAbs.log2 < 1000000 := Nat.le_of_ble_eq_true hf
        exact opCan_of op_mulW ⟨_, _, rfl, rfl, h1, h.now s (.int _)⟩
    · exact h.elim
  · -- str * int
    rename_i z k
    obtain ⟨rfl, h1, _⟩ := rx.str
    cases ry.int
    split at h
    · rename_i hf
      simp only [Bool.and_eq_true, decide_eq_true_eq] at hf
      obtain ⟨⟨a1, a2⟩, a3⟩ := hf
      have a2 := Nat.le_of_ble_eq_true a2
      have a3 := fits_le a3
      refine opCan_of op_mulS ⟨z, k, rfl, rfl, a1, by omega, a3, h.now s (.str _ (fun c hc => ?_) ?_)⟩
      · rw [List.mem_flatten] at hc
        obtain ⟨l, hl, hc⟩ := hc
        rw [List.eq_of_mem_replicate hl] at hc
        exact h1 c hc
      · rw [rep_len]
        exact a3
    · exact h.elim
  · -- tup * int
    split at h
    · rename_i hf
      obtain ⟨a, vs, rfl, sg, sh, r1⟩ := rx.tup s
      cases ry.int
      simp only [Bool.and_eq_true, decide_eq_true_eq, Bool.not_eq_true', List.isEmpty_eq_false_iff] at hf
      obtain ⟨⟨⟨h2, h3⟩, h4⟩, h5⟩ := hf
      refine opCan_of op_repT ⟨_, _, _, rfl, rfl, sh, fun e => h5 (nil_of r1 e), h2, h3, by rw [r1.length]; exact Nat.le_of_ble_eq_true h4, fun c hc => ?_⟩
      exact h.lay s hc (repTup (r1.rep _) (s.free hc))
    · exact h.elim
  · -- list * int
    split at h
    · rename_i hf
      obtain ⟨a, vs, rfl, ha, r1⟩ := rx.lst s
      cases ry.int
      simp only [Bool.and_eq_true, decide_eq_true_eq] at hf
      obtain ⟨⟨h2, h3⟩, h4⟩ := hf
      have h5 := Nat.le_of_ble_eq_true h4
      refine opCan_of op_rep ⟨_, _, _, rfl, rfl, ha, by omega, by omega, by rw [r1.length]; exact fits_le h3, fun c hc => ?_⟩
      exact h.lay s hc (repLst (r1.rep _) (s.free hc))
    · exact h.elim
  · -- floordiv
    cases rx.int; cases ry.int
    rename_i a b
    split at h
    · rename_i hf
      unfold divOk at hf
      simp only [Bool.and_eq_true, decide_eq_true_eq] at hf
      exact opCan_of op_fdivG ⟨_, _, rfl, rfl, ⟨hf.1, Nat.le_of_ble_eq_true hf.2⟩, h.now s (.int _)⟩
    · exact h.elim
  · -- mod
    cases rx.int; cases ry.int
    split at h
    · rename_i hf
      exact opCan_of op_modN ⟨_, _, rfl, rfl, of_decide_eq_true hf, h.now s (.int _)⟩
    · exact h.elim
  · -- pow
    cases rx.int; cases ry.int
    split at h
    · rename_i hf
      simp only [Bool.and_eq_true, decide_eq_true_eq] at hf
      exact opCan_of op_pow ⟨_, _, rfl, rfl, ⟨hf.1.1, hf.1.2, Nat.le_of_ble_eq_true hf.2⟩, h.now s (.int _)⟩
    · exact h.elim
  · exact h.elim
end
end Z
end
section
namespace Z
open PySem PySem.Spec PyProof.Rows L2
/-! ### == -/
theorem str_beq (x y : List Nat) : ((⟨x.toArray⟩ : Str) == (⟨y.toArray⟩ : Str)) = (x == y) := by
  by_cases e : x = y
  · subst e; simp
  · have h : ¬ (⟨x.toArray⟩ : Str) = ⟨y.toArray⟩ := fun q => e (by
      have := congrArg (fun s : Str => s.cps.toList) q
      simpa using this)
    rw [beq_eq_false_iff_ne.mpr h, beq_eq_false_iff_ne.mpr e]
mutual
theorem eqv_toD : ∀ (p q : PV) (n m : Nat), dep p n = true → dep q m = true → PyData.eqv (toD p) (toD q) = eqP p q
  | .scr _, _, _, _, h, _ => by simp [dep] at h
  | .non, q, _, _, _, h => by cases q <;> simp_all [toD, eqP, PyData.eqv, dep]
  | .bl _, q, _, _, _, h => by cases q <;> simp_all [toD, eqP, PyData.eqv, dep]
  | .int _, q, _, _, _, h => by cases q <;> simp_all [toD, eqP, PyData.eqv, dep]
  | .str _, q, _, _, _, h => by cases q <;> simp_all [toD, eqP, PyData.eqv, dep, str_beq]
  | .tup xs, q, n, m, h, h' => by
    cases q with
    | tup ys =>
      cases n with
      | zero => simp [dep] at h
      | succ n =>
        cases m with
        | zero => simp [dep] at h'
        | succ m =>
          simp only [dep] at h h'
          simp only [toD, eqP, PyData.eqv]
          exact eqv_toDL xs ys n m h h'
    | scr _ => simp [dep] at h'
    | _ => simp [toD, eqP, PyData.eqv]
  | .lst xs, q, n, m, h, h' => by
    cases q with
    | lst ys =>
      cases n with
      | zero => simp [dep] at h
      | succ n =>
        cases m with
        | zero => simp [dep] at h'
        | succ m =>
          simp only [dep] at h h'
          simp only [toD, eqP, PyData.eqv]
          exact eqv_toDL xs ys n m h h'
    | scr _ => simp [dep] at h'
    | _ => simp [toD, eqP, PyData.eqv]
theorem eqv_toDL : ∀ (xs ys : List PV) (n m : Nat), depL xs n = true → depL ys m = true → PyData.eqvAll (toDL xs) (toDL ys) = eqL xs ys
  | [], [], _, _, _, _ => by simp [toDL, eqL, PyData.eqvAll]
  | [], y :: ys, _, _, _, _ => by simp [toDL, eqL, PyData.eqvAll]
  | x :: xs, [], _, _, _, _ => by simp [toDL, eqL, PyData.eqvAll]
  | x :: xs, y :: ys, n, m, h, h' => by
    simp only [depL, Bool.and_eq_true] at h h'
    simp only [toDL, eqL, PyData.eqvAll]
    rw [eqv_toD x y n m h.1 h'.1, eqv_toDL xs ys n m h.2 h'.2]
end
mutual
theorem dep_depth : ∀ (p : PV) (n : Nat), dep p n = true → (toD p).depth ≤ n
  | .non, _, _ => by simp [toD, PyData.depth]
  | .bl _, _, _ => by simp [toD, PyData.depth]
  | .int _, _, _ => by simp [toD, PyData.depth]
  | .str _, _, _ => by simp [toD, PyData.depth]
  | .scr _, _, h => by simp [dep] at h
  | .tup xs, 0, h => by simp [dep] at h
  | .lst xs, 0, h => by simp [dep] at h
  | .tup xs, n + 1, h => by
    simp only [dep] at h
    have := depL_depth xs n h
    simp only [toD, PyData.depth]; omega
  | .lst xs, n + 1, h => by
    simp only [dep] at h
    have := depL_depth xs n h
    simp only [toD, PyData.depth]; omega
theorem depL_depth : ∀ (xs : List PV) (n : Nat), depL xs n = true → PyData.depthAll (toDL xs) ≤ n
  | [], _, _ => by simp [toDL, PyData.depthAll]
  | x :: xs, n, h => by
    simp only [depL, Bool.and_eq_true] at h
    have h1 := dep_depth x n h.1
    have h2 := depL_depth xs n h.2
    simp only [toDL, PyData.depthAll]; omega
end
section
variable {K : PySem.W.Frag} {G H : Hp}
mutual
theorem Rep.dp (s : Same G H) : ∀ {v : V} {p : PV} {n : Nat}, Rep K G v p → dep p n = true → Dp K H v (toD p) ∧ (toD p).canLay0 = true
  | _, _, _, .non, _ => ⟨.non, rfl⟩
  | _, _, _, .bl b, _ => ⟨.bl b, rfl⟩
  | _, _, _, .int b, _ => ⟨.int b, rfl⟩
  | _, _, _, .str x h _, _ => ⟨.str _, by
      show PyData.strOk _ = true
      unfold PyData.strOk
      simpa using h⟩
  | _, _, n, .tup h r, d => by
    cases n with
    | zero => simp [dep] at d
    | succ n =>
      have q := Reps.dp s (n := n) r (by simpa [dep] using d)
      exact ⟨.tup (Same.tup s h) q.1, by simpa [toD, PyData.canLay0] using q.2⟩
  | _, _, n, .lst h r, d => by
    cases n with
    | zero => simp [dep] at d
    | succ n =>
      have q := Reps.dp s (n := n) r (by simpa [dep] using d)
      exact ⟨.lst (.inl (.inl (s _ _ h))) q.1, by simpa [toD, PyData.canLay0] using q.2⟩
  | _, _, n, .scr _, d => by simp [dep] at d
theorem Reps.dp (s : Same G H) : ∀ {vs : List V} {ps : List PV} {n : Nat}, Reps K G vs ps → depL ps n = true → DpAll K H vs (toDL ps) ∧ PyData.canLayAll0 (toDL ps) = true
  | _, _, _, .nil, _ => ⟨.nil, rfl⟩
  | _, _, n, .cons r t, d => by
    simp only [depL, Bool.and_eq_true] at d
    have q1 := Rep.dp s r d.1
    have q2 := Reps.dp s t d.2
    exact ⟨.cons q1.1 q2.1, by simp only [toDL, PyData.canLayAll0, q1.2, q2.2, Bool.and_self]⟩
end
theorem RepX.dp {v : V} {p : PV} {n : Nat} (s : Same G H) (r : RepX K G H v p) (d : dep p n = true) : Dp K H v (toD p) ∧ (toD p).canLay0 = true := by
  rcases r with r | ⟨a, vs, xs, rfl, rfl, h, r⟩
  · exact r.dp s d
  · cases n with
    | zero => simp [dep] at d
    | succ n =>
      have q := Reps.dp s (n := n) r (by simpa [dep] using d)
      exact ⟨.lst (.inl (.inl h)) q.1, by simpa [toD, PyData.canLay0] using q.2⟩
theorem shaped_of {p : PV} {n : Nat} (h : (toD p).canLay0 = true) (d : dep p n = true) (hn : n ≤ 64) : SeqAt.shaped (toD p) = true := by
  unfold SeqAt.shaped
  rw [h, decide_eq_true (Nat.le_trans (dep_depth p n d) hn)]; rfl
end
theorem any_toDL (x : PV) (n m : Nat) (hx : dep x n = true) : ∀ ys : List PV, depL ys m = true → ((toDL ys).any fun z => PyData.eqv z (toD x)) = inP x ys
  | [], _ => rfl
  | y :: ys, h => by
    simp only [depL, Bool.and_eq_true] at h
    have ih := any_toDL x n m hx ys h.2
    simp only [toDL, inP, List.any_cons]
    rw [eqv_toD y x m n h.1 hx, ih]; rfl
def copE : Cop → CmpOp
  | .eq => .Eq | .ne => .NotEq | .lt => .Lt | .le => .LtE | .gt => .Gt | .ge => .GtE | .isn => .Is | .nisn => .IsNot | .inn => .In | .nin => .NotIn
section
variable {X : Cx} {W : WX} {XI : Ends1} {G H : Hp} {σ : L2.St} {x y : V} {p q : PV} {Q : VK}
theorem flat_rep {v : V} {p : PV} (r : RepX X.K G H v p) (h : flatP p = true) : flatV v = true ∧ Rep X.K G v p := by
  rcases r with r | ⟨a, vs, xs, rfl, rfl, _⟩
  · refine ⟨?_, r⟩
    cases r <;> first | rfl | simp [flatP] at h
  · simp [flatP] at h
theorem eqV_flat {v u : V} {p q : PV} (r : Rep X.K G v p) (r' : Rep X.K G u q) (h : flatP p = true) (h' : flatP q = true) : eqV v u = eqP p q := by
  cases r <;> cases r' <;> simp_all [eqV, eqP, flatP, str_beq]
theorem flatR : ∀ {vs : List V} {ps : List PV}, Reps X.K G vs ps → ps.all flatP = true → vs.all flatV = true
  | _, _, .nil, _ => rfl
  | _, _, .cons r t, h => by
    simp only [List.all_cons, Bool.and_eq_true] at h ⊢
    exact ⟨(flat_rep (H := G) (.inl r) h.1).1, flatR t h.2⟩
theorem inV_flat (rx : Rep X.K G x p) (hx : flatP p = true) : ∀ {vs : List V} {ps : List PV}, Reps X.K G vs ps → ps.all flatP = true → inV x vs = inP p ps
  | _, _, .nil, _ => rfl
  | _, _, .cons r t, h => by
    simp only [List.all_cons, Bool.and_eq_true] at h
    have ih := inV_flat rx hx t h.2
    simp only [inV, inP, List.any_cons] at ih ⊢
    rw [ih, eqV_flat r rx h.1 hx]
theorem isNone_rep (r : RepX X.K G H x p) : decide (x = .non) = isNon p := by
  rcases r with r | ⟨a, vs, xs, rfl, rfl, _⟩
  · cases r <;> rfl
  · rfl
theorem cmp_ok (op : Cop) (hu : X.A.units + 65 < cLine) (s : Same G H) (rx : RepX X.K G H x p) (ry : RepX X.K G H y q) (h : GE X.K XI W G H σ (cmpP op p q) Q) : opCan X (compareOp (copE op)) x y H Q := by
  unfold cmpP at h
  split at h
  · split at h
    · rename_i hd
      simp only [Bool.and_eq_true] at hd
      have d1 := rx.dp s hd.1
      have d2 := ry.dp s hd.2
      refine opCan_of (op_eqD (by omega)) ⟨_, _, d1.1, d2.1, shaped_of d1.2 hd.1 (by decide), shaped_of d2.2 hd.2 (by decide), ?_⟩
      rw [eqv_toD _ _ _ _ hd.1 hd.2]
      exact h.now s (.bl _)
    · exact h.elim
  · split at h
    · rename_i hd
      simp only [Bool.and_eq_true] at hd
      have d1 := rx.dp s hd.1
      have d2 := ry.dp s hd.2
      refine opCan_of (op_neD (by omega)) ⟨_, _, d1.1, d2.1, shaped_of d1.2 hd.1 (by decide), shaped_of d2.2 hd.2 (by decide), ?_⟩
      rw [eqv_toD _ _ _ _ hd.1 hd.2]
      exact h.now s (.bl _)
    · exact h.elim
  · cases rx.int; cases ry.int
    exact opCan_of op_lt ⟨_, _, rfl, rfl, h.now s (.bl _)⟩
  · cases rx.int; cases ry.int
    exact opCan_of op_le ⟨_, _, rfl, rfl, h.now s (.bl _)⟩
  · cases rx.int; cases ry.int
    exact opCan_of op_gt ⟨_, _, rfl, rfl, h.now s (.bl _)⟩
  · cases rx.int; cases ry.int
    exact opCan_of op_ge ⟨_, _, rfl, rfl, h.now s (.bl _)⟩
  · obtain ⟨rfl, _⟩ := rx.str; obtain ⟨rfl, _⟩ := ry.str
    exact opCan_of op_lt_str ⟨_, _, rfl, rfl, h.now s (.bl _)⟩
  · obtain ⟨rfl, _⟩ := rx.str; obtain ⟨rfl, _⟩ := ry.str
    exact opCan_of op_le_str ⟨_, _, rfl, rfl, h.now s (.bl _)⟩
  · obtain ⟨rfl, _⟩ := rx.str; obtain ⟨rfl, _⟩ := ry.str
    exact opCan_of op_gt_str ⟨_, _, rfl, rfl, h.now s (.bl _)⟩
  · obtain ⟨rfl, _⟩ := rx.str; obtain ⟨rfl, _⟩ := ry.str
    exact opCan_of op_ge_str ⟨_, _, rfl, rfl, h.now s (.bl _)⟩
  · cases ry.non
    refine opCan_of op_isN ⟨rfl, ?_⟩
    rw [isNone_rep rx]
    exact h.now s (.bl _)
  · cases ry.non
    refine opCan_of op_notN ⟨rfl, ?_⟩
    rw [isNone_rep rx]
    exact h.now s (.bl _)
  · obtain ⟨rfl, _⟩ := rx.str; obtain ⟨rfl, _⟩ := ry.str
    exact opCan_of op_in_sign ⟨_, _, rfl, rfl, h.now s (.bl _)⟩
  · obtain ⟨rfl, _⟩ := rx.str; obtain ⟨rfl, _⟩ := ry.str
    exact opCan_of op_notIn_sign ⟨_, _, rfl, rfl, h.now s (.bl _)⟩
  · split at h
    · rename_i ys hd
      simp only [Bool.and_eq_true] at hd
      have d1 := rx.dp s hd.1
      have hl : dep (.lst ys) 21 = true := by simpa [dep] using hd.2
      have d2 := ry.dp s hl
      refine opCan_of (op_inD hu) ⟨_, _, d1.1, d2.1, shaped_of d1.2 hd.1 (by decide), shaped_of d2.2 hl (by decide), ?_⟩
      rw [any_toDL _ _ _ hd.1 _ hd.2]
      exact h.now s (.bl _)
    · exact h.elim
  · split at h
    · rename_i ys hd
      simp only [Bool.and_eq_true] at hd
      have d1 := rx.dp s hd.1
      have hl : dep (.lst ys) 21 = true := by simpa [dep] using hd.2
      have d2 := ry.dp s hl
      refine opCan_of (op_notInD hu) ⟨_, _, d1.1, d2.1, shaped_of d1.2 hd.1 (by decide), shaped_of d2.2 hl (by decide), ?_⟩
      rw [any_toDL _ _ _ hd.1 _ hd.2]
      exact h.now s (.bl _)
    · exact h.elim
  · split at h
    · rename_i hd
      simp only [Bool.and_eq_true] at hd
      obtain ⟨a, vs, rfl, _, sh, r⟩ := ry.tup s
      have fx := flat_rep rx hd.1
      refine opCan_of op_in_seq ⟨_, _, rfl, .inr sh, fx.1, flatR r hd.2, ?_⟩
      rw [inV_flat fx.2 hd.1 r hd.2]
      exact h.now s (.bl _)
    · exact h.elim
  · split at h
    · rename_i hd
      simp only [Bool.and_eq_true] at hd
      obtain ⟨a, vs, rfl, _, sh, r⟩ := ry.tup s
      have fx := flat_rep rx hd.1
      refine opCan_of op_notIn_seq ⟨_, _, rfl, .inr sh, fx.1, flatR r hd.2, ?_⟩
      rw [inV_flat fx.2 hd.1 r hd.2]
      exact h.now s (.bl _)
    · exact h.elim
  · exact h.elim
/-! ### truth -/
theorem tru_rep (s : Same G H) (r : RepX X.K G H x p) {b : Bool} (h : truP p = .ok b) : TruV X.K x H b := by
  cases p with
  | non => cases r.non; cases h; rfl
  | bl c => cases r.bl; cases h; rfl
  | int i => cases r.int; cases h; rfl
  | str z =>
    obtain ⟨rfl, _, hl⟩ := r.str
    cases h
    refine ⟨by simpa [Str.length] using hl, ?_⟩
    cases z with
    | nil => rfl
    | cons c z =>
      show true = _
      simp [Str.length]
      omega
  | tup xs =>
    obtain ⟨a, vs, rfl, _, sh, rr⟩ := r.tup s
    cases h
    refine .inr (.inl ⟨vs, sh, ?_⟩)
    cases rr <;> rfl
  | lst xs =>
    obtain ⟨a, vs, rfl, sh, rr⟩ := r.lst s
    cases h
    refine .inl ⟨vs, .inl (.inl sh), ?_⟩
    cases rr <;> rfl
  | scr ns => cases h
theorem truP_exc {p : PV} {c : Nat} {o : Option PV} : truP p ≠ .exc c o := by cases p <;> exact fun h => nomatch h
end
end Z
end
section
namespace Z
open PySem PySem.Spec PyProof.Rows L2
section
variable {X : Cx} {W : WX} {XI : Ends1} {G H : Hp} {σ : L2.St} {x y : V} {p q : PV} {Q : VK}
/-! ### subscripts -/
def ixCan (X : Cx) : R2 := fun x y H Q => ∀ (value slice : Expr) (pins : List (Addr × Obj)) (s : Shared) (σ : L2.St) (v u : Value), Inv X pins σ H s → RelV x v → RelV y u → subscripted slice false v u = operate [v, u] (getItem v u) →
  wpAny (model X.prog X.w) X.A (subscriptTail value slice v u) (EP X pins σ Q) X.xe s
theorem ixCan_ok (X : Cx) : IxR X (ixCan X) := fun value slice pins s σ H x y v u Q I rx ry h hs => h value slice pins s σ v u I rx ry hs
theorem ixCan_of {r : R2} (h : IxR X r) (q : r x y H Q) : ixCan X x y H Q := fun value slice pins s σ v u I rx ry hs => h value slice pins s σ H x y v u Q I rx ry q hs
theorem Reps.atI {K : PySem.W.Frag} {vs : List V} {ps : List PV} {i : Int} {p : PV} (r : Reps K G vs ps) (h : L2.atI ps i = some p) : ∃ v, L2.atI vs i = some v ∧ Rep K G v p := by
  unfold L2.atI at h ⊢
  rw [r.length]
  cases e : ixN ps.length i with
  | none => rw [e] at h; cases h
  | some j =>
    rw [e] at h
    exact r.get h
theorem atI_map {α β : Type} (f : α → β) (xs : List α) (i : Int) : L2.atI (xs.map f) i = (L2.atI xs i).map f := by
  unfold L2.atI
  rw [List.length_map]
  cases ixN xs.length i with
  | none => rfl
  | some j => simp
theorem atI_mem {α : Type} {xs : List α} {i : Int} {c : α} (h : L2.atI xs i = some c) : c ∈ xs := by
  unfold L2.atI at h
  cases e : ixN xs.length i with
  | none => rw [e] at h; cases h
  | some j => rw [e] at h; exact List.mem_of_getElem? h
theorem ix_ok (s : Same G H) (rx : RepX X.K G H x p) (ry : RepX X.K G H y q) (h : GE X.K XI W G H σ (ixP p q) Q) : ixCan X x y H Q := by
  unfold ixP at h
  split at h
  · cases ry.int
    obtain ⟨a, vs, rfl, _, sh, r⟩ := rx.tup s
    split at h
    · rename_i e
      obtain ⟨v, h1, h2⟩ := r.atI e
      exact ixCan_of ix_tup ⟨_, _, _, _, rfl, rfl, sh, h1, h.now s h2⟩
    · exact h.elim
  · cases ry.int
    obtain ⟨a, vs, rfl, sh, r⟩ := rx.lst s
    split at h
    · rename_i e
      obtain ⟨v, h1, h2⟩ := r.atI e
      exact ixCan_of ix_list ⟨_, _, _, _, rfl, rfl, .inl (.inl sh), h1, h.now s h2⟩
    · exact h.elim
  · cases ry.int
    obtain ⟨rfl, h1, h2⟩ := rx.str
    split at h
    · rename_i e
      refine ixCan_of ix_str ⟨_, _, _, rfl, rfl, by simpa [Str.length] using h2, by simpa using e, h.now s (.str [_] (fun c hc => ?_) ?_)⟩
      · rcases List.mem_singleton.mp hc with rfl
        exact h1 _ (atI_mem e)
      · exact (by decide : 1 ≤ 16777216)
    · exact h.elim
  · cases ry.int
    obtain ⟨a, rfl, sh⟩ := rx.scr s
    split at h
    · rename_i e
      refine ixCan_of ix_list ⟨_, _, _, _, rfl, rfl, sh, ?_, h.now s (.int _)⟩
      rw [atI_map, e]; rfl
    · exact h.elim
  · exact h.elim
/-! ### slices -/
def slCan (X : Cx) : V → Option Int → Option Int → Hp → VK → Prop := fun x lo hi H Q => ∀ (pins : List (Addr × Obj)) (s : Shared) (σ : L2.St) (v vl vu : Value) (sl : Addr), Inv X pins σ H s → RelV x v → s.heap.IsSliceOf sl vl vu .none → IsPart vl lo → IsPart vu hi →
  ∃ T id, typeLookup (.type T) "__getitem__" = pure (some (.builtin id)) ∧ s.TypeIs v T ∧ wpAny (model X.prog X.w) X.A (getItem v (.ref sl)) (EP X pins σ Q) X.xe s
theorem slCan_ok (X : Cx) : SlR X (slCan X) := fun pins s σ H x v vl vu lo hi sl Q I rx hs p1 p2 h => h pins s σ v vl vu sl I rx hs p1 p2
theorem slCan_of {r : V → Option Int → Option Int → Hp → VK → Prop} (h : SlR X r) {lo hi : Option Int} (q : r x lo hi H Q) : slCan X x lo hi H Q := fun pins s σ v vl vu sl I rx hs p1 p2 => h pins s σ H x v vl vu lo hi sl Q I rx hs p1 p2 q
theorem Reps.cut {K : PySem.W.Frag} {vs : List V} {ps : List PV} (r : Reps K G vs ps) (lo hi : Option Int) : Reps K G (cutV vs lo hi) (cutP ps lo hi) := by
  unfold cutV cutP
  rw [r.length]
  exact (r.drop _).take _
theorem cut_whole {α : Type} (xs : List α) (lo hi : Option Int) (h : HT.sIx xs.length 0 lo = 0 ∧ HT.sIx xs.length xs.length hi = xs.length) : cutP xs lo hi = xs := by
  unfold cutP
  rw [h.1, h.2]
  simp
theorem cut_mem {α : Type} {xs : List α} {lo hi : Option Int} {c : α} (h : c ∈ cutP xs lo hi) : c ∈ xs := List.mem_of_mem_drop (List.mem_of_mem_take h)
theorem cut_len {α : Type} (xs : List α) (lo hi : Option Int) : (cutP xs lo hi).length ≤ xs.length := by
  unfold cutP
  rw [List.length_take, List.length_drop]
  omega
theorem cutS_is (xs : List Nat) (lo hi : Option Int) : cutS ⟨xs.toArray⟩ lo hi = ⟨(cutP xs lo hi).toArray⟩ := by
  unfold cutS cutP
  simp [Str.length]
theorem sl_ok (s : Same G H) (rx : RepX X.K G H x p) (lo hi : Option Int)
    (h : GE X.K XI W G H σ (slV p lo hi) Q) : slCan X x lo hi H Q := by
  unfold slV at h
  split at h
  · obtain ⟨a, vs, rfl, sg, sh, r⟩ := rx.tup s
    refine slCan_of sl_tupA ⟨_, _, rfl, sh, fun e => ?_, fun _ c hc => ?_⟩
    · rw [r.length] at e
      rw [cut_whole _ _ _ e] at h
      exact h.now s (.tup sg r)
    · exact h.lay s hc (repTup (r.cut lo hi) (s.free hc))
  · obtain ⟨a, vs, rfl, sh, r⟩ := rx.lst s
    refine slCan_of sl_list ⟨_, _, rfl, .inl (.inl sh), fun c hc => ?_⟩
    exact h.lay s hc (repLst (r.cut lo hi) (s.free hc))
  · obtain ⟨rfl, h1, h2⟩ := rx.str
    refine slCan_of sl_str ⟨_, rfl, by simpa [Str.length] using h2, ?_⟩
    rw [cutS_is]
    exact h.now s (.str _ (fun c hc => h1 c (cut_mem hc)) (Nat.le_trans (cut_len _ _ _) h2))
  · exact h.elim
/-! ### calls of built-ins -/
def callCan (X : Cx) (f : Value) : List V → Hp → VK → Prop := fun xs H Q => ∀ (pins : List (Addr × Obj)) (s : Shared) (σ : L2.St) (us : List Value), Inv X pins σ H s → Vals xs us → wpAny (model X.prog X.w) X.A (call f us) (EP X pins σ Q) X.xe s
theorem callCan_ok (X : Cx) (f : Value) : CallR X f (callCan X f) := fun pins s σ H xs us Q I rs h => h pins s σ us I rs
theorem callCan_of {f : Value} {r : List V → Hp → VK → Prop} (h : CallR X f r) {xs : List V} (q : r xs H Q) : callCan X f xs H Q := fun pins s σ us I rs => h pins s σ H xs us Q I rs q
inductive RepXs (K : PySem.W.Frag) (G H : Hp) : List V → List PV → Prop
  | nil : RepXs K G H [] []
  | cons {v : V} {vs : List V} {p : PV} {ps : List PV} : RepX K G H v p → RepXs K G H vs ps → RepXs K G H (v :: vs) (p :: ps)
theorem RepXs.mono {K : PySem.W.Frag} {G' H' : Hp} (e : Ext G H G' H') : ∀ {vs : List V} {ps : List PV}, RepXs K G H vs ps → RepXs K G' H' vs ps
  | _, _, .nil => .nil
  | _, _, .cons r t => .cons (r.mono e) (RepXs.mono e t)
theorem Reps.toX {K : PySem.W.Frag} : ∀ {vs : List V} {ps : List PV}, Reps K G vs ps → RepXs K G H vs ps
  | _, _, .nil => .nil
  | _, _, .cons r t => .cons (.inl r) (Reps.toX t)
def biV : Bi → Value
  | .len => .builtin "len" | .abs => .builtin "abs" | .min2 => .builtin "min" | .max2 => .builtin "max" | .min1 => .builtin "min" | .max1 => .builtin "max" | .sum => .builtin "sum"
  | .int => .type "int" | .tuple => .type "tuple" | .list => .type "list" | .sorted => .builtin "sorted"
theorem ints_rep {K : PySem.W.Frag} : ∀ {vs : List V} {ps : List PV} {ns : List Int}, Reps K G vs ps → intsP ps = some ns → vs = ns.map V.int
  | _, _, _, .nil, h => by cases h; rfl
  | _, p :: ps, ns, .cons r t, h => by
    cases p with
    | int i =>
      simp only [intsP, Option.map_eq_some_iff] at h
      obtain ⟨ms, h1, rfl⟩ := h
      cases r
      rw [ints_rep t h1]; rfl
    | _ => simp [intsP] at h
theorem maxL_ge : ∀ (ns : List Int) (m : Int), m ≤ maxL m ns ∧ (∀ y ∈ ns, y ≤ maxL m ns) ∧ (maxL m ns = m ∨ maxL m ns ∈ ns)
  | [], m => ⟨Int.le_refl _, by simp, .inl rfl⟩
  | x :: r, m => by
    have ih := maxL_ge r (if m < x then x else m)
    simp only [maxL]
    refine ⟨?_, fun y hy => ?_, ?_⟩
    · have := ih.1
      split at this <;> omega
    · rcases List.mem_cons.mp hy with rfl | hy
      · have := ih.1
        split at this <;> omega
      · exact ih.2.1 y hy
    · rcases ih.2.2 with e | e
      · rw [e]
        split
        · exact .inr List.mem_cons_self
        · exact .inl rfl
      · exact .inr (List.mem_cons_of_mem _ e)
theorem minL_le : ∀ (ns : List Int) (m : Int), minL m ns ≤ m ∧ (∀ y ∈ ns, minL m ns ≤ y) ∧ (minL m ns = m ∨ minL m ns ∈ ns)
  | [], m => ⟨Int.le_refl _, by simp, .inl rfl⟩
  | x :: r, m => by
    have ih := minL_le r (if x < m then x else m)
    simp only [minL]
    refine ⟨?_, fun y hy => ?_, ?_⟩
    · have := ih.1
      split at this <;> omega
    · rcases List.mem_cons.mp hy with rfl | hy
      · have := ih.1
        split at this <;> omega
      · exact ih.2.1 y hy
    · rcases ih.2.2 with e | e
      · rw [e]
        split
        · exact .inr List.mem_cons_self
        · exact .inl rfl
      · exact .inr (List.mem_cons_of_mem _ e)
/-! sorted of data, min and max of tuples -/
theorem vals_of_each : ∀ {bs : List (V × PV)} {us : List Value}, PySem.W.EachIs (fun u (b : V × PV) => RelV b.1 u) us bs → Vals (bs.map (·.1)) us
  | _, _, .nil => .nil
  | _, _, .cons r t => .cons r (vals_of_each t)
theorem each_of_reps {K : PySem.W.Frag} {G : Hp} : ∀ {vs : List V} {ps : List PV} {us : List Value}, Reps K G vs ps → Vals vs us → ∃ bs : List (V × PV), bs.map (·.1) = vs ∧ bs.map (·.2) = ps ∧ (∀ b ∈ bs, Rep K G b.1 b.2) ∧ PySem.W.EachIs (fun u (b : V × PV) => RelV b.1 u) us bs
  | _, _, _, .nil, .nil => ⟨[], rfl, rfl, fun b hb => absurd hb List.not_mem_nil, .nil⟩
  | _, _, _, .cons (v := v) (p := p) r t, .cons ru tu => by
    obtain ⟨bs, h1, h2, h3, h4⟩ := each_of_reps t tu
    refine ⟨(v, p) :: bs, by rw [List.map_cons, h1], by rw [List.map_cons, h2], fun b hb => ?_, .cons ru h4⟩
    rcases List.mem_cons.mp hb with rfl | hb
    · exact r
    · exact h3 b hb
theorem reps_of_each {K : PySem.W.Frag} {G : Hp} : ∀ {bs : List (V × PV)}, (∀ b ∈ bs, Rep K G b.1 b.2) → Reps K G (bs.map (·.1)) (bs.map (·.2))
  | [], _ => .nil
  | b :: bs, h => .cons (h b (List.mem_cons_self ..)) (reps_of_each fun c hc => h c (List.mem_cons_of_mem _ hc))
theorem depL_mem {xs : List PV} {n : Nat} (h : depL xs n = true) : ∀ x ∈ xs, dep x n = true := by
  induction xs with
  | nil => exact fun x hx => absurd hx List.not_mem_nil
  | cons y ys ih =>
    intro x hx
    have h' : (dep y n && depL ys n) = true := h
    rw [Bool.and_eq_true] at h'
    rcases List.mem_cons.mp hx with rfl | hx
    · exact h'.1
    · exact ih h'.2 x hx
def rSortedD (K : PySem.W.Frag) : List V → Hp → VK → Prop := fun vs H Q => ∃ (a : Addr) (xs : List V) (ps : List PV) (G : Hp), vs = [V.ref a] ∧ SqL K H a xs ∧ Same G H ∧ Reps K G xs ps ∧ sortOk ps = true ∧
  ∀ (ys : List V) (p : Addr), Reps K G ys (ps.mergeSort (PySem.W.dataLe false toD)) → H p = none → Q (.ref p) (upd H p (.lst ys))
theorem each_mem {R : Value → (V × PV) → Prop} : ∀ {us : List Value} {bs : List (V × PV)}, PySem.W.EachIs R us bs → PySem.W.EachIs (fun u b => R u b ∧ b ∈ bs) us bs := by
  intro us bs h
  have key : ∀ {us : List Value} {bs cs : List (V × PV)}, (∀ b ∈ bs, b ∈ cs) → PySem.W.EachIs R us bs → PySem.W.EachIs (fun u b => R u b ∧ b ∈ cs) us bs := by
    intro us bs cs hs h
    induction h with
    | nil => exact .nil
    | cons r _ ih => exact .cons ⟨r, hs _ (List.mem_cons_self ..)⟩ (ih fun c hc => hs c (List.mem_cons_of_mem _ hc))
  exact key (fun b hb => hb) h
theorem cr_sortedD (hu : X.A.units + 65 < cLine) : CallR X (.builtin "sorted") (rSortedD X.K) := by
  intro pins s σ H vs us Q I r h
  obtain ⟨a, xs, ps, G, rfl, hs, sm, rr, ok, q⟩ := h
  obtain ⟨its, rv, hl, hz⟩ := I.list hs
  rw [Vals.ref1 r]
  obtain ⟨bs, e1, e2, e3, e4⟩ := each_of_reps rr rv
  unfold sortOk at ok
  simp only [Bool.and_eq_true] at ok
  obtain ⟨⟨o1, o2⟩, o3⟩ := ok
  have dp : ∀ b ∈ bs, dep b.2 20 = true := fun b hb => depL_mem o1 _ (by rw [← e2]; exact List.mem_map.mpr ⟨b, hb, rfl⟩)
  have emap : bs.map (fun b => toD b.2) = ps.map toD := by rw [← e2, List.map_map]; rfl
  refine PySem.W.sorted_data (bs := bs) (enc := fun b => toD b.2) (R := fun u (b : V × PV) => RelV b.1 u) hl.isList e4 ?_ ?_ ?_ ?_ (fun b hb => ?_) fun out ho h1 => ?_
  · refine (each_mem e4).mono fun u b ⟨ru, hb⟩ => ?_
    exact Dp.reads I (toD b.2) b.1 u (Rep.dp sm (e3 b hb) (dp b hb)).1 ru
  · rw [emap]
    intro d hd d' hd'
    obtain ⟨p, hp, rfl⟩ := List.mem_map.mp hd
    obtain ⟨p', hp', rfl⟩ := List.mem_map.mp hd'
    rw [List.all_eq_true] at o2
    have := o2 p hp
    rw [List.all_eq_true] at this
    exact this p' hp'
  · rw [emap]
    rw [Bool.or_eq_true] at o3
    rcases o3 with o3 | o3
    · left
      intro d hd
      obtain ⟨p, hp, rfl⟩ := List.mem_map.mp hd
      rw [List.all_eq_true] at o3
      have := o3 p hp
      cases p with
      | tup ys => cases ys with
        | nil => cases this
        | cons y ys => exact ⟨_, _, rfl⟩
      | _ => cases this
    · right
      intro d hd
      obtain ⟨p, hp, rfl⟩ := List.mem_map.mp hd
      rw [List.all_eq_true] at o3
      have := o3 p hp
      cases p with
      | tup _ => cases this
      | non => cases this
      | scr _ => cases this
      | _ => exact ⟨by simp [toD], fun xs => by simp [toD]⟩
  · rw [← e1, List.length_map] at hz
    exact hz
  · have := dep_depth b.2 20 (dp b hb)
    show X.A.units + 2 + (toD b.2).depth < cLine
    omega
  · obtain ⟨ep, he'⟩ := PyProof.Rows.sortedAll_at s.heap its out.toArray
    have hv := vals_of_each h1
    have hr : Reps X.K G ((bs.mergeSort (PySem.W.dataLe false fun b => toD b.2)).map (·.1)) (ps.mergeSort (PySem.W.dataLe false toD)) := by
      have := reps_of_each (K := X.K) (G := G) (bs := bs.mergeSort (PySem.W.dataLe false fun b => toD b.2)) fun b hb => e3 b ((List.mergeSort_perm ..).mem_iff.mp hb)
      have em : (bs.mergeSort (PySem.W.dataLe false fun b => toD b.2)).map (·.2) = ps.mergeSort (PySem.W.dataLe false toD) := by
        rw [← e2]
        exact List.map_mergeSort fun _ _ _ _ => rfl
      rw [em] at this
      exact this
    have hlen : ((bs.mergeSort (PySem.W.dataLe false fun b => toD b.2)).map (·.1)).length ≤ sizeLine := by
      rw [List.length_map, (List.mergeSort_perm ..).length_eq]
      rw [← e1, List.length_map] at hz
      exact hz
    exact ⟨.ref _, upd H (s.heap.objs.size + 1) (.lst _), I.laid (t' := s.toks) (fun _ _ => PyProof.Rows.sortedAll_old) (Nat.le_succ _) ⟨hlen, out, ep, hv, he'⟩, rfl, q _ _ hr (I.hok.fresh (Nat.le_succ _))⟩
theorem alike_ints : ∀ (x : Int) (xs : List Int), PySem.W.AlikeAll (PyData.int x :: xs.map PyData.int) := fun x xs => by
  refine ⟨fun a ha b hb => ?_, fun a ha => ?_⟩
  · have h : ∀ d ∈ PyData.int x :: xs.map PyData.int, ∃ i, d = .int i := fun d hd => by
      rcases List.mem_cons.mp hd with rfl | hd
      · exact ⟨_, rfl⟩
      · obtain ⟨i, _, rfl⟩ := List.mem_map.mp hd; exact ⟨_, rfl⟩
    obtain ⟨i, rfl⟩ := h a ha
    obtain ⟨j, rfl⟩ := h b hb
    rfl
  · rcases List.mem_cons.mp ha with rfl | ha
    · exact fun z => nomatch z
    · obtain ⟨i, _, rfl⟩ := List.mem_map.mp ha; exact fun z => nomatch z
theorem depth_ints : ∀ (xs : List Int), PyData.depthAll (xs.map PyData.int) = 0
  | [] => rfl
  | x :: xs => by
    show max (PyData.depth (.int x)) (PyData.depthAll (xs.map PyData.int)) = 0
    rw [depth_ints xs]
    rfl
theorem minL_fold : ∀ (ns : List Int) (n : Int), ns.foldl min n = minL n ns
  | [], _ => rfl
  | x :: r, n => by
    rw [List.foldl_cons, minL_fold r]
    show minL (min n x) r = minL (if x < n then x else n) r
    congr 1
    split <;> omega
theorem maxL_fold : ∀ (ns : List Int) (n : Int), ns.foldl max n = maxL n ns
  | [], _ => rfl
  | x :: r, n => by
    rw [List.foldl_cons, maxL_fold r]
    show maxL (max n x) r = maxL (if n < x then x else n) r
    congr 1
    split <;> omega
theorem reads_ints {h : Heap} : ∀ {us : List Value} {ns : List Int}, Vals (ns.map V.int) us → ∃ as, ReadsAll h us (ns.map PyData.int) as
  | _, [], .nil => ⟨_, .nil⟩
  | _, n :: ns, .cons r t => by
    obtain ⟨as, ra⟩ := reads_ints t
    obtain ⟨tk, rfl⟩ := r
    exact ⟨_, .cons (.int _ _) ra⟩
def rMinT (K : PySem.W.Frag) (f : Int → List Int → Int) : List V → Hp → VK → Prop := fun vs H Q => ∃ (a : Addr) (n : Int) (ns : List Int), vs = [V.ref a] ∧ SqT K H a ((n :: ns).map V.int) ∧ Q (.int (f n ns)) H
theorem cr_minT (hc : X.calm = true) (hu : X.A.units + 65 < cLine) : CallR X (.builtin "min") (rMinT X.K minL) := by
  intro pins s σ H vs us Q I r h
  obtain ⟨a, n, ns, rfl, hs, q⟩ := h
  obtain ⟨its, rv, ht, hz⟩ := I.tuple hs
  rw [Vals.ref1 r]
  obtain ⟨as, ra⟩ := reads_ints (h := s.heap) rv
  obtain ⟨o, ho, hcl, n', hd⟩ := ht
  refine PySem.W.min_tuple_data (I.ok.hd hc) ⟨o, ho, hcl, n', hd⟩ (x := .int n) (xs := ns.map .int) (as := as) (by simpa using ra) (alike_ints n ns) ?_ fun i v h' tk bs hv hr hk => ?_
  · have := depth_ints (n :: ns)
    rw [List.map_cons] at this
    rw [this]; omega
  · rw [PySem.W.minD_ints, minL_fold] at hr
    cases hr
    exact ⟨.int _, H, I.kept hk, ⟨_, rfl⟩, q⟩
theorem cr_maxT (hc : X.calm = true) (hu : X.A.units + 65 < cLine) : CallR X (.builtin "max") (rMinT X.K maxL) := by
  intro pins s σ H vs us Q I r h
  obtain ⟨a, n, ns, rfl, hs, q⟩ := h
  obtain ⟨its, rv, ht, hz⟩ := I.tuple hs
  rw [Vals.ref1 r]
  obtain ⟨as, ra⟩ := reads_ints (h := s.heap) rv
  obtain ⟨o, ho, hcl, n', hd⟩ := ht
  refine PySem.W.max_tuple_data (I.ok.hd hc) ⟨o, ho, hcl, n', hd⟩ (x := .int n) (xs := ns.map .int) (as := as) (by simpa using ra) (alike_ints n ns) ?_ fun i v h' tk bs hv hr hk => ?_
  · have := depth_ints (n :: ns)
    rw [List.map_cons] at this
    rw [this]; omega
  · rw [PySem.W.maxD_ints, maxL_fold] at hr
    cases hr
    exact ⟨.int _, H, I.kept hk, ⟨_, rfl⟩, q⟩
theorem bi_ok (b : Bi) (hc : X.calm = true) (hu : X.A.units + 65 < cLine) (s : Same G H) {vs : List V} {ps : List PV} (rs : RepXs X.K G H vs ps) (h : GE X.K XI W G H σ (biP b ps) Q) : callCan X (biV b) vs H Q := by
  unfold biP at h
  split at h
  · cases rs with
    | cons r t =>
      cases t
      obtain ⟨rfl, _, hl⟩ := r.str
      refine callCan_of call_len_str ⟨_, rfl, by simpa [Str.length] using hl, ?_⟩
      have e : (Str.length ⟨(‹List Nat›).toArray⟩ : Int) = ((‹List Nat›).length : Int) := by simp [Str.length]
      rw [e]
      exact h.now s (.int _)
  · cases rs with
    | cons r t =>
      cases t
      obtain ⟨a, vs, rfl, _, sh, rr⟩ := r.tup s
      refine callCan_of call_len_seq ⟨_, _, rfl, .inr sh, ?_⟩
      rw [rr.length]
      exact h.now s (.int _)
  · cases rs with
    | cons r t =>
      cases t
      obtain ⟨a, vs, rfl, sh, rr⟩ := r.lst s
      refine callCan_of call_len_seq ⟨_, _, rfl, .inl (.inl (.inl sh)), ?_⟩
      rw [rr.length]
      exact h.now s (.int _)
  · cases rs with
    | cons r t =>
      cases t
      obtain ⟨a, rfl, sh⟩ := r.scr s
      refine callCan_of call_len_seq ⟨_, _, rfl, .inl sh, ?_⟩
      rw [List.length_map]
      exact h.now s (.int _)
  · cases rs with
    | cons r t =>
      cases t; cases r.int
      exact callCan_of call_abs ⟨_, rfl, h.now s (.int _)⟩
  · cases rs with
    | cons r t =>
      cases t with
      | cons r2 t =>
        cases t; cases r.int; cases r2.int
        exact callCan_of (call_min2 hc) ⟨_, _, rfl, h.now s (.int _)⟩
  · cases rs with
    | cons r t =>
      cases t with
      | cons r2 t =>
        cases t; cases r.int; cases r2.int
        exact callCan_of (call_max2 hc) ⟨_, _, rfl, h.now s (.int _)⟩
  · cases rs with
    | cons r t =>
      cases t
      obtain ⟨a, vs, rfl, sh, rr⟩ := r.lst s
      split at h
      · rename_i n ns e
        have ev := ints_rep rr e
        subst ev
        refine callCan_of (cr_min hc) ⟨_, _, rfl, .inl (.inl sh), by simp, fun m hm hle => ?_⟩
        have q := minL_le ns n
        have e2 : m = minL n ns := by
          have h1 : minL n ns ≤ m := by
            rcases List.mem_cons.mp hm with rfl | hm
            · exact q.1
            · exact q.2.1 m hm
          have h2 : m ≤ minL n ns := hle _ (by
            rcases q.2.2 with e | e
            · rw [e]; exact List.mem_cons_self
            · exact List.mem_cons_of_mem _ e)
          omega
        rw [e2]
        exact h.now s (.int _)
      · exact h.elim
  · cases rs with
    | cons r t =>
      cases t
      obtain ⟨a, vs, rfl, sh, rr⟩ := r.lst s
      split at h
      · rename_i n ns e
        have ev := ints_rep rr e
        subst ev
        refine callCan_of (cr_max hc) ⟨_, _, rfl, .inl (.inl sh), by simp, fun m hm hle => ?_⟩
        have q := maxL_ge ns n
        have e2 : m = maxL n ns := by
          have h1 : m ≤ maxL n ns := by
            rcases List.mem_cons.mp hm with rfl | hm
            · exact q.1
            · exact q.2.1 m hm
          have h2 : maxL n ns ≤ m := hle _ (by
            rcases q.2.2 with e | e
            · rw [e]; exact List.mem_cons_self
            · exact List.mem_cons_of_mem _ e)
          omega
        rw [e2]
        exact h.now s (.int _)
      · exact h.elim
  · cases rs with
    | cons r t =>
      cases t
      obtain ⟨a, vs, rfl, _, sh, rr⟩ := r.tup s
      split at h
      · rename_i n ns e
        have ev := ints_rep rr e
        subst ev
        refine callCan_of (cr_minT hc hu) ⟨_, n, ns, rfl, sh, ?_⟩
        exact h.now s (.int _)
      · exact h.elim
  · cases rs with
    | cons r t =>
      cases t
      obtain ⟨a, vs, rfl, _, sh, rr⟩ := r.tup s
      split at h
      · rename_i n ns e
        have ev := ints_rep rr e
        subst ev
        refine callCan_of (cr_maxT hc hu) ⟨_, n, ns, rfl, sh, ?_⟩
        exact h.now s (.int _)
      · exact h.elim
  · cases rs with
    | cons r t =>
      cases t
      obtain ⟨a, vs, rfl, sh, rr⟩ := r.lst s
      split at h
      · rename_i hk
        refine callCan_of (cr_sortedD hu) ⟨_, _, _, _, rfl, .inl (.inl sh), s, rr, hk, fun ys p hy hp => ?_⟩
        exact h.lay s hp (repLst hy (s.free hp))
      · exact h.elim
  · cases rs with
    | cons r t =>
      cases t
      obtain ⟨a, vs, rfl, sh, rr⟩ := r.lst s
      split at h
      · rename_i ns e
        have ev := ints_rep rr e
        subst ev
        exact callCan_of (cr_sum hc) ⟨_, _, rfl, .inl (.inl sh), h.now s (.int _)⟩
      · exact h.elim
  · cases rs with
    | cons r t =>
      cases t; cases r.int
      exact callCan_of call_int1 (.inl ⟨_, rfl, h.now s (.int _)⟩)
  · cases rs with
    | cons r t =>
      cases t; cases r.bl
      exact callCan_of call_int1 (.inr ⟨_, rfl, h.now s (.int _)⟩)
  · cases rs with
    | cons r t =>
      cases t
      obtain ⟨a, vs, rfl, sh, rr⟩ := r.lst s
      exact callCan_of call_tuple_of ⟨_, _, rfl, .inl ⟨.inl (.inl sh), fun c hc => h.lay s hc (repTup rr (s.free hc))⟩⟩
  · cases rs with
    | cons r t =>
      cases t
      obtain ⟨a, vs, rfl, sg, sh, rr⟩ := r.tup s
      exact callCan_of call_tuple_of ⟨_, _, rfl, .inr ⟨sh, h.now s (.tup sg rr)⟩⟩
  · cases rs with
    | cons r t =>
      cases t
      obtain ⟨a, vs, rfl, sh, rr⟩ := r.lst s
      exact callCan_of call_list_of ⟨_, _, rfl, .inl (.inl (.inl sh)), fun c hc => h.lay s hc (repLst rr (s.free hc))⟩
  · cases rs with
    | cons r t =>
      cases t
      obtain ⟨a, vs, rfl, sg, sh, rr⟩ := r.tup s
      exact callCan_of call_list_of ⟨_, _, rfl, .inr sh, fun c hc => h.lay s hc (repLst rr (s.free hc))⟩
  · exact h.elim
/-! ### isinstance -/
def tyN : Ty → String
  | .int => "int" | .bool => "bool" | .str => "str" | .tuple => "tuple" | .list => "list"
def pvT : PV → String
  | .non => "NoneType" | .bl _ => "bool" | .int _ => "int" | .str _ => "str" | .tup _ => "tuple" | .lst _ => "list" | .scr _ => "list"
theorem tyX_rep (s : Same G H) (r : RepX X.K G H x p) : TyX X.K H x (.type (pvT p)) := by
  cases p with
  | non => cases r.non; exact .base .non
  | bl c => cases r.bl; exact .base (.bl _)
  | int i => cases r.int; exact .base (.int _)
  | str z => obtain ⟨rfl, _⟩ := r.str; exact .base (.str _)
  | tup xs =>
    obtain ⟨a, vs, rfl, _, sh, rr⟩ := r.tup s
    rcases sh with (sh | ⟨o, sh⟩) | ⟨o, its, n, h1, h2, _⟩
    · exact .base (.tup sh)
    · exact .fTuple sh
    · exact .kTuple h1 h2
  | lst xs =>
    obtain ⟨a, vs, rfl, sh, rr⟩ := r.lst s
    exact .base (.lst sh)
  | scr ns =>
    obtain ⟨a, rfl, sh⟩ := r.scr s
    rcases sh with (sh | ⟨o, sh⟩) | ⟨o, its, n, h1, h2, _⟩
    · exact .base (.lst sh)
    · exact .base (.frz sh)
    · exact .kList h1 h2
theorem kit_pv (t : Ty) (p : PV) : kitB (pvT p) (tyN t) = some (isiP t p) := by
  cases t <;> cases p <;> first | decide +kernel | (simp only [pvT, tyN, isiP]; decide +kernel)
theorem isi_ok (t : Ty) (s : Same G H) (r : RepX X.K G H x p) (h : GE X.K XI W G H σ (.ok (.bl (isiP t p))) Q) : callCan X (.builtin "isinstance") [x, .ty (tyN t)] H Q :=
  callCan_of call_isi ⟨_, _, _, _, _, rfl, .ty _, tyX_rep s r, kit_ty (kit_pv t p), h.now s (.bl _)⟩
end
end Z
end
section
namespace Z
open PySem PySem.Spec PyProof.Rows L2
/-! ### what a loop walks -/
/-- J goes through xs, wherever the heaps are as Cn says -/
def ItP (Cn : Hp → Hp → Prop) (K : PySem.W.Frag) (J : It) (xs : List PV) : Prop := ∀ (i : Nat) (G H : Hp), Cn G H → Same G H →
  (∀ x, xs[i]? = some x → J.go i H ∧ ∀ v H', J.yld i H v H' → ∃ G', Ext G H G' H' ∧ Rep K G' v x) ∧ (xs.length ≤ i → J.stop i H)
theorem ItP.imp {Cn Cn' : Hp → Hp → Prop} {K : PySem.W.Frag} {J : It} {xs : List PV} (h : ItP Cn K J xs) (w : ∀ G H, Cn' G H → Cn G H) : ItP Cn' K J xs := fun i G H c s => h i G H (w G H c) s
/-- the frozen part has but grown; all has but grown -/
abbrev CF (G1 : Hp) : Hp → Hp → Prop := fun G _ => Same G1 G
abbrev CC (G1 H1 : Hp) : Hp → Hp → Prop := fun G H => Ext G1 H1 G H
section
variable {Cn : Hp → Hp → Prop} {K : PySem.W.Frag} {xs ys : List PV} {vs ws : List V} {a b : Addr}
theorem itl_ok (h : ∀ G H, Cn G H → Same G H → SqL K H a vs ∧ Reps K G vs xs) : ItP Cn K (Itl K a) xs := fun i G H c s => by
  obtain ⟨hs, r⟩ := h G H c s
  refine ⟨fun x hx => ?_, fun hl => ⟨vs, hs, by rw [r.length]; exact hl⟩⟩
  obtain ⟨v, hv, rv⟩ := r.get hx
  refine ⟨⟨vs, v, hs, hv⟩, fun u H' hy => ?_⟩
  obtain ⟨rfl, hf⟩ := hy
  have e := hf vs hs
  rw [hv] at e; cases e
  exact ⟨G, Ext.refl s, rv⟩
theorem itt_ok (h : ∀ G H, Cn G H → Same G H → SqT K H a vs ∧ Reps K G vs xs) : ItP Cn K (Itt K a) xs := fun i G H c s => by
  obtain ⟨hs, r⟩ := h G H c s
  refine ⟨fun x hx => ?_, fun hl => ⟨vs, hs, by rw [r.length]; exact hl⟩⟩
  obtain ⟨v, hv, rv⟩ := r.get hx
  refine ⟨⟨vs, v, hs, hv⟩, fun u H' hy => ?_⟩
  obtain ⟨rfl, hf⟩ := hy
  have e := hf vs hs
  rw [hv] at e; cases e
  exact ⟨G, Ext.refl s, rv⟩
theorem its_ok {x : List Nat} (hx : ∀ c ∈ x, c < 1114112) : ItP Cn K (Its ⟨x.toArray⟩) (x.map fun c => PV.str [c]) := fun i G H c s => by
  refine ⟨fun p hp => ?_, fun hl => by
    show x.toArray.size ≤ i
    simpa using hl⟩
  rw [List.getElem?_map, Option.map_eq_some_iff] at hp
  obtain ⟨d, h1, rfl⟩ := hp
  have hi : i < x.length := (List.getElem?_eq_some_iff.mp h1).1
  refine ⟨by
    show i < x.toArray.size
    simpa using hi, fun u H' hy => ?_⟩
  obtain ⟨rfl, e, he, rfl⟩ := hy
  have he' : x[i]? = some e := by simpa using he
  rw [h1] at he'; cases he'
  refine ⟨G, Ext.refl s, .str [_] (fun z hz => ?_) (by show 1 ≤ 16777216; decide)⟩
  rcases List.mem_singleton.mp hz with rfl
  exact hx _ (List.mem_of_getElem? h1)
theorem upL_get : ∀ (n : Nat) (lo : Int) (i : Nat), (upL lo n)[i]? = if i < n then some (.int (lo + i)) else none
  | 0, lo, i => by simp [upL]
  | n + 1, lo, 0 => by simp [upL]
  | n + 1, lo, i + 1 => by
    simp only [upL, List.getElem?_cons_succ]
    rw [upL_get n (lo + 1) i]
    by_cases h : i < n
    · rw [if_pos h, if_pos (by omega)]
      congr 2
      push_cast
      omega
    · rw [if_neg h, if_neg (by omega)]
theorem dnL_get : ∀ (n : Nat) (lo : Int) (i : Nat), (dnL lo n)[i]? = if i < n then some (.int (lo + (i : Nat) * (-1))) else none
  | 0, lo, i => by simp [dnL]
  | n + 1, lo, 0 => by simp [dnL]
  | n + 1, lo, i + 1 => by
    simp only [dnL, List.getElem?_cons_succ]
    rw [dnL_get n (lo - 1) i]
    by_cases h : i < n
    · rw [if_pos h, if_pos (by omega)]
      congr 2
      push_cast
      omega
    · rw [if_neg h, if_neg (by omega)]
theorem upL_len : ∀ (n : Nat) (lo : Int), (upL lo n).length = n
  | 0, _ => rfl
  | n + 1, lo => by simp [upL, upL_len n]
theorem dnL_len : ∀ (n : Nat) (lo : Int), (dnL lo n).length = n
  | 0, _ => rfl
  | n + 1, lo => by simp [dnL, dnL_len n]
theorem itr_ok (lo : Int) (n : Nat) : ItP Cn K (Itr lo n) (upL lo n) := fun i G H c s => by
  refine ⟨fun p hp => ?_, fun hl => by rw [upL_len] at hl; exact hl⟩
  rw [upL_get] at hp
  split at hp
  · rename_i h
    cases hp
    refine ⟨h, fun u H' hy => ?_⟩
    obtain ⟨rfl, rfl⟩ := hy
    exact ⟨G, Ext.refl s, .int _⟩
  · cases hp
theorem itc_ok (lo : Int) (n : Nat) : ItP Cn K (Itc lo (-1) n) (dnL lo n) := fun i G H c s => by
  refine ⟨fun p hp => ?_, fun hl => by rw [dnL_len] at hl; exact hl⟩
  rw [dnL_get] at hp
  split at hp
  · rename_i h
    cases hp
    refine ⟨h, fun u H' hy => ?_⟩
    obtain ⟨rfl, rfl⟩ := hy
    exact ⟨G, Ext.refl s, .int _⟩
  · cases hp
theorem enuL_get : ∀ (xs : List PV) (n i : Nat), (enuL n xs)[i]? = xs[i]?.map fun x => .tup [.int ((n + i : Nat) : Int), x]
  | [], n, i => by simp [enuL]
  | x :: xs, n, 0 => by simp [enuL]
  | x :: xs, n, i + 1 => by
    simp only [enuL, List.getElem?_cons_succ]
    rw [enuL_get xs (n + 1) i]
    congr 1
    funext z
    congr 3
    omega
theorem enuL_len : ∀ (xs : List PV) (n : Nat), (enuL n xs).length = xs.length
  | [], _ => rfl
  | x :: xs, n => by simp [enuL, enuL_len xs]
theorem ite_ok (h : ∀ G H, Cn G H → Same G H → SqL K H a vs ∧ Reps K G vs xs) : ItP Cn K (Ite K a) (enuL 0 xs) := fun i G H c s => by
  obtain ⟨hs, r⟩ := h G H c s
  refine ⟨fun p hp => ?_, fun hl => ⟨vs, hs, by rw [r.length]; rw [enuL_len] at hl; exact hl⟩⟩
  rw [enuL_get, Option.map_eq_some_iff] at hp
  obtain ⟨x, hx, rfl⟩ := hp
  obtain ⟨v, hv, rv⟩ := r.get hx
  refine ⟨⟨vs, v, hs, hv⟩, fun u H' hy => ?_⟩
  obtain ⟨T, z, rfl, hT, rfl, hf⟩ := hy
  have e := hf vs hs
  rw [hv] at e; cases e
  refine ⟨upd G T (.tup [.int (i : Nat), v]), Ext.new s hT, ?_⟩
  have gT : G T = none := s.free hT
  refine .tup (.inl (.inl upd_same)) (.cons ?_ (.cons (rv.mono (same_upd gT)) .nil))
  rw [Nat.zero_add]
  exact .int _
theorem zipL_get : ∀ (xs ys : List PV) (i : Nat), (zipL xs ys)[i]? = match xs[i]?, ys[i]? with | some x, some y => some (.tup [x, y]) | _, _ => none
  | [], ys, i => by simp [zipL]
  | x :: xs, [], i => by
    simp only [zipL, List.getElem?_nil]
    split <;> simp_all
  | x :: xs, y :: ys, 0 => by simp [zipL]
  | x :: xs, y :: ys, i + 1 => by
    simp only [zipL, List.getElem?_cons_succ]
    exact zipL_get xs ys i
theorem zipL_len : ∀ (xs ys : List PV), (zipL xs ys).length = min xs.length ys.length
  | [], ys => by simp [zipL]
  | x :: xs, [] => by simp [zipL]
  | x :: xs, y :: ys => by simp [zipL, zipL_len xs ys]
theorem zip_cases {xs ys : List PV} {i : Nat} {p : PV} (hp : (zipL xs ys)[i]? = some p) : ∃ x y, xs[i]? = some x ∧ ys[i]? = some y ∧ p = .tup [x, y] := by
  rw [zipL_get] at hp
  split at hp
  · rename_i x y h1 h2
    cases hp
    exact ⟨x, y, h1, h2, rfl⟩
  · cases hp
theorem itz_ok (h : ∀ G H, Cn G H → Same G H → (SqL K H a vs ∧ Reps K G vs xs) ∧ SqL K H b ws ∧ Reps K G ws ys) : ItP Cn K (Itz K a b) (zipL xs ys) := fun i G H c s => by
  obtain ⟨⟨hs, r⟩, hs2, r2⟩ := h G H c s
  refine ⟨fun p hp => ?_, fun hl => ⟨vs, ws, hs, hs2, by rw [r.length, r2.length]; rw [zipL_len] at hl; omega⟩⟩
  obtain ⟨x, y, hx, hy, rfl⟩ := zip_cases hp
  obtain ⟨v, hv, rv⟩ := r.get hx
  obtain ⟨v2, hv2, rv2⟩ := r2.get hy
  refine ⟨⟨vs, ws, v, v2, hs, hs2, hv, hv2⟩, fun u H' hy => ?_⟩
  obtain ⟨T, z, z2, rfl, hT, rfl, hf, hf2⟩ := hy
  have e := hf vs hs
  rw [hv] at e; cases e
  have e := hf2 ws hs2
  rw [hv2] at e; cases e
  refine ⟨upd G T (.tup [v, v2]), Ext.new s hT, ?_⟩
  have gT : G T = none := s.free hT
  exact .tup (.inl (.inl upd_same)) (.cons (rv.mono (same_upd gT)) (.cons (rv2.mono (same_upd gT)) .nil))
theorem itzt_ok (h : ∀ G H, Cn G H → Same G H → (SqT K H a vs ∧ Reps K G vs xs) ∧ SqT K H b ws ∧ Reps K G ws ys) : ItP Cn K (RZ.ItzT K a b) (zipL xs ys) := fun i G H c s => by
  obtain ⟨⟨hs, r⟩, hs2, r2⟩ := h G H c s
  refine ⟨fun p hp => ?_, fun hl => ⟨vs, ws, hs, hs2, by rw [r.length, r2.length]; rw [zipL_len] at hl; omega⟩⟩
  obtain ⟨x, y, hx, hy, rfl⟩ := zip_cases hp
  obtain ⟨v, hv, rv⟩ := r.get hx
  obtain ⟨v2, hv2, rv2⟩ := r2.get hy
  refine ⟨⟨vs, ws, v, v2, hs, hs2, hv, hv2⟩, fun u H' hy => ?_⟩
  obtain ⟨T, z, z2, rfl, hT, rfl, hf, hf2⟩ := hy
  have e := hf vs hs
  rw [hv] at e; cases e
  have e := hf2 ws hs2
  rw [hv2] at e; cases e
  refine ⟨upd G T (.tup [v, v2]), Ext.new s hT, ?_⟩
  have gT : G T = none := s.free hT
  exact .tup (.inl (.inl upd_same)) (.cons (rv.mono (same_upd gT)) (.cons (rv2.mono (same_upd gT)) .nil))
end
end Z
end
section
namespace Z
open PySem PySem.Spec PyProof.Rows L2
/-! ### the text: is it this term of the small language? -/
/-- the tables: names of defs, constants, error classes, their fields; constants; which class is under which; the defs; how long a while may go -/
structure Tb where
  fnm : Nat → Option Str
  cnm : Nat → Option Str
  xnm : Nat → Option Str
  xfl : Nat → Option Str
  κ : Cons
  cx : Nat → Nat → Bool
  TT : Nat → Option FnD
  wf : Nat
def sEq (x y : Str) : Bool := decide (x = y)
def visB (sc : Scope) (x : Str) : Bool := match sc.names.lookup x with
  | some .local => true
  | some .cell => true
  | some .free => true
  | _ => false
def locB (sc : Scope) (x : Str) : Bool := match sc.names.lookup x with
  | some .local => true
  | some .cell => true
  | _ => false
def glB (sc : Scope) (x : Str) : Bool := (match sc.names.lookup x with
  | some .globalImplicit => true
  | _ => false) && !(x == ("__debug__" : Str)) && !sEq x "__name__"
def ixB (N : List Str) (i : Nat) (x : Str) : Bool := match N[i]? with
  | some y => sEq y x
  | none => false
def ckVar (N : List Str) (sc : Scope) (i : Nat) (x : Str) : Bool := ixB N i x && visB sc x && !(x == ("__debug__" : Str)) && !(x == ("__classdict__" : Str))
def ckK : PV → Const → Bool
  | .non, .none => true
  | .bl a, .bool b => a == b
  | .int i, .int j => decide (i = j)
  | .str s, .str z => decide (z = ⟨s.toArray⟩) && (s.all fun c => Nat.blt c 1114112) && fits s.length
  | _, _ => false
def nmB (o : Option Str) (x : Str) : Bool := match o with
  | some y => sEq y x
  | none => false
def bopB : Bop → Operator → Bool
  | .add, .Add => true | .sub, .Sub => true | .mul, .Mult => true | .fdv, .FloorDiv => true | .mod, .Mod => true | .pow, .Pow => true
  | _, _ => false
def copB : Cop → CmpOp → Bool
  | .eq, .Eq => true | .ne, .NotEq => true | .lt, .Lt => true | .le, .LtE => true | .gt, .Gt => true | .ge, .GtE => true
  | .isn, .Is => true | .nisn, .IsNot => true | .inn, .In => true | .nin, .NotIn => true
  | _, _ => false
def notSet : Expr → Bool
  | .Set _ _ _ => false
  | _ => true
def notStar : Expr → Bool
  | .Starred _ _ => false
  | _ => true
def notSlice : Expr → Bool
  | .Slice _ _ _ _ => false
  | _ => true
/-- the test is the value's truth -/
def plainT : Expr → Bool
  | .UnaryOp .Not _ _ => false
  | .BoolOp _ _ _ => false
  | .IfExp _ _ _ _ => false
  | .Compare _ _ _ _ => false
  | _ => true
def biN : Bi → Str
  | .len => "len" | .abs => "abs" | .min2 => "min" | .max2 => "max" | .min1 => "min" | .max1 => "max" | .sum => "sum" | .int => "int" | .tuple => "tuple" | .list => "list" | .sorted => "sorted"
def tyS : Ty → Str
  | .int => "int" | .bool => "bool" | .str => "str" | .tuple => "tuple" | .list => "list"
def isTupE : Expr → Bool
  | .Tuple _ _ _ => true
  | _ => false
def ownOf (N : List Str) (scope : Scope) : List (Str × Nat) := scope.names.filterMap fun y => match y.2 with
  | .local => (N.findIdx? fun z => sEq z y.1).map fun i => (y.1, i)
  | .cell => (N.findIdx? fun z => sEq z y.1).map fun i => (y.1, i)
  | _ => none
/-- the slots that a target stores -/
def tgS : C → List Nat
  | .tn i => [i]
  | .tt ts => tgS ts
  | .cons a b => tgS a ++ tgS b
  | _ => []
def isTrueC : C → Bool
  | .k (.bl true) => true
  | _ => false
def plainBase : Expr → Bool
  | .Call _ _ _ _ => false
  | _ => true
mutual
def ckG (N : List Str) (sc : Scope) : C → Expr → Bool
  | .tn i, .Name x _ => ixB N i x && locB sc x
  | .tt ts, .Tuple xs _ _ => ckGs N sc ts xs
  | _, _ => false
def ckGs (N : List Str) (sc : Scope) : C → List Expr → Bool
  | .nil, [] => true
  | .cons t ts, x :: xs => ckG N sc t x && ckGs N sc ts xs
  | _, _ => false
end
/-- the looks at one term: as an expression (rd: a list of one's own may be read), as the rest of an and | or, as arguments, as a slice's part, as a test, as the rest of a test, as what a loop goes through -/
structure Ck where
  e : Bool → Scope → Expr → Bool
  b : BoolOp → Scope → List Expr → Bool
  a : Bool → Scope → List Expr → Bool
  p : Scope → Option Expr → Bool
  t : Scope → Expr → Bool
  tb : BoolOp → Scope → List Expr → Bool
  i : Bool → Bool → Scope → Expr → Bool
def no1 : BoolOp → Scope → List Expr → Bool := fun _ _ _ => false
def eNo : Bool → Scope → Expr → Bool := fun _ _ _ => false
def aNo : Bool → Scope → List Expr → Bool := fun _ _ _ => false
def pNo : Scope → Option Expr → Bool := fun _ _ => false
def tNo : Scope → Expr → Bool := fun _ _ => false
def iNo : Bool → Bool → Scope → Expr → Bool := fun _ _ _ _ => false
def tOf (e : Bool → Scope → Expr → Bool) : Scope → Expr → Bool := fun sc x => e true sc x && plainT x
def mkC (e : Bool → Scope → Expr → Bool) (t : Scope → Expr → Bool) (bx tbx : BoolOp → Scope → List Expr → Bool) : Ck where
  e := e
  b := fun op sc xs => match xs with
    | [x] => e false sc x
    | _ => bx op sc xs
  a := aNo
  p := fun sc o => match o with
    | some x => e false sc x
    | none => false
  t := t
  tb := fun op sc xs => match xs with
    | [x] => t sc x
    | _ => tbx op sc xs
  i := iNo
def mkE (e : Bool → Scope → Expr → Bool) : Ck := mkC e (tOf e) no1 no1
def mkA (a : Bool → Scope → List Expr → Bool) : Ck := ⟨eNo, no1, a, pNo, tNo, no1, iNo⟩
def mkI (i : Bool → Bool → Scope → Expr → Bool) : Ck := ⟨eNo, no1, aNo, pNo, tNo, no1, i⟩
def mkP (p : Scope → Option Expr → Bool) : Ck := ⟨eNo, no1, aNo, p, tNo, no1, iNo⟩
section
variable (B : Tb) (N : List Str)
def eV (i : Nat) : Bool → Scope → Expr → Bool := fun _ sc e => match e with
  | .Name x _ => ckVar N sc i x
  | _ => false
def eRd (i : Nat) : Bool → Scope → Expr → Bool := fun rd sc e => match e with
  | .Name x _ => rd && ckVar N sc i x
  | _ => false
def eK (p : PV) : Bool → Scope → Expr → Bool := fun _ _ e => match e with
  | .Constant c _ _ => ckK p c
  | _ => false
def eG (i : Nat) : Bool → Scope → Expr → Bool := fun _ sc e => match e with
  | .Name x _ => nmB (B.cnm i) x && glB sc x
  | _ => false
def eBin (op : Bop) (a b : Ck) : Bool → Scope → Expr → Bool := fun _ sc e => match e with
  | .BinOp x o y _ => bopB op o && a.e true sc x && b.e true sc y
  | _ => false
def eNeg (a : Ck) : Bool → Scope → Expr → Bool := fun _ sc e => match e with
  | .UnaryOp .USub x _ => a.e false sc x
  | _ => false
def eNt (a : Ck) : Bool → Scope → Expr → Bool := fun _ sc e => match e with
  | .UnaryOp .Not x _ => a.e true sc x
  | _ => false
def tNt (a : Ck) : Scope → Expr → Bool := fun sc e => match e with
  | .UnaryOp .Not x _ => a.t sc x
  | _ => false
def eCmp (op : Cop) (a b : Ck) : Bool → Scope → Expr → Bool := fun _ sc e => match e with
  | .Compare x [o] [y] _ => copB op o && a.e true sc x && b.e true sc y && notSet y
  | _ => false
def eChn (op op' : Cop) (a b c : Ck) : Bool → Scope → Expr → Bool := fun _ sc e => match e with
  | .Compare x [o, o'] [y, z] _ => copB op o && copB op' o' && a.e true sc x && b.e true sc y && c.e true sc z && notSet z
  | _ => false
def eAn (a b : Ck) : Bool → Scope → Expr → Bool := fun _ sc e => match e with
  | .BoolOp .And (x :: y :: r) _ => a.e false sc x && b.b .And sc (y :: r)
  | _ => false
def bAn (a b : Ck) : BoolOp → Scope → List Expr → Bool := fun op sc xs => match op, xs with
  | .And, x :: y :: r => a.e false sc x && b.b .And sc (y :: r)
  | _, _ => false
def tAn (a b : Ck) : Scope → Expr → Bool := fun sc e => match e with
  | .BoolOp .And (x :: y :: r) _ => a.t sc x && b.tb .And sc (y :: r)
  | _ => false
def tbAn (a b : Ck) : BoolOp → Scope → List Expr → Bool := fun op sc xs => match op, xs with
  | .And, x :: y :: r => a.t sc x && b.tb .And sc (y :: r)
  | _, _ => false
def eOr (a b : Ck) : Bool → Scope → Expr → Bool := fun _ sc e => match e with
  | .BoolOp .Or (x :: y :: r) _ => a.e false sc x && b.b .Or sc (y :: r)
  | _ => false
def bOr (a b : Ck) : BoolOp → Scope → List Expr → Bool := fun op sc xs => match op, xs with
  | .Or, x :: y :: r => a.e false sc x && b.b .Or sc (y :: r)
  | _, _ => false
def tOr' (a b : Ck) : Scope → Expr → Bool := fun sc e => match e with
  | .BoolOp .Or (x :: y :: r) _ => a.t sc x && b.tb .Or sc (y :: r)
  | _ => false
def tbOr (a b : Ck) : BoolOp → Scope → List Expr → Bool := fun op sc xs => match op, xs with
  | .Or, x :: y :: r => a.t sc x && b.tb .Or sc (y :: r)
  | _, _ => false
def eIfe (c a b : Ck) : Bool → Scope → Expr → Bool := fun _ sc e => match e with
  | .IfExp t x y _ => c.t sc t && a.e false sc x && b.e false sc y
  | _ => false
def eTup (es : Ck) : Bool → Scope → Expr → Bool := fun _ sc e => match e with
  | .Tuple xs _ _ => es.a false sc xs && Nat.ble xs.length 1000
  | _ => false
def eDsp (es : Ck) : Bool → Scope → Expr → Bool := fun _ sc e => match e with
  | .List xs _ => es.a false sc xs && Nat.ble xs.length 1000
  | _ => false
def aNil : Bool → Scope → List Expr → Bool := fun _ _ xs => match xs with
  | [] => true
  | _ => false
def aCons (a as : Ck) : Bool → Scope → List Expr → Bool := fun rd sc xs => match xs with
  | x :: xs => a.e rd sc x && notStar x && as.a rd sc xs
  | _ => false
def eIx (a i : Ck) : Bool → Scope → Expr → Bool := fun _ sc e => match e with
  | .Subscript x y _ => a.e true sc x && i.e false sc y && notSlice y
  | _ => false
def eSl (a lo hi : Ck) : Bool → Scope → Expr → Bool := fun _ sc e => match e with
  | .Subscript x (.Slice l h none _) _ => a.e true sc x && lo.p sc l && hi.p sc h
  | _ => false
def eTl (a : Ck) : Bool → Scope → Expr → Bool := fun _ sc e => match e with
  | .Subscript x (.Slice none (some (.Constant (.int 0) _ _)) (some (.UnaryOp .USub (.Constant (.int 1) _ _) _)) _) _ => a.e true sc x
  | _ => false
def pNop : Scope → Option Expr → Bool := fun _ o => match o with
  | none => true
  | _ => false
def eCall (f : Nat) (es : Ck) : Bool → Scope → Expr → Bool := fun _ sc e => match e with
  | .Call (.Name x _) xs [] _ => nmB (B.fnm f) x && glB sc x && es.a false sc xs && (B.TT f).isSome
  | _ => false
def eBi (b : Bi) (es : Ck) : Bool → Scope → Expr → Bool := fun _ sc e => match e with
  | .Call (.Name x _) (y :: xs) [] _ => sEq (biN b) x && glB sc x && es.a true sc (y :: xs) && (y :: xs).all notStar
  | _ => false
def eIsi (t : Ty) (a : Ck) : Bool → Scope → Expr → Bool := fun _ sc e => match e with
  | .Call (.Name x _) [y, .Name z _] [] _ => sEq "isinstance" x && glB sc x && a.e true sc y && notStar y && sEq (tyS t) z && glB sc z
  | _ => false
def mtN : Mt → Str
  | .join => "join"
  | .count => "count"
def eMt (m : Mt) (o a : Ck) : Bool → Scope → Expr → Bool := fun _ sc e => match e with
  | .Call (.Attribute x m' ap) [y] [] p => sEq (mtN m) m' && o.e false sc x && a.e true sc y && notStar y && plainBase x && (ap.endLine == p.line)
  | _ => false
def intE (i : Int) : Expr → Bool
  | .Constant (.int j) _ _ => decide (i = j)
  | .UnaryOp .USub (.Constant (.int j) _ _) _ => decide (i = -j)
  | _ => false
def pkB : List (Int × List Nat) → List (Option Expr) → List Expr → Bool
  | [], [], [] => true
  | (i, s) :: r, some k :: ks, .Constant c _ _ :: vs => intE i k && ckK (.str s) c && pkB r ks vs
  | _, _, _ => false
def ePick (kvs : List (Int × List Nat)) (a : Ck) : Bool → Scope → Expr → Bool := fun _ sc e => match e with
  | .Subscript (.Dict ks vs _) y _ => pkB kvs ks vs && a.e false sc y && notSlice y && decide (kvs.map (·.1)).Nodup && Nat.ble kvs.length 15 && !kvs.isEmpty
  | _ => false
def eComp (vs : List Nat) (tg : C) (it cn el : Ck) (yes : Bool) : Bool → Scope → Expr → Bool := fun _ sc e => match e with
  | .ListComp elt [⟨t, i, ifs, 0⟩] scope _ => it.i true (isTupE t) sc i && ckG N scope tg t &&
      (match ifs with | [] => yes | [c] => cn.t (relS scope sc) c | _ => false) && el.e false (relS scope sc) elt &&
      blkC N sc scope (ownOf N scope) && decide (vs = (ownOf N scope).map (·.2)) && notSet i && (tgS tg).all fun i => vs.contains i
  | _ => false
def iSeq (a : Ck) : Bool → Bool → Scope → Expr → Bool := fun rd _ sc x => a.e rd sc x && notSet x
def iRng1' (a : Ck) : Bool → Bool → Scope → Expr → Bool := fun _ _ sc e => match e with
  | .Call (.Name f _) [x] [] _ => sEq "range" f && glB sc f && a.e false sc x && notStar x
  | _ => false
def iRng2' (a b : Ck) : Bool → Bool → Scope → Expr → Bool := fun _ _ sc e => match e with
  | .Call (.Name f _) [x, y] [] _ => sEq "range" f && glB sc f && a.e false sc x && notStar x && b.e false sc y && notStar y
  | _ => false
def iRng3' (a b c : Ck) : Bool → Bool → Scope → Expr → Bool := fun _ _ sc e => match e with
  | .Call (.Name f _) [x, y, z] [] _ => sEq "range" f && glB sc f && a.e false sc x && notStar x && b.e false sc y && notStar y && c.e false sc z && notStar z
  | _ => false
def iEnu (a : Ck) : Bool → Bool → Scope → Expr → Bool := fun rd tp sc e => match e with
  | .Call (.Name f _) [x] [] _ => tp && sEq "enumerate" f && glB sc f && a.e rd sc x && notStar x
  | _ => false
def iZip' (a b : Ck) : Bool → Bool → Scope → Expr → Bool := fun rd tp sc e => match e with
  | .Call (.Name f _) [x, y] [] _ => tp && sEq "zip" f && glB sc f && a.e rd sc x && notStar x && b.e rd sc y && notStar y
  | _ => false
def ck : C → Ck
  | .v i => mkE (eV N i)
  | .rd i => mkE (eRd N i)
  | .k p => mkE (eK p)
  | .g i => mkE (eG B i)
  | .bin op a b => mkE (eBin op (ck a) (ck b))
  | .neg a => mkE (eNeg (ck a))
  | .nt a => mkC (eNt (ck a)) (tNt (ck a)) no1 no1
  | .cmp op a b => mkC (eCmp op (ck a) (ck b)) (fun sc x => eCmp op (ck a) (ck b) false sc x) no1 no1
  | .chn op op' a b c => mkC (eChn op op' (ck a) (ck b) (ck c)) (fun sc x => eChn op op' (ck a) (ck b) (ck c) false sc x) no1 no1
  | .an a b => mkC (eAn (ck a) (ck b)) (tAn (ck a) (ck b)) (bAn (ck a) (ck b)) (tbAn (ck a) (ck b))
  | .or a b => mkC (eOr (ck a) (ck b)) (tOr' (ck a) (ck b)) (bOr (ck a) (ck b)) (tbOr (ck a) (ck b))
  | .ife c a b => mkE (eIfe (ck c) (ck a) (ck b))
  | .tup es => mkE (eTup (ck es))
  | .dsp es => mkE (eDsp (ck es))
  | .nil => mkA aNil
  | .cons a as => mkA (aCons (ck a) (ck as))
  | .ix a i => mkE (eIx (ck a) (ck i))
  | .sl a lo hi => mkE (eSl (ck a) (ck lo) (ck hi))
  | .nop => mkP pNop
  | .tl a => mkE (eTl (ck a))
  | .call f es => mkE (eCall B f (ck es))
  | .bi b es => mkE (eBi b (ck es))
  | .isi t e => mkE (eIsi t (ck e))
  | .mt m o e => mkE (eMt m (ck o) (ck e))
  | .pick kvs e => mkE (ePick kvs (ck e))
  | .comp vs tg it cn el => mkE (eComp N vs tg (ck it) (ck cn) (ck el) (isTrueC cn))
  | .seq e => mkI (iSeq (ck e))
  | .rng1 a => mkI (iRng1' (ck a))
  | .rng2 a b => mkI (iRng2' (ck a) (ck b))
  | .rng3 a b c => mkI (iRng3' (ck a) (ck b) (ck c))
  | .enu e => mkI (iEnu (ck e))
  | .zip a b => mkI (iZip' (ck a) (ck b))
  | .jk => ⟨fun _ _ _ => true, fun _ _ _ => true, aNo, fun _ _ => true, fun _ _ => true, fun _ _ _ => true, fun _ _ _ _ => true⟩
  | _ => mkE eNo
end
/-! ### what is known where an expression stands -/
def XIs (B : Tb) (K : PySem.W.Frag) (mg : Str → Option Value) : Ends1 := fun c p cls d G H => ∃ x C, B.xnm c = some x ∧ mg x = some (.ref C) ∧ cls = .ref C ∧ (match p with
  | none => d = none
  | some q => ∃ dd fl v, B.xfl c = some fl ∧ d = some dd ∧ H dd = some (.xd [(fl, v)]) ∧ Rep K G v q)
def GF (K : PySem.W.Frag) (XI : Ends1) (G H : Hp) (r : Res RV) (Q : VK) (E : XK) : Prop := match r with
  | .ok (.shr p) => ∀ G' H' v, Ext G H G' H' → Rep K G' v p → Q v H'
  | .ok (.own xs) => ∀ G' H' a vs, Ext G H G' H' → H a = none → G' a = none → H' a = some (.lst vs) → Reps K G' vs xs → Q (.ref a) H'
  | .exc c p => ∀ G' H' cls d, Ext G H G' H' → XI c p cls d G' H' → E cls d H'
  | .bad => False
/-- what a def promises -/
def spF (B : Tb) (K : PySem.W.Frag) (XI : Ends1) (n f np : Nat) : Sp := fun vs H Q E => ∃ G ps, Same G H ∧ Reps K G vs ps ∧ ps.length = np ∧ GF K XI G H (callN B.TT B.κ B.cx B.wf n f ps) Q E
def bltN : List Str := ["len", "abs", "min", "max", "sum", "int", "tuple", "list", "isinstance", "bool", "str", "range", "enumerate", "zip", "sorted"]
/-- an error class of the module's own, over ValueError -/
structure XC (K : PySem.W.Frag) (Ca : Addr) : Prop where
  ex : PySem.W.excIn K Ca He.veBase "ValueError.__new__" = true
  kp : PySem.W.keepIn K (.ref Ca) = true
  sub : PySem.W.subIn K (.ref Ca) (.type "BaseException") = some true
  ty : PySem.W.typeIn K (.ref Ca) = some (.type "type")
  is : ExcC K Ca
/-- the module, defs to the depth n -/
structure Wo (B : Tb) (P : Program) (w : World) (K : PySem.W.Frag) (mg : Str → Option Value) (base : Heap) (n : Nat) : Prop where
  fns : ∀ f x d, B.fnm f = some x → B.TT f = some d → ∃ (fa : Addr) (fd : FuncData) (ps : List Str), mg x = some (.ref fa) ∧ PySem.W.keepIn K (.ref fa) = true ∧ Binds K fd ps [] ∧ ps.length = d.np ∧
    FnOk P w K mg base (CX P w) (n + 5) fa fd ps (spF B K (XIs B K mg) n f d.np)
  con : ∀ i x p, B.cnm i = some x → B.κ i = some p → ∃ v u, mg x = some u ∧ RelV v u ∧ Rep K (fun _ => none) v p
  blt : ∀ x, x ∈ bltN → mg x = none
  xcl : ∀ c x, B.xnm c = some x → ∃ Ca, mg x = some (.ref Ca) ∧ XC K Ca
  xcx : ∀ c c' x x' Ca Cb, B.xnm c = some x → B.xnm c' = some x' → mg x = some (.ref Ca) → mg x' = some (.ref Cb) → PySem.W.exmOne K (.ref Ca) (.ref Cb) = some (B.cx c c') ∧ PySem.W.kitOne K (.ref Ca) (.ref Cb) = some (B.cx c c')
/-- the context of an expression -/
structure EC (B : Tb) (n : Nat) (N : List Str) (sc : Scope) (X : Cx) (W : WX) : Prop where
  scope : X.env.scope = sc
  nm : X.N = N
  nd : N.Nodup
  calm : X.calm = true
  takes : Takes X W
  room : Room (n + 5) X.A
  wo : Wo B X.prog X.w X.K X.mg X.base n
theorem sEq_ok {x y : Str} (h : sEq x y = true) : x = y := of_decide_eq_true h
theorem ixB_ok {N : List Str} {i : Nat} {x : Str} (h : ixB N i x = true) : N[i]? = some x := by
  unfold ixB at h
  split at h
  · rename_i y e
    rw [e, sEq_ok h]
  · cases h
theorem nmB_ok {o : Option Str} {x : Str} (h : nmB o x = true) : o = some x := by
  unfold nmB at h
  split at h
  · rw [sEq_ok h]
  · cases h
theorem visB_ok {sc : Scope} {x : Str} (h : visB sc x = true) : Vis sc x := by
  unfold visB at h
  split at h
  · rename_i e; exact .inl e
  · rename_i e; exact .inr (.inl e)
  · rename_i e; exact .inr (.inr e)
  · cases h
theorem locB_ok {sc : Scope} {x : Str} (h : locB sc x = true) : Loc sc x := by
  unfold locB at h
  split at h
  · rename_i e; exact .inl e
  · rename_i e; exact .inr e
  · cases h
theorem glB_ok {sc : Scope} {x : Str} (h : glB sc x = true) : sc.names.lookup x = some .globalImplicit ∧ (x == ("__debug__" : Str)) = false ∧ x ≠ "__name__" := by
  unfold glB at h
  simp only [Bool.and_eq_true, Bool.not_eq_true'] at h
  obtain ⟨⟨h1, h2⟩, h3⟩ := h
  split at h1
  · rename_i e
    exact ⟨e, h2, of_decide_eq_false h3⟩
  · cases h1
theorem bopB_ok {op : Bop} {o : Operator} (h : bopB op o = true) : o = bopE op := by
  cases op <;> cases o <;> first | rfl | cases h
theorem copB_ok {op : Cop} {o : CmpOp} (h : copB op o = true) : o = copE op := by
  cases op <;> cases o <;> first | rfl | cases h
theorem notSet_marks {op : CmpOp} {e : Expr} (h : notSet e = true) : behindInMarks op e = false := by
  cases e <;> first | rfl | cases h
theorem notSet_folded {e : Expr} (h : notSet e = true) (env : Env) (x : Value) : foldedSetIterable e env x = pure x := by
  cases e <;> first | rfl | cases h
theorem star_of {e : Expr} {es : List Expr} {env : Env} (h : notStar e = true) : starEach (e :: es) env = (false, eval e env) :: starEach es env := by
  cases e <;> first | rfl | cases h
theorem plainT_ok {e : Expr} (h : plainT e = true) (env : Env) (whole : Sem Value) : isTrue e env whole = (do let v ← whole; standAt e.pos; holding [v] (truthy v)) := by
  cases e <;> first | rfl | cases h | (rename_i op _ _; cases op <;> first | rfl | cases h)
theorem notSlice_ok {e : Expr} (h : notSlice e = true) : PlainIx e := fun o i => by
  cases e <;> first | rfl | cases h
theorem nostars {es : List Expr} {env : Env} {pos : Pos} (h : es.all notStar = true) : (backTo pos (starEach es env)).any (·.1) = false := by
  induction es with
  | nil => rfl
  | cons e es ih =>
    simp only [List.all_cons, Bool.and_eq_true] at h
    rw [star_of h.1]
    exact ih h.2
theorem plainBase_ok {e : Expr} {m : Str} {env : Env} {whole : Sem Value} (h : plainBase e = true) : attributeBase e m env whole = whole := by
  cases e <;> first | rfl | cases h
end Z
end
section
namespace Z
open PySem PySem.Spec PyProof.Rows L2
/-! ### the readings that are the machine's own -/
def tcE (X : Cx) (e : Expr) : TE := fun σ H Q => ∀ (pins : List (Addr × Obj)) (s : Shared), Inv X pins σ H s → wpAny (model X.prog X.w) X.A (eval e X.env) (EP X pins σ Q) X.xe s
def tcT (X : Cx) (e : Expr) : TT := fun σ H Q => ∀ (pins : List (Addr × Obj)) (s : Shared), Inv X pins σ H s → wpAny (model X.prog X.w) X.A (isTrue e X.env (eval e X.env)) (TP X pins σ Q) X.xe s
def tcW (X : Cx) (e : Expr) : TT := fun σ H Q => ∀ (wh : Sem Value) (pins : List (Addr × Obj)) (s : Shared), Inv X pins σ H s → wpAny (model X.prog X.w) X.A (isTrue e X.env wh) (TP X pins σ Q) X.xe s
def tcA (X : Cx) (es : List Expr) : TA := fun σ H Q => ∀ (pos : Pos) (pins : List (Addr × Obj)) (s : Shared), Inv X pins σ H s → wpAny (model X.prog X.w) X.A (spliced (backTo pos (starEach es X.env))) (AP X pins σ Q) X.xe s
def tcO (X : Cx) (e : Option Expr) : TO := fun σ H Q => ∀ (pins : List (Addr × Obj)) (s : Shared), Inv X pins σ H s → wpAny (model X.prog X.w) X.A (evalPart e X.env) (fun u s' => ∃ o H', Inv X pins σ H' s' ∧ IsPart u o ∧ Q o H') X.xe s
def tcI (X : Cx) (tg e : Expr) : TI := fun σ H R => ∀ (pins : List (Addr × Obj)) (s : Shared), Inv X pins σ H s → wpAny (model X.prog X.w) X.A (eval e X.env) (fun v s1 => wpAny (model X.prog X.w) X.A (pyIter v) (PIE X pins σ tg R) X.xe s1) X.xe s
section
variable {X : Cx} {e tg : Expr} {es : List Expr} {o : Option Expr} {σ : L2.St} {H : Hp}
theorem pe_can : PE X e (tcE X e) := ⟨fun pins s σ H Q I h => h pins s I⟩
theorem pt_can : PT X e (tcT X e) := ⟨fun pins s σ H Q I h => h pins s I⟩
theorem pw_can : PW X e (tcW X e) := ⟨fun wh pins s σ H Q I h => h wh pins s I⟩
theorem pa_can : PA X es (tcA X es) := ⟨fun pos pins s σ H Q I h => h pos pins s I⟩
theorem po_can : PO X o (tcO X o) := ⟨fun pins s σ H Q I h => h pins s I⟩
theorem pi_can : PI X tg e (tcI X tg e) := ⟨fun pins s σ H Q I h => h pins s I⟩
theorem pe_can' {t : TE} (h : PE X e t) {Q : VK} (q : t σ H Q) : tcE X e σ H Q := fun pins s I => h.run pins s σ H Q I q
theorem pt_can' {t : TT} (h : PT X e t) {Q : Bool → Hp → Prop} (q : t σ H Q) : tcT X e σ H Q := fun pins s I => h.run pins s σ H Q I q
theorem pw_can' {t : TT} (h : PW X e t) {Q : Bool → Hp → Prop} (q : t σ H Q) : tcW X e σ H Q := fun wh pins s I => h.run wh pins s σ H Q I q
theorem pa_can' {t : TA} (h : PA X es t) {Q : List V → Hp → Prop} (q : t σ H Q) : tcA X es σ H Q := fun pos pins s I => h.run pos pins s σ H Q I q
theorem po_can' {t : TO} (h : PO X o t) {Q : Option Int → Hp → Prop} (q : t σ H Q) : tcO X o σ H Q := fun pins s I => h.run pins s σ H Q I q
theorem pi_can' {t : TI} (h : PI X tg e t) {R : It → Hp → Prop} (q : t σ H R) : tcI X tg e σ H R := fun pins s I => h.run pins s σ H R I q
/-- what the state says of the walk's heap may be used -/
theorem tcI_imp {R R' : It → Hp → Prop} (h : tcI X tg e σ H R) (w : ∀ J H' pins s, Inv X pins σ H' s → R J H' → R' J H') : tcI X tg e σ H R' := fun pins s I =>
  thn (h pins s I) fun v s1 h1 => thn h1 fun itv s2 ⟨it, fp, tn, J, H', e1, I2, T, t0, f, r⟩ => ⟨it, fp, tn, J, H', e1, I2, T, t0, f, w J H' pins s2 I2 r⟩
theorem tcE_imp {Q Q' : VK} (h : tcE X e σ H Q) (w : ∀ v H' pins s, Inv X pins σ H' s → Q v H' → Q' v H') : tcE X e σ H Q' := fun pins s I =>
  thn (h pins s I) fun v s1 ⟨x, H1, I1, r1, q1⟩ => ⟨x, H1, I1, r1, w x H1 pins s1 I1 q1⟩
end
/-! ### promises -/
def GX {α : Type} (XI : Ends1) (W : WX) (G H : Hp) (σ : L2.St) (ok : α → Prop) (r : Res α) : Prop := match r with
  | .ok a => ok a
  | .exc c p => ∀ G' H' cls d, Ext G H G' H' → XI c p cls d G' H' → W cls d σ H'
  | .bad => False
theorem GX.bind {α β : Type} {XI : Ends1} {W : WX} {G H : Hp} {σ : L2.St} {ok : β → Prop} {r : Res α} {f : α → Res β} (h : GX XI W G H σ ok (r.bind f)) : GX XI W G H σ (fun a => GX XI W G H σ ok (f a)) r := by
  cases r <;> exact h
theorem GX.imp {α : Type} {XI : Ends1} {W : WX} {G H : Hp} {σ : L2.St} {ok ok' : α → Prop} {r : Res α} (h : GX XI W G H σ ok r) (w : ∀ a, r = .ok a → ok a → ok' a) : GX XI W G H σ ok' r := by
  cases r with
  | ok a => exact w a rfl h
  | exc c p => exact h
  | bad => exact h
theorem GX.move {α : Type} {XI : Ends1} {W : WX} {G H G1 H1 : Hp} {σ : L2.St} {ok ok' : α → Prop} {r : Res α} (h : GX XI W G H σ ok r) (e : Ext G H G1 H1) (w : ∀ a, ok a → ok' a) : GX XI W G1 H1 σ ok' r := by
  cases r with
  | ok a => exact w a h
  | exc c p => exact fun G' H' cls d e2 x => h G' H' cls d (e.trans e2) x
  | bad => exact h
def RB (rd : Bool) (K : PySem.W.Frag) (G H : Hp) (v : V) (p : PV) : Prop := match rd with
  | true => RepX K G H v p
  | false => Rep K G v p
theorem RB.x {rd : Bool} {K : PySem.W.Frag} {G H : Hp} {v : V} {p : PV} (h : RB rd K G H v p) : RepX K G H v p := by
  cases rd with
  | true => exact h
  | false => exact .inl h
theorem RB.mono {rd : Bool} {K : PySem.W.Frag} {G H G' H' : Hp} {v : V} {p : PV} (h : RB rd K G H v p) (e : Ext G H G' H') : RB rd K G' H' v p := by
  cases rd with
  | true => exact RepX.mono h e
  | false => exact Rep.mono e.gs h
inductive RBs (rd : Bool) (K : PySem.W.Frag) (G H : Hp) : List V → List PV → Prop
  | nil : RBs rd K G H [] []
  | cons {v : V} {vs : List V} {p : PV} {ps : List PV} : RB rd K G H v p → RBs rd K G H vs ps → RBs rd K G H (v :: vs) (p :: ps)
theorem RBs.x {rd : Bool} {K : PySem.W.Frag} {G H : Hp} : ∀ {vs : List V} {ps : List PV}, RBs rd K G H vs ps → RepXs K G H vs ps
  | _, _, .nil => .nil
  | _, _, .cons r t => .cons r.x (RBs.x t)
theorem RBs.r {K : PySem.W.Frag} {G H : Hp} : ∀ {vs : List V} {ps : List PV}, RBs false K G H vs ps → Reps K G vs ps
  | _, _, .nil => .nil
  | _, _, .cons r t => .cons r (RBs.r t)
abbrev okE (rd : Bool) (K : PySem.W.Frag) (G H : Hp) (Q : VK) : PV → Prop := fun p => ∀ G' H' v, Ext G H G' H' → RB rd K G' H' v p → Q v H'
abbrev okT (G H : Hp) (Q : Bool → Hp → Prop) : Bool → Prop := fun b => ∀ G' H', Ext G H G' H' → Q b H'
abbrev okA (rd : Bool) (K : PySem.W.Frag) (G H : Hp) (Q : List V → Hp → Prop) : PV → Prop := fun l => ∃ ps, l = .lst ps ∧ ∀ G' H' vs, Ext G H G' H' → RBs rd K G' H' vs ps → Q vs H'
abbrev okO (G H : Hp) (Q : Option Int → Hp → Prop) : Option Int → Prop := fun o => ∀ G' H', Ext G H G' H' → Q o H'
abbrev cnd (rd : Bool) (G H : Hp) : Hp → Hp → Prop := match rd with
  | true => CC G H
  | false => CF G
abbrev okI (rd : Bool) (K : PySem.W.Frag) (G H : Hp) (R : It → Hp → Prop) : PV → Prop := fun l => ∃ xs, l = .lst xs ∧ ∀ G' H' J, Ext G H G' H' → ItP (cnd rd G' H') K J xs → xs.length ≤ sizeLine → R J H'
section
variable (B : Tb) (n : Nat) (N : List Str)
abbrev φn : Fns := callN B.TT B.κ B.cx B.wf n
abbrev XB (X : Cx) : Ends1 := XIs B X.K X.mg
def SE (rd : Bool) (c : C) : Prop := ∀ (sc : Scope) (e : Expr), (ck B N c).e rd sc e = true → ∀ (X : Cx) (W : WX), EC B n N sc X W → ∀ (G0 H0 G H : Hp) (ρ : List Slot) (σ : L2.St) (Q : VK), SI X.K G0 H0 G H ρ σ →
  GX (XB B X) W G H σ (okE rd X.K G H Q) (ev (φn B n) B.κ c ρ) → tcE X e σ H Q
def SB (c : C) : Prop := ∀ (op : BoolOp) (sc : Scope) (x : Expr) (r : List Expr) (pos : Pos), (ck B N c).b op sc (x :: r) = true → ∀ (X : Cx) (W : WX), EC B n N sc X W → ∀ (G0 H0 G H : Hp) (ρ : List Slot) (σ : L2.St) (Q : VK), SI X.K G0 H0 G H ρ σ →
  GX (XB B X) W G H σ (okE false X.K G H Q) (ev (φn B n) B.κ c ρ) → tcE X (.BoolOp op (x :: r) pos) σ H Q
def ST (c : C) : Prop := ∀ (sc : Scope) (e : Expr), (ck B N c).t sc e = true → ∀ (X : Cx) (W : WX), EC B n N sc X W → ∀ (G0 H0 G H : Hp) (ρ : List Slot) (σ : L2.St) (Q : Bool → Hp → Prop), SI X.K G0 H0 G H ρ σ →
  GX (XB B X) W G H σ (okT G H Q) ((ev (φn B n) B.κ c ρ).bind truP) → tcT X e σ H Q
def STB (c : C) : Prop := ∀ (op : BoolOp) (sc : Scope) (x : Expr) (r : List Expr) (pos : Pos), (ck B N c).tb op sc (x :: r) = true → ∀ (X : Cx) (W : WX), EC B n N sc X W → ∀ (G0 H0 G H : Hp) (ρ : List Slot) (σ : L2.St) (Q : Bool → Hp → Prop), SI X.K G0 H0 G H ρ σ →
  GX (XB B X) W G H σ (okT G H Q) ((ev (φn B n) B.κ c ρ).bind truP) → tcW X (.BoolOp op (x :: r) pos) σ H Q
def SA (rd : Bool) (c : C) : Prop := ∀ (sc : Scope) (es : List Expr), (ck B N c).a rd sc es = true → ∀ (X : Cx) (W : WX), EC B n N sc X W → ∀ (G0 H0 G H : Hp) (ρ : List Slot) (σ : L2.St) (Q : List V → Hp → Prop), SI X.K G0 H0 G H ρ σ →
  GX (XB B X) W G H σ (okA rd X.K G H Q) (ev (φn B n) B.κ c ρ) → tcA X es σ H Q
def SO (c : C) : Prop := ∀ (sc : Scope) (o : Option Expr), (ck B N c).p sc o = true → ∀ (X : Cx) (W : WX), EC B n N sc X W → ∀ (G0 H0 G H : Hp) (ρ : List Slot) (σ : L2.St) (Q : Option Int → Hp → Prop), SI X.K G0 H0 G H ρ σ →
  GX (XB B X) W G H σ (okO G H Q) (partC c (ev (φn B n) B.κ c ρ)) → tcO X o σ H Q
def SIt (rd : Bool) (c : C) : Prop := ∀ (sc : Scope) (tg e : Expr), (ck B N c).i rd (isTupE tg) sc e = true → ∀ (X : Cx) (W : WX), EC B n N sc X W → ∀ (G0 H0 G H : Hp) (ρ : List Slot) (σ : L2.St) (R : It → Hp → Prop), SI X.K G0 H0 G H ρ σ →
  GX (XB B X) W G H σ (okI rd X.K G H R) (ev (φn B n) B.κ c ρ) → tcI X tg e σ H R
structure Sd (c : C) : Prop where
  e : ∀ rd, SE B n N rd c
  b : SB B n N c
  t : ST B n N c
  tb : STB B n N c
  a : ∀ rd, SA B n N rd c
  o : SO B n N c
  i : ∀ rd, SIt B n N rd c
end
section
variable {B : Tb} {n : Nat} {N : List Str}
/-- from the plain look to that which may read -/
theorem SE.all {c : C} (h : SE B n N false c) (hk : ∀ rd sc e, (ck B N c).e rd sc e = true → (ck B N c).e false sc e = true) : ∀ rd, SE B n N rd c := fun rd => by
  cases rd with
  | false => exact h
  | true => exact fun sc e hc X W E G0 H0 G H ρ σ Q I g => h sc e (hk _ _ _ hc) X W E G0 H0 G H ρ σ Q I (g.imp fun p _ k G' H' v ex r => k G' H' v ex (.inl r))
theorem no_a {c : C} (h : (ck B N c).a = aNo) : ∀ rd, SA B n N rd c := fun rd sc es hc => by rw [h] at hc; cases hc
theorem no_i {c : C} (h : (ck B N c).i = iNo) : ∀ rd, SIt B n N rd c := fun rd sc tg e hc => by rw [h] at hc; cases hc
theorem partC_is {c : C} (h : c ≠ .nop) (r : Res PV) : partC c r = r.bind intP := by
  cases c <;> first | rfl | exact absurd rfl h
/-- a term that is an expression alone -/
theorem Sd.mk1 {c : C} {ef : Bool → Scope → Expr → Bool} (hck : ck B N c = mkE ef) (hn : c ≠ .nop) (h : ∀ rd, SE B n N rd c) : Sd B n N c where
  e := h
  b := fun op sc x r pos hc X W E G0 H0 G H ρ σ Q I g => by
    rw [hck] at hc
    cases r with
    | nil => exact pe_can' (pe_one pe_can) (h false sc x (by rw [hck]; exact hc) X W E G0 H0 G H ρ σ Q I g)
    | cons y r => cases hc
  t := fun sc e hc X W E G0 H0 G H ρ σ Q I g => by
    rw [hck] at hc
    have hc' : (ef true sc e && plainT e) = true := hc
    simp only [Bool.and_eq_true] at hc'
    refine pt_can' (pt_truth pe_can (fun wh => plainT_ok hc'.2 X.env wh)) ?_
    refine h true sc e (by rw [hck]; exact hc'.1) X W E G0 H0 G H ρ σ _ I (g.bind.imp fun p _ k G' H' v ex r => ?_)
    cases et : truP p with
    | ok b =>
      rw [et] at k
      exact ⟨b, tru_rep (I.grow ex).sub r et, k G' H' ex⟩
    | exc c o => exact absurd et truP_exc
    | bad => rw [et] at k; exact k.elim
  tb := fun op sc x r pos hc X W E G0 H0 G H ρ σ Q I g => by
    rw [hck] at hc
    cases r with
    | nil =>
      have hc' : (ef true sc x && plainT x) = true := hc
      simp only [Bool.and_eq_true] at hc'
      have hT : tcT X x σ H Q := by
        refine pt_can' (pt_truth pe_can (fun wh => plainT_ok hc'.2 X.env wh)) ?_
        refine h true sc x (by rw [hck]; exact hc'.1) X W E G0 H0 G H ρ σ _ I (g.bind.imp fun p _ k G' H' v ex r => ?_)
        cases et : truP p with
        | ok b =>
          rw [et] at k
          exact ⟨b, tru_rep (I.grow ex).sub r et, k G' H' ex⟩
        | exc c o => exact absurd et truP_exc
        | bad => rw [et] at k; exact k.elim
      cases op with
      | And => exact pw_can' (pw_and1 pt_can) hT
      | Or => exact pw_can' (pw_or1 pt_can) hT
    | cons y r => cases hc
  a := no_a (by rw [hck]; rfl)
  o := fun sc o hc X W E G0 H0 G H ρ σ Q I g => by
    rw [hck] at hc
    cases o with
    | none => cases hc
    | some x =>
      refine po_can' (po_some pe_can) ?_
      rw [partC_is hn] at g
      refine h false sc x (by rw [hck]; exact hc) X W E G0 H0 G H ρ σ _ I (g.bind.imp fun p _ k G' H' v ex r => ?_)
      cases p with
      | int i => cases r; exact ⟨i, rfl, k G' H' ex⟩
      | _ => exact k.elim
  i := no_i (by rw [hck]; rfl)
/-- a term with tests and rests of its own -/
theorem Sd.mk2 {c : C} {ef : Bool → Scope → Expr → Bool} {tf : Scope → Expr → Bool} {bx tbx : BoolOp → Scope → List Expr → Bool} (hck : ck B N c = mkC ef tf bx tbx) (hn : c ≠ .nop) (h : ∀ rd, SE B n N rd c) (st : ST B n N c)
    (sb : ∀ (op : BoolOp) (sc : Scope) (x y : Expr) (r : List Expr) (pos : Pos), bx op sc (x :: y :: r) = true → ∀ (X : Cx) (W : WX), EC B n N sc X W → ∀ (G0 H0 G H : Hp) (ρ : List Slot) (σ : L2.St) (Q : VK), SI X.K G0 H0 G H ρ σ →
      GX (XB B X) W G H σ (okE false X.K G H Q) (ev (φn B n) B.κ c ρ) → tcE X (.BoolOp op (x :: y :: r) pos) σ H Q)
    (stb : ∀ (op : BoolOp) (sc : Scope) (x y : Expr) (r : List Expr) (pos : Pos), tbx op sc (x :: y :: r) = true → ∀ (X : Cx) (W : WX), EC B n N sc X W → ∀ (G0 H0 G H : Hp) (ρ : List Slot) (σ : L2.St) (Q : Bool → Hp → Prop), SI X.K G0 H0 G H ρ σ →
      GX (XB B X) W G H σ (okT G H Q) ((ev (φn B n) B.κ c ρ).bind truP) → tcW X (.BoolOp op (x :: y :: r) pos) σ H Q) : Sd B n N c where
  e := h
  b := fun op sc x r pos hc X W E G0 H0 G H ρ σ Q I g => by
    rw [hck] at hc
    cases r with
    | nil => exact pe_can' (pe_one pe_can) (h false sc x (by rw [hck]; exact hc) X W E G0 H0 G H ρ σ Q I g)
    | cons y r => exact sb op sc x y r pos hc X W E G0 H0 G H ρ σ Q I g
  t := st
  tb := fun op sc x r pos hc X W E G0 H0 G H ρ σ Q I g => by
    rw [hck] at hc
    cases r with
    | nil =>
      have hT : tcT X x σ H Q := st sc x (by rw [hck]; exact hc) X W E G0 H0 G H ρ σ Q I g
      cases op with
      | And => exact pw_can' (pw_and1 pt_can) hT
      | Or => exact pw_can' (pw_or1 pt_can) hT
    | cons y r => exact stb op sc x y r pos hc X W E G0 H0 G H ρ σ Q I g
  a := no_a (by rw [hck]; rfl)
  o := fun sc o hc X W E G0 H0 G H ρ σ Q I g => by
    rw [hck] at hc
    cases o with
    | none => cases hc
    | some x =>
      refine po_can' (po_some pe_can) ?_
      rw [partC_is hn] at g
      refine h false sc x (by rw [hck]; exact hc) X W E G0 H0 G H ρ σ _ I (g.bind.imp fun p _ k G' H' v ex r => ?_)
      cases p with
      | int i => cases r; exact ⟨i, rfl, k G' H' ex⟩
      | _ => exact k.elim
  i := no_i (by rw [hck]; rfl)
end
end Z
end
section
namespace Z
open PySem PySem.Spec PyProof.Rows L2
section
variable {B : Tb} {n : Nat} {N : List Str}
theorem and3 {a b c : Bool} (h : (a && b && c) = true) : a = true ∧ b = true ∧ c = true := by
  simp only [Bool.and_eq_true] at h
  exact ⟨h.1.1, h.1.2, h.2⟩
theorem EC.vis {sc : Scope} {X : Cx} {W : WX} (E : EC B n N sc X W) {x : Str} (h : Vis sc x) : Vis X.env.scope x := by rw [E.scope]; exact h
theorem EC.gl {sc : Scope} {X : Cx} {W : WX} (E : EC B n N sc X W) {x : Str} (h : sc.names.lookup x = some .globalImplicit) : Gl X x := by
  show X.env.scope.names.lookup x = _
  rw [E.scope]; exact h
theorem EC.blt {sc : Scope} {X : Cx} {W : WX} (E : EC B n N sc X W) {x : Str} (h : x ∈ bltN) : X.mg x = none := E.wo.blt x h
/-- a name: its slot holds v -/
theorem name_ok {i : Nat} {x : Str} {pos : Pos} {sc : Scope} {X : Cx} {W : WX} (E : EC B n N sc X W) (h : ckVar N sc i x = true) {σ : L2.St} {H : Hp} {Q : VK} {v : V} (hv : σ[i]? = some (some v)) (q : Q v H) : tcE X (.Name x pos) σ H Q := by
  unfold ckVar at h
  simp only [Bool.and_eq_true, Bool.not_eq_true'] at h
  obtain ⟨⟨⟨h1, h2⟩, h3⟩, h4⟩ := h
  exact pe_can' (pe_var (i := i) (by rw [E.nm]; exact ixB_ok h1) (E.vis (visB_ok h2)) h3 h4) ⟨v, hv, q⟩
theorem sd_v (i : Nat) : Sd B n N (.v i) := by
  refine Sd.mk1 rfl (fun z => nomatch z) (SE.all ?_ fun _ _ _ h => h)
  intro sc e hc X W E G0 H0 G H ρ σ Q I g
  have hc : eV N i false sc e = true := hc
  unfold eV at hc
  split at hc
  · have g : GX _ W G H σ (okE false X.K G H Q) (match ρ[i]? with | some (.shr p) => .ok p | _ => .bad) := g
    split at g
    · rename_i p hp
      obtain ⟨v, hv, r⟩ := I.shr hp
      exact name_ok E hc hv (g G H v (Ext.refl I.sub) r)
    · exact g.elim
  · cases hc
theorem sd_rd (i : Nat) : Sd B n N (.rd i) := by
  refine Sd.mk1 rfl (fun z => nomatch z) fun rd => ?_
  intro sc e hc X W E G0 H0 G H ρ σ Q I g
  have hc : eRd N i rd sc e = true := hc
  unfold eRd at hc
  split at hc
  · simp only [Bool.and_eq_true] at hc
    obtain ⟨rfl, hc⟩ := hc
    have g : GX _ W G H σ (okE true X.K G H Q) (match ρ[i]? with | some (.shr p) => .ok p | some (.own xs) => .ok (.lst xs) | _ => .bad) := g
    split at g
    · rename_i p hp
      obtain ⟨v, hv, r⟩ := I.shr hp
      exact name_ok E hc hv (g G H v (Ext.refl I.sub) (.inl r))
    · rename_i xs hp
      obtain ⟨a, vs, hv, _, _, h, r⟩ := I.own hp
      exact name_ok E hc hv (g G H _ (Ext.refl I.sub) (.inr ⟨a, vs, xs, rfl, rfl, h, r⟩))
    · exact g.elim
  · cases hc
theorem ckK_ok {p : PV} {c : Const} (h : ckK p c = true) {X : Cx} {j : Nat} {pos : Pos} {G H : Hp} {σ : L2.St} {Q : VK} (q : ∀ v, Rep X.K G v p → Q v H) : tcE X (.Constant c j pos) σ H Q := by
  unfold ckK at h
  split at h
  · exact pe_can' pe_non (q _ .non)
  · rename_i a b
    have e : a = b := by simpa using h
    subst e
    exact pe_can' pe_bl (q _ (.bl _))
  · rename_i a b
    have e : a = b := by simpa using h
    subst e
    exact pe_can' pe_int (q _ (.int _))
  · rename_i s z
    simp only [Bool.and_eq_true, decide_eq_true_eq] at h
    obtain ⟨⟨rfl, h2⟩, h3⟩ := h
    refine pe_can' pe_str (q _ (.str _ (fun c hc => ?_) (fits_le h3)))
    have := List.all_eq_true.mp h2 c hc
    exact Nat.le_of_ble_eq_true this
  · cases h
theorem sd_k (p : PV) : Sd B n N (.k p) := by
  refine Sd.mk1 rfl (fun z => nomatch z) (SE.all ?_ fun _ _ _ h => h)
  intro sc e hc X W E G0 H0 G H ρ σ Q I g
  have hc : eK p false sc e = true := hc
  unfold eK at hc
  split at hc
  · exact ckK_ok hc fun v r => g G H v (Ext.refl I.sub) r
  · cases hc
theorem sd_g (i : Nat) : Sd B n N (.g i) := by
  refine Sd.mk1 rfl (fun z => nomatch z) (SE.all ?_ fun _ _ _ h => h)
  intro sc e hc X W E G0 H0 G H ρ σ Q I g
  have hc : eG B i false sc e = true := hc
  unfold eG at hc
  split at hc
  · simp only [Bool.and_eq_true] at hc
    obtain ⟨g1, g2, _⟩ := glB_ok hc.2
    have g : GX _ W G H σ (okE false X.K G H Q) (match B.κ i with | some p => .ok p | none => .bad) := g
    split at g
    · rename_i p hp
      obtain ⟨v, u, h1, h2, h3⟩ := E.wo.con i _ p (nmB_ok hc.1) hp
      exact pe_can' (pe_glob (E.gl g1) h1 h2 g2) (g G H v (Ext.refl I.sub) (h3.mono fun b o z => by cases z))
    · exact g.elim
  · cases hc
/-- two operands -/
theorem two_ok {a b : C} {x y : Expr} {sc : Scope} {X : Cx} {W : WX} (Sa : Sd B n N a) (Sb : Sd B n N b) (E : EC B n N sc X W) {ra rb : Bool} (ha : (ck B N a).e ra sc x = true) (hb : (ck B N b).e rb sc y = true)
    {G0 H0 G H : Hp} {ρ : List Slot} {σ : L2.St} (I : SI X.K G0 H0 G H ρ σ) {K : V → V → Hp → Prop} {ok : PV → Prop} {f : PV → PV → Res PV}
    (g : GX (XB B X) W G H σ ok ((ev (φn B n) B.κ a ρ).bind fun x => (ev (φn B n) B.κ b ρ).bind fun y => f x y))
    (k : ∀ p q G' H' v u, Ext G H G' H' → SI X.K G0 H0 G' H' ρ σ → RB ra X.K G' H' v p → RB rb X.K G' H' u q → GX (XB B X) W G H σ ok (f p q) → K v u H') :
    tcE X x σ H fun v H1 => tcE X y σ H1 fun u H2 => K v u H2 := by
  refine Sa.e ra sc x ha X W E G0 H0 G H ρ σ _ I (g.bind.imp fun p _ g1 G1 H1 v e1 r1 => ?_)
  have I1 := I.grow e1
  refine Sb.e rb sc y hb X W E G0 H0 G1 H1 ρ σ _ I1 ((GX.move (ok' := fun q => GX (XB B X) W G H σ ok (f p q)) g1.bind e1 fun q h => h).imp fun q _ g2 G2 H2 u e2 r2 => ?_)
  exact k p q G2 H2 v u (e1.trans e2) (I1.grow e2) (r1.mono e2) r2 g2
theorem GX.ge {XI : Ends1} {W : WX} {G H G1 H1 : Hp} {σ : L2.St} {K : PySem.W.Frag} {Q : VK} {r : Res PV} (h : GX XI W G H σ (okE false K G H Q) r) (e : Ext G H G1 H1) : GE K XI W G1 H1 σ r Q := by
  cases r with
  | ok p => exact fun G' H' v e2 rv => h G' H' v (e.trans e2) rv
  | exc c p => exact fun G' H' cls d e2 x => h G' H' cls d (e.trans e2) x
  | bad => exact h
theorem cmp_bl {op : Cop} {p q z : PV} (ec : cmpP op p q = .ok z) : ∃ b, z = .bl b := by
  unfold cmpP at ec
  split at ec <;> first | (cases ec; exact ⟨_, rfl⟩) | (split at ec <;> first | (cases ec; exact ⟨_, rfl⟩) | cases ec) | cases ec
theorem chn_bl {φ : Fns} {κ : Cons} {op op' : Cop} {a b c : C} {ρ : List Slot} {z : PV} (ec : ev φ κ (.chn op op' a b c) ρ = .ok z) : ∃ b, z = .bl b := by
  have ec : ((ev φ κ a ρ).bind fun x => (ev φ κ b ρ).bind fun y => (cmpP op x y).bind fun r => match r with
    | .bl true => (ev φ κ c ρ).bind fun z => cmpP op' y z
    | .bl false => .ok (.bl false)
    | _ => .bad) = .ok z := ec
  cases ea : ev φ κ a ρ with
  | ok x =>
    rw [ea] at ec
    cases eb : ev φ κ b ρ with
    | ok y =>
      rw [eb] at ec
      cases e1 : cmpP op x y with
      | ok r =>
        have ec : (Res.bind (cmpP op x y) fun r => match r with
          | .bl true => (ev φ κ c ρ).bind fun z => cmpP op' y z
          | .bl false => .ok (.bl false)
          | _ => .bad) = .ok z := ec
        rw [e1] at ec
        obtain ⟨b1, rfl⟩ := cmp_bl e1
        cases b1 with
        | true =>
          have ec : ((ev φ κ c ρ).bind fun z => cmpP op' y z) = .ok z := ec
          cases e2 : ev φ κ c ρ with
          | ok w => rw [e2] at ec; exact cmp_bl ec
          | exc c o => rw [e2] at ec; cases ec
          | bad => rw [e2] at ec; cases ec
        | false => cases ec; exact ⟨_, rfl⟩
      | exc c0 o =>
        have ec : (Res.bind (cmpP op x y) fun r => match r with
          | .bl true => (ev φ κ c ρ).bind fun z => cmpP op' y z
          | .bl false => .ok (.bl false)
          | _ => .bad) = .ok z := ec
        rw [e1] at ec; cases ec
      | bad =>
        have ec : (Res.bind (cmpP op x y) fun r => match r with
          | .bl true => (ev φ κ c ρ).bind fun z => cmpP op' y z
          | .bl false => .ok (.bl false)
          | _ => .bad) = .ok z := ec
        rw [e1] at ec; cases ec
    | exc c o => rw [eb] at ec; cases ec
    | bad => rw [eb] at ec; cases ec
  | exc c o => rw [ea] at ec; cases ec
  | bad => rw [ea] at ec; cases ec
theorem units65 {k : Nat} {A : Around} (r : Room k A) : A.units + 65 < cLine := by
  have := r.un
  omega
theorem sd_bin (op : Bop) {a b : C} (Sa : Sd B n N a) (Sb : Sd B n N b) : Sd B n N (.bin op a b) := by
  refine Sd.mk1 rfl (fun z => nomatch z) (SE.all ?_ fun _ _ _ h => h)
  intro sc e hc X W E G0 H0 G H ρ σ Q I g
  have hc : eBin op (ck B N a) (ck B N b) false sc e = true := hc
  unfold eBin at hc
  split at hc
  · obtain ⟨h1, h2, h3⟩ := and3 hc
    have h1' := bopB_ok h1
    subst h1'
    refine pe_can' (pe_op (opCan_ok X _) pe_can pe_can) ?_
    exact two_ok Sa Sb E h2 h3 I g fun p q G' H' v u ex I' r1 r2 g' => bin_ok op I'.sub r1 r2 (g'.ge ex)
  · cases hc
theorem sd_cmp (op : Cop) {a b : C} (Sa : Sd B n N a) (Sb : Sd B n N b) : Sd B n N (.cmp op a b) := by
  have key : ∀ sc e, eCmp op (ck B N a) (ck B N b) false sc e = true → ∃ x y pos, e = .Compare x [copE op] [y] pos ∧ (ck B N a).e true sc x = true ∧ (ck B N b).e true sc y = true ∧ notSet y = true := fun sc e hc => by
    unfold eCmp at hc
    split at hc
    · simp only [Bool.and_eq_true] at hc
      obtain ⟨⟨⟨h1, h2⟩, h3⟩, h4⟩ := hc
      have h1' := copB_ok h1
      subst h1'
      exact ⟨_, _, _, rfl, h2, h3, h4⟩
    · cases hc
  have se : SE B n N false (.cmp op a b) := by
    intro sc e hc X W E G0 H0 G H ρ σ Q I g
    obtain ⟨x, y, pos, rfl, h2, h3, h4⟩ := key sc e hc
    refine pe_can' (pe_cmpR (opCan_ok X _) pe_can pe_can (notSet_marks h4)) ?_
    exact two_ok Sa Sb E h2 h3 I g fun p q G' H' v u ex I' r1 r2 g' => cmp_ok op (units65 E.room) I'.sub r1 r2 (g'.ge ex)
  have st : ∀ sc e, eCmp op (ck B N a) (ck B N b) false sc e = true → ∀ (X : Cx) (W : WX), EC B n N sc X W → ∀ (G0 H0 G H : Hp) (ρ : List Slot) (σ : L2.St) (Q : Bool → Hp → Prop), SI X.K G0 H0 G H ρ σ →
      GX (XB B X) W G H σ (okT G H Q) ((ev (φn B n) B.κ (.cmp op a b) ρ).bind truP) → tcT X e σ H Q := by
    intro sc e hc X W E G0 H0 G H ρ σ Q I g
    obtain ⟨x, y, pos, rfl, h2, h3, h4⟩ := key sc e hc
    refine pt_can' (pt_cmpR (opCan_ok X _) pe_can pe_can (notSet_marks h4)) ?_
    refine two_ok Sa Sb E h2 h3 I g.bind fun p q G' H' v u ex I' r1 r2 g' => cmp_ok (XI := XB B X) (W := W) (σ := σ) op (units65 E.room) I'.sub r1 r2 ?_
    cases ec : cmpP op p q with
    | ok z =>
      rw [ec] at g'
      intro G2 H2 w e2 rw2
      obtain ⟨b, rfl⟩ := cmp_bl ec
      cases rw2
      exact ⟨b, rfl, g' G2 H2 (ex.trans e2)⟩
    | exc c o => rw [ec] at g'; exact fun G2 H2 cls d e2 xx => g' G2 H2 cls d (ex.trans e2) xx
    | bad => rw [ec] at g'; exact g'
  exact Sd.mk2 rfl (fun z => nomatch z) (SE.all se fun _ _ _ h => h) st (fun _ _ _ _ _ _ h => nomatch h) (fun _ _ _ _ _ _ h => nomatch h)
/-- a chain of two comparisons -/
theorem sd_chn (op op' : Cop) {a b c : C} (Sa : Sd B n N a) (Sb : Sd B n N b) (Sc : Sd B n N c) : Sd B n N (.chn op op' a b c) := by
  have key : ∀ sc e, eChn op op' (ck B N a) (ck B N b) (ck B N c) false sc e = true → ∃ x y z pos, e = .Compare x [copE op, copE op'] [y, z] pos ∧ (ck B N a).e true sc x = true ∧ (ck B N b).e true sc y = true ∧ (ck B N c).e true sc z = true ∧ notSet z = true := fun sc e hc => by
    unfold eChn at hc
    split at hc
    · simp only [Bool.and_eq_true] at hc
      obtain ⟨⟨⟨⟨⟨h1, h0⟩, h2⟩, h3⟩, h5⟩, h4⟩ := hc
      have h1' := copB_ok h1
      subst h1'
      have h0' := copB_ok h0
      subst h0'
      exact ⟨_, _, _, _, rfl, h2, h3, h5, h4⟩
    · cases hc
  have core : ∀ (sc : Scope) (x y z : Expr), (ck B N a).e true sc x = true → (ck B N b).e true sc y = true → (ck B N c).e true sc z = true → ∀ (X : Cx) (W : WX), EC B n N sc X W → ∀ (G0 H0 G H : Hp) (ρ : List Slot) (σ : L2.St) (Q : VK) (ok : PV → Prop), SI X.K G0 H0 G H ρ σ →
      (∀ p, ok p → okE false X.K G H Q p) → GX (XB B X) W G H σ ok (ev (φn B n) B.κ (.chn op op' a b c) ρ) → tChain (opCan X (compareOp (copE op))) (opCan X (compareOp (copE op'))) (tcE X x) (tcE X y) (tcE X z) σ H Q := by
    intro sc x y z h2 h3 h5 X W E G0 H0 G H ρ σ Q ok I hok g
    refine two_ok Sa Sb E h2 h3 I g fun p q G' H' v u ex I' r1 r2 g' => cmp_ok (XI := XB B X) (W := W) (σ := σ) op (units65 E.room) I'.sub r1.x r2.x ?_
    cases ec : cmpP op p q with
    | ok w =>
      rw [ec] at g'
      intro G2 H2 w' e2 rw2
      obtain ⟨b1, rfl⟩ := cmp_bl ec
      cases rw2
      refine ⟨b1, rfl, ?_⟩
      cases b1 with
      | false => exact iteF (hok _ g' G2 H2 _ (ex.trans e2) (.bl _))
      | true =>
        refine iteT ?_
        have I2 := I'.grow e2
        have exx := ex.trans e2
        have g3 : GX (XB B X) W G H σ ok ((ev (φn B n) B.κ c ρ).bind fun z => cmpP op' q z) := g'
        refine Sc.e true sc z h5 X W E G0 H0 G2 H2 ρ σ _ I2 ((GX.move (ok' := fun s => GX (XB B X) W G H σ ok (cmpP op' q s)) g3.bind exx fun s h => h).imp fun s _ g4 G3 H3 u3 e3 r3 => ?_)
        exact cmp_ok (XI := XB B X) (W := W) (σ := σ) op' (units65 E.room) (I2.grow e3).sub ((r2.mono e2).mono e3).x r3.x ((g4.imp fun p _ h => hok p h).ge (exx.trans e3))
    | exc c o => rw [ec] at g'; exact fun G2 H2 cls d e2 xx => g' G2 H2 cls d (ex.trans e2) xx
    | bad => rw [ec] at g'; exact g'
  have se : SE B n N false (.chn op op' a b c) := by
    intro sc e hc X W E G0 H0 G H ρ σ Q I g
    obtain ⟨x, y, z, pos, rfl, h2, h3, h5, h4⟩ := key sc e hc
    refine pe_can' (pe_chain (opCan_ok X _) (opCan_ok X _) pe_can pe_can pe_can (notSet_marks (op := copE op') h4)) ?_
    exact core sc x y z h2 h3 h5 X W E G0 H0 G H ρ σ Q _ I (fun _ h => h) g
  have st : ST B n N (.chn op op' a b c) := by
    intro sc e hc X W E G0 H0 G H ρ σ Q I g
    obtain ⟨x, y, z, pos, rfl, h2, h3, h5, h4⟩ := key sc e hc
    refine pt_can' (pt_chain (opCan_ok X _) (opCan_ok X _) pe_can pe_can pe_can (notSet_marks (op := copE op') h4)) ?_
    refine core sc x y z h2 h3 h5 X W E G0 H0 G H ρ σ _ _ I (fun p hp G' H' v ex r => ?_) (g.bind.imp (ok' := fun p => ∃ b, p = .bl b ∧ okT G H Q b) fun p ep hp => ?_)
    · obtain ⟨b1, rfl, hb⟩ := hp
      cases r
      exact ⟨b1, rfl, hb G' H' ex⟩
    · obtain ⟨b1, rfl⟩ := chn_bl ep
      exact ⟨b1, rfl, hp⟩
  exact Sd.mk2 rfl (fun z => nomatch z) (SE.all se fun _ _ _ h => h) st (fun _ _ _ _ _ _ h => nomatch h) (fun _ _ _ _ _ _ h => nomatch h)
theorem sd_neg {a : C} (Sa : Sd B n N a) : Sd B n N (.neg a) := by
  refine Sd.mk1 rfl (fun z => nomatch z) (SE.all ?_ fun _ _ _ h => h)
  intro sc e hc X W E G0 H0 G H ρ σ Q I g
  have hc : eNeg (ck B N a) false sc e = true := hc
  unfold eNeg at hc
  split at hc
  · refine pe_can' (pe_un un_neg pe_can) ?_
    refine Sa.e false sc _ hc X W E G0 H0 G H ρ σ _ I ((GX.bind g).imp fun p _ g1 G1 H1 v e1 r1 => ?_)
    cases p with
    | int i => cases r1; exact ⟨i, rfl, g1 G1 H1 _ e1 (.int _)⟩
    | _ => exact g1.elim
  · cases hc
theorem sd_nt {a : C} (Sa : Sd B n N a) : Sd B n N (.nt a) := by
  have se : SE B n N false (.nt a) := by
    intro sc e hc X W E G0 H0 G H ρ σ Q I g
    have hc : eNt (ck B N a) false sc e = true := hc
    unfold eNt at hc
    split at hc
    · refine pe_can' (pe_notT pe_can) ?_
      refine Sa.e true sc _ hc X W E G0 H0 G H ρ σ _ I ((GX.bind g).imp fun p _ g1 G1 H1 v e1 r1 => ?_)
      cases et : truP p with
      | ok b =>
        rw [et] at g1
        exact ⟨b, tru_rep (I.grow e1).sub r1 et, g1 G1 H1 _ e1 (.bl _)⟩
      | exc c o => exact absurd et truP_exc
      | bad => rw [et] at g1; exact g1.elim
    · cases hc
  have st : ST B n N (.nt a) := by
    intro sc e hc X W E G0 H0 G H ρ σ Q I g
    have hc : tNt (ck B N a) sc e = true := hc
    unfold tNt at hc
    split at hc
    · refine pt_can' (pt_not pt_can) ?_
      refine Sa.t sc _ hc X W E G0 H0 G H ρ σ _ I ?_
      have e : ((ev (φn B n) B.κ (.nt a) ρ).bind truP) = (((ev (φn B n) B.κ a ρ).bind truP).bind fun t => .ok (!t)) := by
        show (((ev (φn B n) B.κ a ρ).bind fun x => (truP x).bind fun t => .ok (.bl (!t))).bind truP) = _
        cases ev (φn B n) B.κ a ρ with
        | ok p =>
          show (((truP p).bind fun t => .ok (.bl (!t))).bind truP) = ((truP p).bind fun t => .ok (!t))
          cases truP p <;> rfl
        | exc c o => rfl
        | bad => rfl
      rw [e] at g
      exact g.bind
    · cases hc
  exact Sd.mk2 rfl (fun z => nomatch z) (SE.all se fun _ _ _ h => h) st (fun _ _ _ _ _ _ h => nomatch h) (fun _ _ _ _ _ _ h => nomatch h)
/-- and, as a value -/
theorem an_ok {a b : C} {op : BoolOp} (hop : op = .And) {sc : Scope} {x y : Expr} {r : List Expr} {pos : Pos} (Sa : Sd B n N a) (Sb : Sd B n N b) (h1 : (ck B N a).e false sc x = true) (h2 : (ck B N b).b .And sc (y :: r) = true) {X : Cx} {W : WX} (E : EC B n N sc X W)
    {G0 H0 G H : Hp} {ρ : List Slot} {σ : L2.St} {Q : VK} (I : SI X.K G0 H0 G H ρ σ) (g : GX (XB B X) W G H σ (okE false X.K G H Q) (ev (φn B n) B.κ (.an a b) ρ)) : tcE X (.BoolOp op (x :: y :: r) pos) σ H Q := by
  subst hop
  refine pe_can' (pe_andT pe_can pe_can) ?_
  refine Sa.e false sc x h1 X W E G0 H0 G H ρ σ _ I ((GX.bind g).imp fun p _ g1 G1 H1 v e1 r1 => ?_)
  cases et : truP p with
  | ok t =>
    rw [et] at g1
    refine ⟨t, tru_rep (I.grow e1).sub (.inl r1) et, ?_⟩
    cases t with
    | true =>
      refine iteT ?_
      have g2 : GX (XB B X) W G H σ (okE false X.K G H Q) (ev (φn B n) B.κ b ρ) := g1
      exact Sb.b .And sc y r pos h2 X W E G0 H0 G1 H1 ρ σ _ (I.grow e1) (GX.move g2 e1 fun q k G' H' v ex rr => k G' H' v (e1.trans ex) rr)
    | false =>
      refine iteF ?_
      exact g1 G1 H1 v e1 r1
  | exc c o => exact absurd et truP_exc
  | bad => rw [et] at g1; exact g1.elim
theorem or_ok {a b : C} {op : BoolOp} (hop : op = .Or) {sc : Scope} {x y : Expr} {r : List Expr} {pos : Pos} (Sa : Sd B n N a) (Sb : Sd B n N b) (h1 : (ck B N a).e false sc x = true) (h2 : (ck B N b).b .Or sc (y :: r) = true) {X : Cx} {W : WX} (E : EC B n N sc X W)
    {G0 H0 G H : Hp} {ρ : List Slot} {σ : L2.St} {Q : VK} (I : SI X.K G0 H0 G H ρ σ) (g : GX (XB B X) W G H σ (okE false X.K G H Q) (ev (φn B n) B.κ (.or a b) ρ)) : tcE X (.BoolOp op (x :: y :: r) pos) σ H Q := by
  subst hop
  refine pe_can' (pe_orT pe_can pe_can) ?_
  refine Sa.e false sc x h1 X W E G0 H0 G H ρ σ _ I ((GX.bind g).imp fun p _ g1 G1 H1 v e1 r1 => ?_)
  cases et : truP p with
  | ok t =>
    rw [et] at g1
    refine ⟨t, tru_rep (I.grow e1).sub (.inl r1) et, ?_⟩
    cases t with
    | false =>
      refine iteF ?_
      have g2 : GX (XB B X) W G H σ (okE false X.K G H Q) (ev (φn B n) B.κ b ρ) := g1
      exact Sb.b .Or sc y r pos h2 X W E G0 H0 G1 H1 ρ σ _ (I.grow e1) (GX.move g2 e1 fun q k G' H' v ex rr => k G' H' v (e1.trans ex) rr)
    | true =>
      refine iteT ?_
      exact g1 G1 H1 v e1 r1
  | exc c o => exact absurd et truP_exc
  | bad => rw [et] at g1; exact g1.elim
theorem anT_ok {a b : C} {op : BoolOp} (hop : op = .And) {sc : Scope} {x y : Expr} {r : List Expr} {pos : Pos} (Sa : Sd B n N a) (Sb : Sd B n N b) (h1 : (ck B N a).t sc x = true) (h2 : (ck B N b).tb .And sc (y :: r) = true) {X : Cx} {W : WX} (E : EC B n N sc X W)
    {G0 H0 G H : Hp} {ρ : List Slot} {σ : L2.St} {Q : Bool → Hp → Prop} (I : SI X.K G0 H0 G H ρ σ) (g : GX (XB B X) W G H σ (okT G H Q) ((ev (φn B n) B.κ (.an a b) ρ).bind truP)) : tcW X (.BoolOp op (x :: y :: r) pos) σ H Q := by
  subst hop
  refine pw_can' (pw_and pt_can pw_can) ?_
  have e : ((ev (φn B n) B.κ (.an a b) ρ).bind truP) = (((ev (φn B n) B.κ a ρ).bind truP).bind fun t => if t then (ev (φn B n) B.κ b ρ).bind truP else .ok false) := by
    show (((ev (φn B n) B.κ a ρ).bind fun x => (truP x).bind fun t => if t then ev (φn B n) B.κ b ρ else .ok x).bind truP) = _
    cases ev (φn B n) B.κ a ρ with
    | ok p =>
      cases h : truP p with
      | ok t => cases t <;> simp [Res.bind, h]
      | exc c o => simp [Res.bind, h]
      | bad => simp [Res.bind, h]
    | exc c o => rfl
    | bad => rfl
  rw [e] at g
  refine Sa.t sc x h1 X W E G0 H0 G H ρ σ _ I (g.bind.imp fun t _ g1 G1 H1 e1 => ?_)
  cases t with
  | true =>
    refine iteT ?_
    have g2 : GX (XB B X) W G H σ (okT G H Q) ((ev (φn B n) B.κ b ρ).bind truP) := g1
    exact Sb.tb .And sc y r pos h2 X W E G0 H0 G1 H1 ρ σ _ (I.grow e1) (GX.move g2 e1 fun q k G' H' ex => k G' H' (e1.trans ex))
  | false =>
    refine iteF ?_
    exact g1 G1 H1 e1
theorem orT_ok {a b : C} {op : BoolOp} (hop : op = .Or) {sc : Scope} {x y : Expr} {r : List Expr} {pos : Pos} (Sa : Sd B n N a) (Sb : Sd B n N b) (h1 : (ck B N a).t sc x = true) (h2 : (ck B N b).tb .Or sc (y :: r) = true) {X : Cx} {W : WX} (E : EC B n N sc X W)
    {G0 H0 G H : Hp} {ρ : List Slot} {σ : L2.St} {Q : Bool → Hp → Prop} (I : SI X.K G0 H0 G H ρ σ) (g : GX (XB B X) W G H σ (okT G H Q) ((ev (φn B n) B.κ (.or a b) ρ).bind truP)) : tcW X (.BoolOp op (x :: y :: r) pos) σ H Q := by
  subst hop
  refine pw_can' (pw_or pt_can pw_can) ?_
  have e : ((ev (φn B n) B.κ (.or a b) ρ).bind truP) = (((ev (φn B n) B.κ a ρ).bind truP).bind fun t => if t then .ok true else (ev (φn B n) B.κ b ρ).bind truP) := by
    show (((ev (φn B n) B.κ a ρ).bind fun x => (truP x).bind fun t => if t then .ok x else ev (φn B n) B.κ b ρ).bind truP) = _
    cases ev (φn B n) B.κ a ρ with
    | ok p =>
      cases h : truP p with
      | ok t => cases t <;> simp [Res.bind, h]
      | exc c o => simp [Res.bind, h]
      | bad => simp [Res.bind, h]
    | exc c o => rfl
    | bad => rfl
  rw [e] at g
  refine Sa.t sc x h1 X W E G0 H0 G H ρ σ _ I (g.bind.imp fun t _ g1 G1 H1 e1 => ?_)
  cases t with
  | false =>
    refine iteF ?_
    have g2 : GX (XB B X) W G H σ (okT G H Q) ((ev (φn B n) B.κ b ρ).bind truP) := g1
    exact Sb.tb .Or sc y r pos h2 X W E G0 H0 G1 H1 ρ σ _ (I.grow e1) (GX.move g2 e1 fun q k G' H' ex => k G' H' (e1.trans ex))
  | true =>
    refine iteT ?_
    exact g1 G1 H1 e1
theorem tcT_of_W {X : Cx} {e : Expr} {σ : L2.St} {H : Hp} {Q : Bool → Hp → Prop} (h : tcW X e σ H Q) : tcT X e σ H Q := fun pins s I => h _ pins s I
theorem sd_an {a b : C} (Sa : Sd B n N a) (Sb : Sd B n N b) : Sd B n N (.an a b) := by
  refine Sd.mk2 rfl (fun z => nomatch z) (SE.all ?_ fun _ _ _ h => h) ?_ ?_ ?_
  · intro sc e hc X W E G0 H0 G H ρ σ Q I g
    have hc : eAn (ck B N a) (ck B N b) false sc e = true := hc
    unfold eAn at hc
    split at hc
    · simp only [Bool.and_eq_true] at hc
      exact an_ok rfl Sa Sb hc.1 hc.2 E I g
    · cases hc
  · intro sc e hc X W E G0 H0 G H ρ σ Q I g
    have hc : tAn (ck B N a) (ck B N b) sc e = true := hc
    unfold tAn at hc
    split at hc
    · simp only [Bool.and_eq_true] at hc
      exact tcT_of_W (anT_ok rfl Sa Sb hc.1 hc.2 E I g)
    · cases hc
  · intro op sc x y r pos hc X W E G0 H0 G H ρ σ Q I g
    have hc : bAn (ck B N a) (ck B N b) op sc (x :: y :: r) = true := hc
    unfold bAn at hc
    cases op with
    | And =>
      simp only [Bool.and_eq_true] at hc
      exact an_ok rfl Sa Sb hc.1 hc.2 E I g
    | Or => cases hc
  · intro op sc x y r pos hc X W E G0 H0 G H ρ σ Q I g
    have hc : tbAn (ck B N a) (ck B N b) op sc (x :: y :: r) = true := hc
    unfold tbAn at hc
    cases op with
    | And =>
      simp only [Bool.and_eq_true] at hc
      exact anT_ok rfl Sa Sb hc.1 hc.2 E I g
    | Or => cases hc
theorem sd_or {a b : C} (Sa : Sd B n N a) (Sb : Sd B n N b) : Sd B n N (.or a b) := by
  refine Sd.mk2 rfl (fun z => nomatch z) (SE.all ?_ fun _ _ _ h => h) ?_ ?_ ?_
  · intro sc e hc X W E G0 H0 G H ρ σ Q I g
    have hc : eOr (ck B N a) (ck B N b) false sc e = true := hc
    unfold eOr at hc
    split at hc
    · simp only [Bool.and_eq_true] at hc
      exact or_ok rfl Sa Sb hc.1 hc.2 E I g
    · cases hc
  · intro sc e hc X W E G0 H0 G H ρ σ Q I g
    have hc : tOr' (ck B N a) (ck B N b) sc e = true := hc
    unfold tOr' at hc
    split at hc
    · simp only [Bool.and_eq_true] at hc
      exact tcT_of_W (orT_ok rfl Sa Sb hc.1 hc.2 E I g)
    · cases hc
  · intro op sc x y r pos hc X W E G0 H0 G H ρ σ Q I g
    have hc : bOr (ck B N a) (ck B N b) op sc (x :: y :: r) = true := hc
    unfold bOr at hc
    cases op with
    | Or =>
      simp only [Bool.and_eq_true] at hc
      exact or_ok rfl Sa Sb hc.1 hc.2 E I g
    | And => cases hc
  · intro op sc x y r pos hc X W E G0 H0 G H ρ σ Q I g
    have hc : tbOr (ck B N a) (ck B N b) op sc (x :: y :: r) = true := hc
    unfold tbOr at hc
    cases op with
    | Or =>
      simp only [Bool.and_eq_true] at hc
      exact orT_ok rfl Sa Sb hc.1 hc.2 E I g
    | And => cases hc
theorem sd_ife {c a b : C} (Sc : Sd B n N c) (Sa : Sd B n N a) (Sb : Sd B n N b) : Sd B n N (.ife c a b) := by
  refine Sd.mk1 rfl (fun z => nomatch z) (SE.all ?_ fun _ _ _ h => h)
  intro sc e hc X W E G0 H0 G H ρ σ Q I g
  have hc : eIfe (ck B N c) (ck B N a) (ck B N b) false sc e = true := hc
  unfold eIfe at hc
  split at hc
  · obtain ⟨h1, h2, h3⟩ := and3 hc
    refine pe_can' (pe_ifExp pt_can pe_can pe_can) ?_
    have e : (ev (φn B n) B.κ (.ife c a b) ρ) = (((ev (φn B n) B.κ c ρ).bind truP).bind fun t => if t then ev (φn B n) B.κ a ρ else ev (φn B n) B.κ b ρ) := by
      show ((ev (φn B n) B.κ c ρ).bind fun x => (truP x).bind fun t => if t then ev (φn B n) B.κ a ρ else ev (φn B n) B.κ b ρ) = _
      cases ev (φn B n) B.κ c ρ <;> rfl
    rw [e] at g
    refine Sc.t sc _ h1 X W E G0 H0 G H ρ σ _ I (g.bind.imp fun t _ g1 G1 H1 e1 => ?_)
    cases t with
    | true =>
      refine iteT ?_
      have g2 : GX (XB B X) W G H σ (okE false X.K G H Q) (ev (φn B n) B.κ a ρ) := g1
      exact Sa.e false sc _ h2 X W E G0 H0 G1 H1 ρ σ _ (I.grow e1) (GX.move g2 e1 fun q k G' H' v ex rr => k G' H' v (e1.trans ex) rr)
    | false =>
      refine iteF ?_
      have g2 : GX (XB B X) W G H σ (okE false X.K G H Q) (ev (φn B n) B.κ b ρ) := g1
      exact Sb.e false sc _ h3 X W E G0 H0 G1 H1 ρ σ _ (I.grow e1) (GX.move g2 e1 fun q k G' H' v ex rr => k G' H' v (e1.trans ex) rr)
  · cases hc
end
end Z
end
section
namespace Z
open PySem PySem.Spec PyProof.Rows L2
section
variable {B : Tb} {n : Nat} {N : List Str}
theorem sd_none {c : C} (h : ck B N c = mkE eNo) (hn : c ≠ .nop) : Sd B n N c := Sd.mk1 h hn fun rd sc e hc => by rw [h] at hc; cases hc
/-- argument lists -/
theorem Sd.mkArgs {c : C} {af : Bool → Scope → List Expr → Bool} (hck : ck B N c = mkA af) (h : ∀ rd, SA B n N rd c) : Sd B n N c where
  e := fun rd sc e hc => by rw [hck] at hc; cases hc
  b := fun op sc x r pos hc => by rw [hck] at hc; cases hc
  t := fun sc e hc => by rw [hck] at hc; cases hc
  tb := fun op sc x r pos hc => by rw [hck] at hc; cases hc
  a := h
  o := fun sc o hc => by rw [hck] at hc; cases hc
  i := fun rd sc tg e hc => by rw [hck] at hc; cases hc
theorem Sd.mkIter {c : C} {f : Bool → Bool → Scope → Expr → Bool} (hck : ck B N c = mkI f) (h : ∀ rd, SIt B n N rd c) : Sd B n N c where
  e := fun rd sc e hc => by rw [hck] at hc; cases hc
  b := fun op sc x r pos hc => by rw [hck] at hc; cases hc
  t := fun sc e hc => by rw [hck] at hc; cases hc
  tb := fun op sc x r pos hc => by rw [hck] at hc; cases hc
  a := fun rd sc es hc => by rw [hck] at hc; cases hc
  o := fun sc o hc => by rw [hck] at hc; cases hc
  i := h
theorem sd_nop : Sd B n N .nop where
  e := fun rd sc e hc => by cases hc
  b := fun op sc x r pos hc => by cases hc
  t := fun sc e hc => by cases hc
  tb := fun op sc x r pos hc => by cases hc
  a := fun rd sc es hc => by cases hc
  o := fun sc o hc X W E G0 H0 G H ρ σ Q I g => by
    cases o with
    | none => exact po_can' po_none (g G H (Ext.refl I.sub))
    | some x => cases hc
  i := fun rd sc tg e hc => by cases hc
theorem sd_nil : Sd B n N .nil := by
  refine Sd.mkArgs rfl fun rd sc es hc X W E G0 H0 G H ρ σ Q I g => ?_
  cases es with
  | nil =>
    obtain ⟨ps, e, k⟩ := g
    cases e
    exact pa_can' pa_nil (k G H [] (Ext.refl I.sub) .nil)
  | cons x xs => cases hc
theorem sd_cons {a as : C} (Sa : Sd B n N a) (Ss : Sd B n N as) : Sd B n N (.cons a as) := by
  refine Sd.mkArgs rfl fun rd sc es hc X W E G0 H0 G H ρ σ Q I g => ?_
  cases es with
  | nil => cases hc
  | cons x xs =>
    obtain ⟨h1, h2, h3⟩ := and3 hc
    refine pa_can' (pa_cons pe_can pa_can (star_of h2)) ?_
    have g0 : GX (XB B X) W G H σ (okA rd X.K G H Q) ((ev (φn B n) B.κ a ρ).bind fun x => (ev (φn B n) B.κ as ρ).bind fun l => (lstOf l).bind fun xs => .ok (.lst (x :: xs))) := g
    refine Sa.e rd sc x h1 X W E G0 H0 G H ρ σ _ I (g0.bind.imp fun p _ g1 G1 H1 v e1 r1 => ?_)
    have I1 := I.grow e1
    refine Ss.a rd sc xs h3 X W E G0 H0 G1 H1 ρ σ _ I1 ((GX.move (ok' := fun l => GX (XB B X) W G H σ (okA rd X.K G H Q) ((lstOf l).bind fun xs => .ok (.lst (p :: xs)))) g1.bind e1 fun q h => h).imp fun l _ g2 => ?_)
    cases l with
    | lst ps =>
      obtain ⟨qs, e, k⟩ := g2
      cases e
      exact ⟨ps, rfl, fun G2 H2 vs e2 rs => k G2 H2 (v :: vs) (e1.trans e2) (.cons (r1.mono e2) rs)⟩
    | _ => exact g2.elim
theorem args_ok {es : C} {xs : List Expr} {rd : Bool} {sc : Scope} (Ss : Sd B n N es) (hc : (ck B N es).a rd sc xs = true) {X : Cx} {W : WX} (E : EC B n N sc X W) {G0 H0 G H : Hp} {ρ : List Slot} {σ : L2.St} (I : SI X.K G0 H0 G H ρ σ) {Q : List V → Hp → Prop} {ok : PV → Prop} {f : List PV → Res PV}
    (g : GX (XB B X) W G H σ ok ((ev (φn B n) B.κ es ρ).bind fun l => (lstOf l).bind fun xs => f xs))
    (k : ∀ ps G' H' vs, Ext G H G' H' → SI X.K G0 H0 G' H' ρ σ → RBs rd X.K G' H' vs ps → GX (XB B X) W G H σ ok (f ps) → Q vs H') : tcA X xs σ H Q := by
  refine Ss.a rd sc xs hc X W E G0 H0 G H ρ σ _ I (g.bind.imp fun l _ g1 => ?_)
  cases l with
  | lst ps => exact ⟨ps, rfl, fun G1 H1 vs e1 rs => k ps G1 H1 vs e1 (I.grow e1) rs g1⟩
  | _ => exact g1.elim
theorem ble1000 {n : Nat} (h : Nat.ble n 1000 = true) : n ≤ sizeLine := Nat.le_trans (Nat.le_of_ble_eq_true h) (by decide)
theorem argsLen {c : C} {rd : Bool} {sc : Scope} : ∀ {es : C} {xs : List Expr}, (ck B N es).a rd sc xs = true → ∀ {φ : Fns} {κ : Cons} {ρ : List Slot} {ps : List PV}, ev φ κ es ρ = Res.ok (PV.lst ps) → ps.length = xs.length := by
  intro es
  induction es with
  | nil =>
    intro xs hc φ κ ρ ps he
    cases xs with
    | nil => cases he; rfl
    | cons x xs => cases hc
  | cons a as _ ih =>
    intro xs hc φ κ ρ ps he
    cases xs with
    | nil => cases hc
    | cons x xs =>
      obtain ⟨h1, h2, h3⟩ := and3 hc
      have he : ((ev φ κ a ρ).bind fun x => (ev φ κ as ρ).bind fun l => (lstOf l).bind fun xs => Res.ok (PV.lst (x :: xs))) = Res.ok (PV.lst ps) := he
      cases ea : ev φ κ a ρ with
      | ok p =>
        rw [ea] at he
        have he : ((ev φ κ as ρ).bind fun l => (lstOf l).bind fun xs => Res.ok (PV.lst (p :: xs))) = Res.ok (PV.lst ps) := he
        cases eb : ev φ κ as ρ with
        | ok l =>
          rw [eb] at he
          cases l with
          | lst qs => cases he; simp [ih h3 eb]
          | _ => cases he
        | exc c o => rw [eb] at he; cases he
        | bad => rw [eb] at he; cases he
      | exc c o => rw [ea] at he; cases he
      | bad => rw [ea] at he; cases he
  | _ => intro xs hc; cases hc
theorem RBs.length {rd : Bool} {K : PySem.W.Frag} {G H : Hp} : ∀ {vs : List V} {ps : List PV}, RBs rd K G H vs ps → vs.length = ps.length
  | _, _, .nil => rfl
  | _, _, .cons _ t => congrArg (· + 1) (RBs.length t)
theorem sd_tup {es : C} (Ss : Sd B n N es) : Sd B n N (.tup es) := by
  refine Sd.mk1 rfl (fun z => nomatch z) (SE.all ?_ fun _ _ _ h => h)
  intro sc e hc X W E G0 H0 G H ρ σ Q I g
  have hc : eTup (ck B N es) false sc e = true := hc
  unfold eTup at hc
  split at hc
  · simp only [Bool.and_eq_true] at hc
    refine pe_can' (pe_tup pa_can) ?_
    have hl := ble1000 hc.2
    have g0 : GX (XB B X) W G H σ (okE false X.K G H Q) ((ev (φn B n) B.κ es ρ).bind fun l => (lstOf l).bind fun xs => .ok (.tup xs)) := g
    refine Ss.a false sc _ hc.1 X W E G0 H0 G H ρ σ _ I (g0.bind.imp fun l el g1 => ?_)
    cases l with
    | lst ps =>
      have en := argsLen (c := es) hc.1 el
      refine ⟨ps, rfl, fun G1 H1 vs e1 rs => ⟨by rw [rs.length, en]; exact hl, fun p hp => ?_⟩⟩
      have I1 := I.grow e1
      exact g1 _ _ _ (e1.trans (Ext.new I1.sub hp)) (repTup rs.r (I1.sub.free hp))
    | _ => exact g1.elim
  · cases hc
theorem sd_dsp {es : C} (Ss : Sd B n N es) : Sd B n N (.dsp es) := by
  refine Sd.mk1 rfl (fun z => nomatch z) (SE.all ?_ fun _ _ _ h => h)
  intro sc e hc X W E G0 H0 G H ρ σ Q I g
  have hc : eDsp (ck B N es) false sc e = true := hc
  unfold eDsp at hc
  split at hc
  · simp only [Bool.and_eq_true] at hc
    refine pe_can' (pe_lst pa_can) ?_
    have hl := ble1000 hc.2
    have g0 : GX (XB B X) W G H σ (okE false X.K G H Q) ((ev (φn B n) B.κ es ρ).bind fun l => (lstOf l).bind fun xs => .ok (.lst xs)) := g
    refine Ss.a false sc _ hc.1 X W E G0 H0 G H ρ σ _ I (g0.bind.imp fun l el g1 => ?_)
    cases l with
    | lst ps =>
      have en := argsLen (c := es) hc.1 el
      refine ⟨ps, rfl, fun G1 H1 vs e1 rs => ⟨by rw [rs.length, en]; exact hl, fun p hp => ?_⟩⟩
      have I1 := I.grow e1
      exact g1 _ _ _ (e1.trans (Ext.new I1.sub hp)) (repLst rs.r (I1.sub.free hp))
    | _ => exact g1.elim
  · cases hc
theorem sd_ix {a i : C} (Sa : Sd B n N a) (Si : Sd B n N i) : Sd B n N (.ix a i) := by
  refine Sd.mk1 rfl (fun z => nomatch z) (SE.all ?_ fun _ _ _ h => h)
  intro sc e hc X W E G0 H0 G H ρ σ Q I g
  have hc : eIx (ck B N a) (ck B N i) false sc e = true := hc
  unfold eIx at hc
  split at hc
  · obtain ⟨h1, h2, h3⟩ := and3 hc
    refine pe_can' (pe_ix (ixCan_ok X) pe_can pe_can (notSlice_ok h3)) ?_
    exact two_ok Sa Si E h1 h2 I g fun p q G' H' v u ex I' r1 r2 g' => ix_ok I'.sub r1.x r2.x (g'.ge ex)
  · cases hc
theorem sd_sl {a lo hi : C} (Sa : Sd B n N a) (Sl : Sd B n N lo) (Sh : Sd B n N hi) : Sd B n N (.sl a lo hi) := by
  refine Sd.mk1 rfl (fun z => nomatch z) (SE.all ?_ fun _ _ _ h => h)
  intro sc e hc X W E G0 H0 G H ρ σ Q I g
  have hc : eSl (ck B N a) (ck B N lo) (ck B N hi) false sc e = true := hc
  unfold eSl at hc
  split at hc
  · obtain ⟨h1, h2, h3⟩ := and3 hc
    refine pe_can' (pe_slice (slCan_ok X) pe_can po_can po_can) ?_
    have g0 : GX (XB B X) W G H σ (okE false X.K G H Q) ((ev (φn B n) B.κ a ρ).bind fun x => (partC lo (ev (φn B n) B.κ lo ρ)).bind fun l => (partC hi (ev (φn B n) B.κ hi ρ)).bind fun h => slV x l h) := g
    refine Sa.e true sc _ h1 X W E G0 H0 G H ρ σ _ I (g0.bind.imp fun p _ g1 G1 H1 v e1 r1 => ?_)
    have I1 := I.grow e1
    refine Sl.o sc _ h2 X W E G0 H0 G1 H1 ρ σ _ I1 ((GX.move (ok' := fun l => GX (XB B X) W G H σ (okE false X.K G H Q) ((partC hi (ev (φn B n) B.κ hi ρ)).bind fun h => slV p l h)) g1.bind e1 fun q h => h).imp fun l _ g2 G2 H2 e2 => ?_)
    have I2 := I1.grow e2
    refine Sh.o sc _ h3 X W E G0 H0 G2 H2 ρ σ _ I2 ((GX.move (ok' := fun h => GX (XB B X) W G H σ (okE false X.K G H Q) (slV p l h)) g2.bind (e1.trans e2) fun q h => h).imp fun h _ g3 G3 H3 e3 => ?_)
    exact sl_ok (I2.grow e3).sub ((r1.mono e2).mono e3).x l h (g3.ge ((e1.trans e2).trans e3))
  · cases hc
theorem allStar {es : C} {xs : List Expr} {rd : Bool} {sc : Scope} (h : (ck B N es).a rd sc xs = true) : xs.all notStar = true := by
  induction es generalizing xs with
  | nil => cases xs with
    | nil => rfl
    | cons x xs => cases h
  | cons a as _ ih => cases xs with
    | nil => cases h
    | cons x xs =>
      obtain ⟨h1, h2, h3⟩ := and3 h
      rw [List.all_cons, h2, ih h3]; rfl
  | _ => cases h
theorem gf_of {X : Cx} {W : WX} {G H G1 H1 : Hp} {σ : L2.St} {Q : VK} {r : Res RV} (e1 : Ext G H G1 H1) (g : GX (XB B X) W G H σ (okE false X.K G H Q) (r.bind fun r => .ok r.pv)) : GF X.K (XB B X) G1 H1 r Q (WE W σ) := by
  cases r with
  | ok rv =>
    cases rv with
    | shr p => exact fun G' H' v ex rr => g G' H' v (e1.trans ex) rr
    | own xs =>
      intro G' H' a vs ex h0 ga ha rr
      exact g (upd G' a (.lst vs)) H' (.ref a) (e1.trans (ex.frz ha ga h0)) (repLst rr ga)
  | exc c p => exact fun G' H' cls d ex xx => g G' H' cls d (e1.trans ex) xx
  | bad => exact g
theorem callN_len {f : Nat} {ps : List PV} {d : FnD} (hd : B.TT f = some d) (h : callN B.TT B.κ B.cx B.wf n f ps ≠ .bad) : ps.length = d.np := by
  cases n with
  | zero => exact absurd rfl h
  | succ m =>
    unfold callN at h
    rw [hd] at h
    cases e : Nat.beq ps.length d.np with
    | true => exact Nat.eq_of_beq_eq_true e
    | false =>
      simp only [e] at h
      exact absurd rfl h
theorem callN_tt {f : Nat} {ps : List PV} (h : callN B.TT B.κ B.cx B.wf n f ps ≠ .bad) : ∃ d, B.TT f = some d := by
  cases n with
  | zero => exact absurd rfl h
  | succ m =>
    unfold callN at h
    cases e : B.TT f with
    | none => rw [e] at h; exact absurd rfl h
    | some d => exact ⟨d, rfl⟩
theorem sd_call (f : Nat) {es : C} (Ss : Sd B n N es) : Sd B n N (.call f es) := by
  refine Sd.mk1 rfl (fun z => nomatch z) (SE.all ?_ fun _ _ _ h => h)
  intro sc e hc X W E G0 H0 G H ρ σ Q I g
  obtain ⟨x, p, xs, pos, rfl, hk⟩ : ∃ x p xs pos, e = .Call (.Name x p) xs [] pos ∧ (nmB (B.fnm f) x && glB sc x && (ck B N es).a false sc xs && (B.TT f).isSome) = true := by
    have hc : eCall B f (ck B N es) false sc e = true := hc
    unfold eCall at hc
    split at hc
    · exact ⟨_, _, _, _, rfl, hc⟩
    · cases hc
  simp only [Bool.and_eq_true] at hk
  obtain ⟨⟨⟨h1, h2⟩, h3⟩, h4⟩ := hk
  obtain ⟨g1, g2, g3⟩ := glB_ok h2
  obtain ⟨d, hT⟩ := Option.isSome_iff_exists.mp h4
  have g0 : GX (XB B X) W G H σ (okE false X.K G H Q) ((ev (φn B n) B.κ es ρ).bind fun l => (lstOf l).bind fun xs => (φn B n f xs).bind fun r => .ok r.pv) := g
  obtain ⟨fa, fd, ps, m1, m2, m3, m4, F⟩ := E.wo.fns f x d (nmB_ok h1) hT
  have key : ∀ qs G' H' vs, Ext G H G' H' → SI X.K G0 H0 G' H' ρ σ → RBs false X.K G' H' vs qs → GX (XB B X) W G H σ (okE false X.K G H Q) ((φn B n f qs).bind fun r => .ok r.pv) → spF B X.K (XB B X) n f d.np vs H' Q (WE W σ) := fun qs G' H' vs ex I' rs g' => by
    refine ⟨G', qs, I'.sub, rs.r, ?_, gf_of ex g'⟩
    refine callN_len (n := n) hT fun hb => ?_
    have hb : φn B n f qs = .bad := hb
    rw [hb] at g'
    exact g'
  cases xs with
  | nil =>
    intro pins s J
    refine wpAny_Call_Name_kw (ld_glob J (E.gl g1) m1 ?_ g2)
    have hv : spF B X.K (XB B X) n f d.np [] H Q (WE W σ) := by
      cases es with
      | nil => exact key [] G H [] (Ext.refl I.sub) I .nil g0
      | cons a as => cases h3
      | _ => cases h3
    exact PySem.W.callWith_K0 J.kIn m2 (run_fnS (us := []) F E.room m3 (passAt E.takes σ) J .nil hv)
  | cons y ys =>
    have hs : (y :: ys).all notStar = true := allStar h3
    simp only [List.all_cons, Bool.and_eq_true] at hs
    refine pe_can' (pe_callS F E.room (E.gl g1) m1 m2 m3 (fun σ => passAt E.takes σ) pa_can g2 (star_of hs.1) (nostars hs.2)) ?_
    exact args_ok Ss h3 E I g0 key
theorem biN_mem (b : Bi) : biN b ∈ bltN := by cases b <;> decide +kernel
theorem sd_bi (b : Bi) {es : C} (Ss : Sd B n N es) : Sd B n N (.bi b es) := by
  refine Sd.mk1 rfl (fun z => nomatch z) (SE.all ?_ fun _ _ _ h => h)
  intro sc e hc X W E G0 H0 G H ρ σ Q I g
  obtain ⟨x, p, y, xs, pos, rfl, hk⟩ : ∃ x p y xs pos, e = .Call (.Name x p) (y :: xs) [] pos ∧ (sEq (biN b) x && glB sc x && (ck B N es).a true sc (y :: xs) && (y :: xs).all notStar) = true := by
    have hc : eBi b (ck B N es) false sc e = true := hc
    unfold eBi at hc
    split at hc
    · exact ⟨_, _, _, _, _, rfl, hc⟩
    · cases hc
  simp only [Bool.and_eq_true, List.all_cons] at hk
  obtain ⟨⟨⟨h1, h2⟩, h3⟩, h4, h5⟩ := hk
  obtain ⟨g1, g2, g3⟩ := glB_ok h2
  have h1' := sEq_ok h1
  subst h1'
  have g0 : GX (XB B X) W G H σ (okE false X.K G H Q) ((ev (φn B n) B.κ es ρ).bind fun l => (lstOf l).bind fun xs => biP b xs) := g
  have hm := E.blt (biN_mem b)
  have hA : tcA X (y :: xs) σ H fun vs H1 => callCan X (biV b) vs H1 Q := args_ok Ss h3 E I g0 fun ps G' H' vs ex I' rs g' => bi_ok b E.calm (units65 E.room) I'.sub rs.x (g'.ge ex)
  cases b with
  | len => exact pe_can' (pe_callB (callCan_ok X _) (E.gl g1) hm boot_len pa_can g3 g2 (star_of h4) (nostars h5)) hA
  | abs => exact pe_can' (pe_callB (callCan_ok X _) (E.gl g1) hm boot_abs pa_can g3 g2 (star_of h4) (nostars h5)) hA
  | min2 => exact pe_can' (pe_callB (callCan_ok X _) (E.gl g1) hm boot_min pa_can g3 g2 (star_of h4) (nostars h5)) hA
  | max2 => exact pe_can' (pe_callB (callCan_ok X _) (E.gl g1) hm boot_max pa_can g3 g2 (star_of h4) (nostars h5)) hA
  | min1 => exact pe_can' (pe_callB (callCan_ok X _) (E.gl g1) hm boot_min pa_can g3 g2 (star_of h4) (nostars h5)) hA
  | max1 => exact pe_can' (pe_callB (callCan_ok X _) (E.gl g1) hm boot_max pa_can g3 g2 (star_of h4) (nostars h5)) hA
  | sum => exact pe_can' (pe_callB (callCan_ok X _) (E.gl g1) hm boot_sum pa_can g3 g2 (star_of h4) (nostars h5)) hA
  | int => exact pe_can' (pe_callTy (callCan_ok X _) (E.gl g1) hm boot_int pa_can g3 g2 (star_of h4) (nostars h5)) hA
  | tuple => exact pe_can' (pe_callTy (callCan_ok X _) (E.gl g1) hm boot_tuple pa_can g3 g2 (star_of h4) (nostars h5)) hA
  | list => exact pe_can' (pe_callTy (callCan_ok X _) (E.gl g1) hm boot_list pa_can g3 g2 (star_of h4) (nostars h5)) hA
  | sorted => exact pe_can' (pe_callB (callCan_ok X _) (E.gl g1) hm boot_sorted pa_can g3 g2 (star_of h4) (nostars h5)) hA
theorem tyS_boot (t : Ty) : bootBuiltins (tyS t) = some (.type (tyN t)) := by cases t <;> decide +kernel
theorem tyS_mem (t : Ty) : tyS t ∈ bltN := by cases t <;> decide +kernel
theorem sd_isi (t : Ty) {a : C} (Sa : Sd B n N a) : Sd B n N (.isi t a) := by
  refine Sd.mk1 rfl (fun z => nomatch z) (SE.all ?_ fun _ _ _ h => h)
  intro sc e hc X W E G0 H0 G H ρ σ Q I g
  obtain ⟨x, p, y, z, p2, pos, rfl, hk⟩ : ∃ x p y z p2 pos, e = .Call (.Name x p) [y, .Name z p2] [] pos ∧ (sEq "isinstance" x && glB sc x && (ck B N a).e true sc y && notStar y && sEq (tyS t) z && glB sc z) = true := by
    have hc : eIsi t (ck B N a) false sc e = true := hc
    unfold eIsi at hc
    split at hc
    · exact ⟨_, _, _, _, _, _, rfl, hc⟩
    · cases hc
  simp only [Bool.and_eq_true] at hk
  obtain ⟨⟨⟨⟨⟨h1, h2⟩, h3⟩, h4⟩, h5⟩, h6⟩ := hk
  obtain ⟨g1, g2, g3⟩ := glB_ok h2
  obtain ⟨k1, k2, k3⟩ := glB_ok h6
  have h1' := sEq_ok h1
  subst h1'
  have h5' := sEq_ok h5
  subst h5'
  have hm : X.mg "isinstance" = none := E.blt (by decide +kernel)
  have hn := E.blt (tyS_mem t)
  refine pe_can' (pe_callB (callCan_ok X _) (E.gl g1) hm boot_isinstance (pa_cons pe_can (pa_cons (pe_bltn (v := .ty (tyN t)) (E.gl k1) hn (tyS_boot t) rfl k3 k2) pa_nil) (star_of h4)) g3 g2 (star_of h4) rfl) ?_
  exact Sa.e true sc y h3 X W E G0 H0 G H ρ σ _ I ((GX.bind g).imp fun p _ g1 G1 H1 v e1 r1 => isi_ok (XI := XB B X) (W := W) (σ := σ) t (I.grow e1).sub r1 (GX.ge g1 e1))
end
end Z
end
section
namespace Z
open PySem PySem.Spec PyProof.Rows L2
section
variable {B : Tb} {n : Nat} {N : List Str}
/-! ### what a loop goes through -/
theorem cndL {rd : Bool} {K : PySem.W.Frag} {G1 H1 : Hp} {v : V} {xs : List PV} (s1 : Same G1 H1) (r : RB rd K G1 H1 v (.lst xs)) : ∃ a vs, v = .ref a ∧ H1 a = some (.lst vs) ∧ vs.length = xs.length ∧ ∀ G H, cnd rd G1 H1 G H → Same G H → SqL K H a vs ∧ Reps K G vs xs := by
  cases rd with
  | true =>
    obtain ⟨a, vs, rfl, h, rr⟩ := RepX.lst r s1
    exact ⟨a, vs, rfl, h, rr.length, fun G H c s => ⟨.inl (.inl (c.hs _ _ h)), rr.mono c.gs⟩⟩
  | false =>
    cases r with
    | lst h rr => exact ⟨_, _, rfl, s1 _ _ h, rr.length, fun G H c s => ⟨.inl (.inl (s _ _ (c _ _ h))), rr.mono c⟩⟩
theorem cndT {rd : Bool} {K : PySem.W.Frag} {G1 H1 : Hp} {v : V} {xs : List PV} (s1 : Same G1 H1) (r : RB rd K G1 H1 v (.tup xs)) : ∃ a vs, v = .ref a ∧ SqT K H1 a vs ∧ vs.length = xs.length ∧ ∀ G H, cnd rd G1 H1 G H → Same G H → SqT K H a vs ∧ Reps K G vs xs := by
  obtain ⟨a, vs, rfl, sg, sh, rr⟩ := r.x.tup s1
  refine ⟨a, vs, rfl, sh, rr.length, fun G H c s => ?_⟩
  have cg : Same G1 G := by
    cases rd with
    | true => exact c.gs
    | false => exact c
  exact ⟨Same.tup s (Same.tup cg sg), rr.mono cg⟩
theorem sd_seq {a : C} (Sa : Sd B n N a) : Sd B n N (.seq a) := by
  refine Sd.mkIter rfl fun rd sc tg e hc X W E G0 H0 G H ρ σ R I g => ?_
  have hc : ((ck B N a).e rd sc e && notSet e) = true := hc
  simp only [Bool.and_eq_true] at hc
  have g0 : GX (XB B X) W G H σ (okI rd X.K G H R) ((ev (φn B n) B.κ a ρ).bind itemsP) := g
  cases ea : ev (φn B n) B.κ a ρ with
  | bad => rw [ea] at g0; exact g0.elim
  | exc c o =>
    rw [ea] at g0
    refine pi_can' (pi_list pe_can) ?_
    refine Sa.e rd sc e hc.1 X W E G0 H0 G H ρ σ _ I ?_
    rw [ea]
    exact g0
  | ok p =>
    rw [ea] at g0
    cases p with
    | lst xs =>
      obtain ⟨ys, ey, k⟩ := g0
      cases ey
      refine tcI_imp (R := fun J H' => ∃ a vs G', J = Itl X.K a ∧ Ext G H G' H' ∧ H' a = some (.lst vs) ∧ vs.length = xs.length ∧ ∀ G2 H2, cnd rd G' H' G2 H2 → Same G2 H2 → SqL X.K H2 a vs ∧ Reps X.K G2 vs xs) (pi_can' (pi_list pe_can) ?_) fun J H' pins s J' hR => ?_
      · refine Sa.e rd sc e hc.1 X W E G0 H0 G H ρ σ _ I ?_
        rw [ea]
        intro G1 H1 v e1 r1
        obtain ⟨b, vs, rfl, hb, hl, hw⟩ := cndL (I.grow e1).sub r1
        exact ⟨b, rfl, ⟨vs, .inl (.inl hb)⟩, b, vs, G1, rfl, e1, hb, hl, hw⟩
      · obtain ⟨b, vs, G1, rfl, e1, hb, hl, hw⟩ := hR
        obtain ⟨hz, _⟩ := J'.lstM hb
        exact k G1 H' _ e1 (itl_ok hw) (by rw [← hl]; exact hz)
    | tup xs =>
      obtain ⟨ys, ey, k⟩ := g0
      cases ey
      refine tcI_imp (R := fun J H' => ∃ a vs G', J = Itt X.K a ∧ Ext G H G' H' ∧ SqT X.K H' a vs ∧ vs.length = xs.length ∧ ∀ G2 H2, cnd rd G' H' G2 H2 → Same G2 H2 → SqT X.K H2 a vs ∧ Reps X.K G2 vs xs) (pi_can' (pi_tup pe_can) ?_) fun J H' pins s J' hR => ?_
      · refine Sa.e rd sc e hc.1 X W E G0 H0 G H ρ σ _ I ?_
        rw [ea]
        intro G1 H1 v e1 r1
        obtain ⟨b, vs, rfl, hb, hl, hw⟩ := cndT (I.grow e1).sub r1
        exact ⟨b, rfl, ⟨vs, hb⟩, b, vs, G1, rfl, e1, hb, hl, hw⟩
      · obtain ⟨b, vs, G1, rfl, e1, hb, hl, hw⟩ := hR
        obtain ⟨_, _, _, hz⟩ := J'.tuple hb
        exact k G1 H' _ e1 (itt_ok hw) (by rw [← hl]; exact hz)
    | str x =>
      obtain ⟨ys, ey, k⟩ := g0
      cases ey
      refine pi_can' (pi_str pe_can) ?_
      refine Sa.e rd sc e hc.1 X W E G0 H0 G H ρ σ _ I ?_
      rw [ea]
      intro G1 H1 v e1 r1
      obtain ⟨rfl, h1, h2⟩ := r1.x.str
      exact ⟨_, rfl, k G1 H1 _ e1 (its_ok h1) (by rw [List.length_map]; exact h2)⟩
    | _ => exact g0.elim
theorem smallI_ok {i : Int} (h : smallI i = true) : -(2 ^ 62) ≤ i ∧ i < 2 ^ 62 := by
  unfold smallI at h
  simp only [Bool.and_eq_true, decide_eq_true_eq] at h
  exact h
theorem rng_mem : ("range" : Str) ∈ bltN := by decide +kernel
theorem sd_rng1 {a : C} (Sa : Sd B n N a) : Sd B n N (.rng1 a) := by
  refine Sd.mkIter rfl fun rd sc tg e hc X W E G0 H0 G H ρ σ R I g => ?_
  obtain ⟨f, p, x, pos, rfl, hk⟩ : ∃ f p x pos, e = .Call (.Name f p) [x] [] pos ∧ (sEq "range" f && glB sc f && (ck B N a).e false sc x && notStar x) = true := by
    have hc : iRng1' (ck B N a) rd (isTupE tg) sc e = true := hc
    unfold iRng1' at hc
    split at hc
    · exact ⟨_, _, _, _, rfl, hc⟩
    · cases hc
  simp only [Bool.and_eq_true] at hk
  obtain ⟨⟨⟨h1, h2⟩, h3⟩, h4⟩ := hk
  have h1' := sEq_ok h1
  subst h1'
  obtain ⟨g1, g2, g3⟩ := glB_ok h2
  refine pi_can' (pi_range1 (E.gl g1) (E.blt rng_mem) (pa_cons pe_can pa_nil (star_of h4)) (star_of h4)) ?_
  have g0 : GX (XB B X) W G H σ (okI rd X.K G H R) ((ev (φn B n) B.κ a ρ).bind fun x => rngP (.int 0) x) := g
  refine Sa.e false sc x h3 X W E G0 H0 G H ρ σ _ I (g0.bind.imp fun p _ k G1 H1 v e1 r1 => ?_)
  cases p with
  | int b1 =>
    have k : GX (XB B X) W G H σ (okI rd X.K G H R) (if smallI 0 && smallI b1 && fits (b1 - 0).toNat then .ok (.lst (upL 0 (b1 - 0).toNat)) else .bad) := k
    split at k
    · rename_i hs
      simp only [Bool.and_eq_true] at hs
      obtain ⟨ys, ey, k⟩ := k
      cases ey
      cases r1
      have q := smallI_ok hs.1.2
      refine ⟨b1, rfl, q.1, q.2, ?_⟩
      have e0 : (b1 - 0).toNat = b1.toNat := by rw [Int.sub_zero]
      rw [e0] at k
      refine k G1 H1 _ e1 (itr_ok 0 _) ?_
      rw [upL_len, ← e0]; exact fits_le hs.2
    · exact k.elim
  | _ => exact k.elim
theorem sd_rng2 {a b : C} (Sa : Sd B n N a) (Sb : Sd B n N b) : Sd B n N (.rng2 a b) := by
  refine Sd.mkIter rfl fun rd sc tg e hc X W E G0 H0 G H ρ σ R I g => ?_
  obtain ⟨f, p, x, y, pos, rfl, hk⟩ : ∃ f p x y pos, e = .Call (.Name f p) [x, y] [] pos ∧ (sEq "range" f && glB sc f && (ck B N a).e false sc x && notStar x && (ck B N b).e false sc y && notStar y) = true := by
    have hc : iRng2' (ck B N a) (ck B N b) rd (isTupE tg) sc e = true := hc
    unfold iRng2' at hc
    split at hc
    · exact ⟨_, _, _, _, _, rfl, hc⟩
    · cases hc
  simp only [Bool.and_eq_true] at hk
  obtain ⟨⟨⟨⟨⟨h1, h2⟩, h3⟩, h4⟩, h5⟩, h6⟩ := hk
  have h1' := sEq_ok h1
  subst h1'
  obtain ⟨g1, g2, g3⟩ := glB_ok h2
  refine pi_can' (pi_range2 (E.gl g1) (E.blt rng_mem) (pa_cons pe_can (pa_cons pe_can pa_nil (star_of h6)) (star_of h4)) (by rw [star_of h4, star_of h6]; rfl) (star_of h6)) ?_
  have g0 : GX (XB B X) W G H σ (okI rd X.K G H R) ((ev (φn B n) B.κ a ρ).bind fun x => (ev (φn B n) B.κ b ρ).bind fun y => rngP x y) := g
  refine two_ok Sa Sb E h3 h5 I g0 fun p q G' H' v u ex I' r1 r2 k => ?_
  unfold rngP at k
  split at k
  · rename_i a1 b1
    split at k
    · rename_i hs
      simp only [Bool.and_eq_true] at hs
      obtain ⟨ys, ey, k⟩ := k
      cases ey
      cases r1
      cases r2
      have q1 := smallI_ok hs.1.1
      have q2 := smallI_ok hs.1.2
      refine ⟨_, _, rfl, ⟨q1.1, q1.2, q2.1, q2.2⟩, ?_⟩
      refine k G' H' _ ex (itr_ok _ _) ?_
      rw [upL_len]; exact fits_le hs.2
    · exact k.elim
  · exact k.elim
theorem sd_rng3 {a b c : C} (Sa : Sd B n N a) (Sb : Sd B n N b) (Sc : Sd B n N c) : Sd B n N (.rng3 a b c) := by
  refine Sd.mkIter rfl fun rd sc tg e hc X W E G0 H0 G H ρ σ R I g => ?_
  obtain ⟨f, p, x, y, z, pos, rfl, hk⟩ : ∃ f p x y z pos, e = .Call (.Name f p) [x, y, z] [] pos ∧ (sEq "range" f && glB sc f && (ck B N a).e false sc x && notStar x && (ck B N b).e false sc y && notStar y && (ck B N c).e false sc z && notStar z) = true := by
    have hc : iRng3' (ck B N a) (ck B N b) (ck B N c) rd (isTupE tg) sc e = true := hc
    unfold iRng3' at hc
    split at hc
    · exact ⟨_, _, _, _, _, _, rfl, hc⟩
    · cases hc
  simp only [Bool.and_eq_true] at hk
  obtain ⟨⟨⟨⟨⟨⟨⟨h1, h2⟩, h3⟩, h4⟩, h5⟩, h6⟩, h7⟩, h8⟩ := hk
  have h1' := sEq_ok h1
  subst h1'
  obtain ⟨g1, g2, g3⟩ := glB_ok h2
  refine pi_can' (pi_range3 (E.gl g1) (E.blt rng_mem) (pa_cons pe_can (pa_cons pe_can (pa_cons pe_can pa_nil (star_of h8)) (star_of h6)) (star_of h4)) (star_of h4) (nostars (by simp [h6, h8]))) ?_
  have g0 : GX (XB B X) W G H σ (okI rd X.K G H R) ((ev (φn B n) B.κ a ρ).bind fun x => (ev (φn B n) B.κ b ρ).bind fun y => (ev (φn B n) B.κ c ρ).bind fun z => rng3P x y z) := g
  refine two_ok Sa Sb E h3 h5 I g0 fun p q G' H' v u ex I' r1 r2 k => ?_
  refine Sc.e false sc z h7 X W E G0 H0 G' H' ρ σ _ I' ((GX.move (ok' := fun s => GX (XB B X) W G H σ (okI rd X.K G H R) (rng3P p q s)) k.bind ex fun s h => h).imp fun s _ k G2 H2 w e2 r3 => ?_)
  unfold rng3P at k
  split at k
  · rename_i a1 b1
    split at k
    · rename_i hs
      simp only [Bool.and_eq_true] at hs
      obtain ⟨ys, ey, k⟩ := k
      cases ey
      cases r1
      cases r2
      cases r3
      have q1 := smallI_ok hs.1.1
      have q2 := smallI_ok hs.1.2
      refine ⟨_, _, _, _, rfl, RgC.neg q1.1 q1.2 q2.1 q2.2, ?_⟩
      refine k G2 H2 _ (ex.trans e2) (itc_ok _ _) ?_
      rw [dnL_len]; exact fits_le hs.2
    · exact k.elim
  · exact k.elim
theorem isTup_of {tg : Expr} (h : isTupE tg = true) : ∃ es k p, tg = .Tuple es k p := by
  cases tg <;> first | exact ⟨_, _, _, rfl⟩ | cases h
theorem sd_zip {a b : C} (Sa : Sd B n N a) (Sb : Sd B n N b) : Sd B n N (.zip a b) := by
  refine Sd.mkIter rfl fun rd sc tg e hc X W E G0 H0 G H ρ σ R I g => ?_
  obtain ⟨f, p, x, y, pos, rfl, hk⟩ : ∃ f p x y pos, e = .Call (.Name f p) [x, y] [] pos ∧ (isTupE tg && sEq "zip" f && glB sc f && (ck B N a).e rd sc x && notStar x && (ck B N b).e rd sc y && notStar y) = true := by
    have hc : iZip' (ck B N a) (ck B N b) rd (isTupE tg) sc e = true := hc
    unfold iZip' at hc
    split at hc
    · exact ⟨_, _, _, _, _, rfl, hc⟩
    · cases hc
  simp only [Bool.and_eq_true] at hk
  obtain ⟨⟨⟨⟨⟨⟨h0, h1⟩, h2⟩, h3⟩, h4⟩, h5⟩, h6⟩ := hk
  have h1' := sEq_ok h1
  subst h1'
  obtain ⟨es, kk, tp, rfl⟩ := isTup_of h0
  obtain ⟨g1, g2, g3⟩ := glB_ok h2
  have g0 : GX (XB B X) W G H σ (okI rd X.K G H R) ((ev (φn B n) B.κ a ρ).bind fun x => (ev (φn B n) B.κ b ρ).bind fun y => zipP x y) := g
  refine tcI_imp (R := fun J H' => ∃ G' xs ys, Ext G H G' H' ∧ okI rd X.K G H R (.lst (zipL xs ys)) ∧ ((∃ a vs b ws, J = Itz X.K a b ∧ H' a = some (.lst vs) ∧ vs.length = xs.length ∧ ∀ G2 H2, cnd rd G' H' G2 H2 → Same G2 H2 → (SqL X.K H2 a vs ∧ Reps X.K G2 vs xs) ∧ SqL X.K H2 b ws ∧ Reps X.K G2 ws ys) ∨
      (∃ a vs b ws, J = RZ.ItzT X.K a b ∧ SqT X.K H' a vs ∧ vs.length = xs.length ∧ ∀ G2 H2, cnd rd G' H' G2 H2 → Same G2 H2 → (SqT X.K H2 a vs ∧ Reps X.K G2 vs xs) ∧ SqT X.K H2 b ws ∧ Reps X.K G2 ws ys)))
    (pi_can' (RZ.pi_zipA (E.gl g1) (E.blt (by decide +kernel)) (pa_cons pe_can (pa_cons pe_can pa_nil (star_of h6)) (star_of h4)) (star_of h4) (nostars (by simp [h6]))) ?_) fun J H' pins s J' hR => ?_
  · refine two_ok Sa Sb E h3 h5 I g0 fun p q G' H' v u ex I' r1 r2 k => ?_
    unfold zipP at k
    split at k
    · obtain ⟨a1, vs, rfl, ha, hl, hw⟩ := cndL I'.sub r1
      obtain ⟨b1, ws, rfl, hb, hl2, hw2⟩ := cndL I'.sub r2
      exact ⟨a1, b1, vs, ws, rfl, .inl ⟨.inl (.inl ha), .inl (.inl hb), G', _, _, ex, k, .inl ⟨a1, vs, b1, ws, rfl, ha, hl, fun G2 H2 c s => ⟨hw G2 H2 c s, hw2 G2 H2 c s⟩⟩⟩⟩
    · obtain ⟨a1, vs, rfl, ha, hl, hw⟩ := cndT I'.sub r1
      obtain ⟨b1, ws, rfl, hb, hl2, hw2⟩ := cndT I'.sub r2
      exact ⟨a1, b1, vs, ws, rfl, .inr ⟨ha, hb, G', _, _, ex, k, .inr ⟨a1, vs, b1, ws, rfl, ha, hl, fun G2 H2 c s => ⟨hw G2 H2 c s, hw2 G2 H2 c s⟩⟩⟩⟩
    · exact k.elim
  · obtain ⟨G', xs, ys, ex, ⟨zs, ez, k⟩, hR⟩ := hR
    cases ez
    rcases hR with ⟨a1, vs, b1, ws, rfl, ha, hl, hw⟩ | ⟨a1, vs, b1, ws, rfl, ha, hl, hw⟩
    · obtain ⟨hz, _⟩ := J'.lstM ha
      exact k G' H' _ ex (itz_ok hw) (by rw [zipL_len]; omega)
    · obtain ⟨_, _, _, hz⟩ := J'.tuple ha
      exact k G' H' _ ex (itzt_ok hw) (by rw [zipL_len]; omega)
end
end Z
end
section
namespace Z
open PySem PySem.Spec PyProof.Rows L2
/-! ### targets -/
def tcG (X : Cx) (tg : Expr) : TG := fun v σ H Q => ∀ (pins : List (Addr × Obj)) (s : Shared) (u : Value), Inv X pins σ H s → RelV v u → wpAny (model X.prog X.w) X.A (assign tg X.env u) (fun _ s' => ∃ σ' H', Inv X pins σ' H' s' ∧ Q σ' H') X.xe s
def tcGs (X : Cx) (tgs : List Expr) : TGs := fun vs σ H Q => ∀ (pins : List (Addr × Obj)) (s : Shared) (us : List Value), Inv X pins σ H s → Vals vs us → wpAny (model X.prog X.w) X.A (assignInOrder ((assignEach tgs X.env).map (·.2)) us) (fun _ s' => ∃ σ' H', Inv X pins σ' H' s' ∧ Q σ' H') X.xe s
section
variable {X : Cx} {tg : Expr} {tgs : List Expr} {σ : L2.St} {H : Hp} {v : V} {vs : List V} {Q : L2.St → Hp → Prop}
theorem pg_can : PG X tg (tcG X tg) := ⟨fun pins s σ H v u Q I r h => h pins s u I r⟩
theorem pgs_can : PGs X tgs (tcGs X tgs) := ⟨fun pins s σ H vs us Q I r h => h pins s us I r⟩
theorem pg_can' {t : TG} (h : PG X tg t) (q : t v σ H Q) : tcG X tg v σ H Q := fun pins s u I r => h.run pins s σ H v u Q I r q
theorem pgs_can' {t : TGs} (h : PGs X tgs t) (q : t vs σ H Q) : tcGs X tgs vs σ H Q := fun pins s us I r => h.run pins s σ H vs us Q I r q
end
theorem assignEach_plain {N : List Str} {ts : Scope} {env : Env} : ∀ {c : C} {es : List Expr}, ckGs N ts c es = true → assignEach es env = es.map fun e => (false, assign e env)
  | .nil, [], _ => rfl
  | .nil, _ :: _, h => by cases h
  | .cons t c, [], h => by cases h
  | .cons t c, e :: es, h => by
    have h : (ckG N ts t e && ckGs N ts c es) = true := h
    simp only [Bool.and_eq_true] at h
    have ih := assignEach_plain (env := env) h.2
    cases e with
    | Name x p => show (false, _) :: assignEach es env = _; rw [ih]; rfl
    | Tuple a b p => show (false, _) :: assignEach es env = _; rw [ih]; rfl
    | _ => cases t <;> cases h.1
theorem no_star_idx {α : Type} (f : α → Bool × (Value → Sem Unit)) (h : ∀ a, (f a).1 = false) : ∀ l : List α, (l.map f).findIdx? (·.1) = none
  | [] => rfl
  | a :: l => by
    rw [List.map_cons, List.findIdx?_cons, h a]
    simp [no_star_idx f h l]
theorem asgLen {N : List Str} {ts : Scope} : ∀ {c : C} {es : List Expr} {ps : List PV} {ρ ρ' : List Slot}, ckGs N ts c es = true → asgP c (.tup ps) ρ = .ok ρ' → ps.length = es.length
  | .nil, [], [], _, _, _, _ => rfl
  | .nil, [], _ :: _, _, _, _, h => by cases h
  | .nil, _ :: _, _, _, _, h, _ => by cases h
  | .cons t c, [], _, _, _, h, _ => by cases h
  | .cons t c, e :: es, [], _, _, _, h => by cases h
  | .cons t c, e :: es, p :: ps, ρ, ρ', hc, ha => by
    have hc : (ckG N ts t e && ckGs N ts c es) = true := hc
    simp only [Bool.and_eq_true] at hc
    have ha : ((asgP t p ρ).bind fun ρ' => asgP c (.tup ps) ρ') = .ok ρ' := ha
    cases e1 : asgP t p ρ with
    | ok ρ1 => rw [e1] at ha; simp [asgLen hc.2 ha]
    | exc c o => rw [e1] at ha; cases ha
    | bad => rw [e1] at ha; cases ha
/-- what is known where a target stands: ts: the scope of its names -/
structure TC (N : List Str) (ts : Scope) (X : Cx) : Prop where
  nm : X.N = N
  nd : N.Nodup
  calm : X.calm = true
  loc : ∀ x, Loc ts x → Loc X.env.scope x ∧ (X.fn x = true ∨ X.env.scope.names.lookup x = some .local)
section
variable {N : List Str} {ts : Scope} {X : Cx} {G0 H0 G H : Hp}
theorem tgt_both (T : TC N ts X) (c : C) :
    (∀ (e : Expr), ckG N ts c e = true → ∀ (p : PV) (v : V) (ρ ρ' : List Slot) (σ : L2.St) (Q : L2.St → Hp → Prop), asgP c p ρ = .ok ρ' → SI X.K G0 H0 G H ρ σ → Rep X.K G v p →
      (∀ σ', SI X.K G0 H0 G H ρ' σ' → (∀ i, i ∉ tgS c → σ'[i]? = σ[i]?) → σ'.length = σ.length → Q σ' H) → tcG X e v σ H Q) ∧
    (∀ (es : List Expr), ckGs N ts c es = true → ∀ (ps : List PV) (vs : List V) (ρ ρ' : List Slot) (σ : L2.St) (Q : L2.St → Hp → Prop), asgP c (.tup ps) ρ = .ok ρ' → SI X.K G0 H0 G H ρ σ → Reps X.K G vs ps →
      (∀ σ', SI X.K G0 H0 G H ρ' σ' → (∀ i, i ∉ tgS c → σ'[i]? = σ[i]?) → σ'.length = σ.length → Q σ' H) → tcGs X es vs σ H Q) := by
  induction c with
  | tn i =>
    refine ⟨fun e hc p v ρ ρ' σ Q ha I r k => ?_, fun es hc => (by cases es <;> cases hc)⟩
    cases e with
    | Name x pos =>
      have hc : (ixB N i x && locB ts x) = true := hc
      simp only [Bool.and_eq_true] at hc
      cases ha
      have hl := T.loc x (locB_ok hc.2)
      refine pg_can' (pg_name (i := i) (by rw [T.nm]; exact T.nd) (by rw [T.nm]; exact ixB_ok hc.1) hl.1 hl.2) ?_
      exact k _ (I.setShr r) (fun j hj => get_set_ne fun e => hj (by rw [← e]; exact List.mem_singleton.mpr rfl)) (List.length_set ..)
    | _ => cases hc
  | tt ts' ih =>
    refine ⟨fun e hc p v ρ ρ' σ Q ha I r k => ?_, fun es hc => (by cases es <;> cases hc)⟩
    cases e with
    | Tuple es kk pos =>
      have hc : ckGs N ts ts' es = true := hc
      have hE := assignEach_plain (env := X.env) hc
      have hst : (assignEach es X.env).findIdx? (·.1) = none := by rw [hE]; exact no_star_idx _ (fun _ => rfl) es
      have hn : (assignEach es X.env).length = es.length := by rw [hE, List.length_map]
      cases p with
      | tup xs =>
        have ha : asgP ts' (.tup xs) ρ = .ok ρ' := ha
        cases r with
        | tup sq rr =>
          have q := ih.2 es hc xs _ ρ ρ' σ Q ha I rr k
          exact pg_can' (pg_tup T.calm pgs_can hn hst) ⟨_, _, rfl, Same.tup I.sub sq, by rw [rr.length]; exact asgLen hc ha, q⟩
      | lst xs =>
        have ha : asgP ts' (.tup xs) ρ = .ok ρ' := ha
        cases r with
        | lst sq rr =>
          have q := ih.2 es hc xs _ ρ ρ' σ Q ha I rr k
          exact pg_can' (pg_lst T.calm pgs_can hn hst) ⟨_, _, rfl, .inl (.inl (I.sub _ _ sq)), by rw [rr.length]; exact asgLen hc ha, q⟩
      | _ => cases ha
    | _ => cases hc
  | nil =>
    refine ⟨fun e hc => (by cases e <;> cases hc), fun es hc ps vs ρ ρ' σ Q ha I r k => ?_⟩
    cases es with
    | nil =>
      cases r with
      | nil =>
        cases ha
        exact pgs_can' pgs_nil ⟨rfl, k σ I (fun _ _ => rfl) rfl⟩
      | cons r t => cases ha
    | cons e es => cases hc
  | cons a b iha ihb =>
    refine ⟨fun e hc => (by cases e <;> cases hc), fun es hc ps vs ρ ρ' σ Q ha I r k => ?_⟩
    cases es with
    | nil => cases hc
    | cons e es =>
      have hc0 := hc
      have hc : (ckG N ts a e && ckGs N ts b es) = true := hc
      simp only [Bool.and_eq_true] at hc
      cases r with
      | nil => cases ha
      | cons r t =>
        rename_i v vs p ps
        have ha : ((asgP a p ρ).bind fun ρ' => asgP b (.tup ps) ρ') = .ok ρ' := ha
        cases e1 : asgP a p ρ with
        | ok ρ1 =>
          rw [e1] at ha
          have ha : asgP b (.tup ps) ρ1 = .ok ρ' := ha
          have hs : (assignEach (e :: es) X.env).map (·.2) = assign e X.env :: (assignEach es X.env).map (·.2) := by
            rw [assignEach_plain (env := X.env) hc0, assignEach_plain (env := X.env) hc.2]
            simp
          refine pgs_can' (pgs_cons pg_can pgs_can hs) ⟨v, vs, rfl, ?_⟩
          refine iha.1 e hc.1 p v ρ ρ1 σ _ e1 I r fun σ1 I1 o1 l1 => ?_
          refine ihb.2 es hc.2 ps vs ρ1 ρ' σ1 Q ha I1 t fun σ2 I2 o2 l2 => ?_
          refine k σ2 I2 (fun i hi => ?_) (l2.trans l1)
          have hi' : i ∉ tgS a ++ tgS b := hi
          rw [List.mem_append] at hi'
          rw [o2 i fun z => hi' (.inr z), o1 i fun z => hi' (.inl z)]
        | exc c o => rw [e1] at ha; cases ha
        | bad => rw [e1] at ha; cases ha
  | _ => exact ⟨fun e hc => (by cases e <;> cases hc), fun es hc => (by cases es <;> cases hc)⟩
end
end Z
end
section
namespace Z
open PySem PySem.Spec PyProof.Rows L2
theorem wipe_in {σ : L2.St} {i : Nat} : ∀ {vs : List Nat}, i ∈ vs → i < σ.length → (wipe σ vs)[i]? = some none
  | v :: vs, h, hl => by
    show ((wipe σ vs).set v none)[i]? = some none
    by_cases e : v = i
    · subst e
      rw [List.getElem?_set_self (by rw [wipe_length]; exact hl)]
    · rw [get_set_ne e]
      rcases List.mem_cons.mp h with z | z
      · exact absurd z.symm e
      · exact wipe_in z hl
theorem wipe_same {σ σ2 : L2.St} {vs : List Nat} (hl : σ2.length = σ.length) (h : ∀ i, i ∉ vs → σ2[i]? = (wipe σ vs)[i]?) : wipe σ2 vs = wipe σ vs := by
  apply List.ext_getElem?
  intro i
  by_cases hi : i ∈ vs
  · by_cases hlt : i < σ.length
    · rw [wipe_in hi hlt, wipe_in hi (by rw [hl]; exact hlt)]
    · rw [List.getElem?_eq_none (by rw [wipe_length, hl]; omega), List.getElem?_eq_none (by rw [wipe_length]; omega)]
  · rw [wipe_out hi, h i hi]
section
variable {K : PySem.W.Frag} {G0 H0 G H : Hp}
theorem SI.wipe {ρ : List Slot} {σ : L2.St} (I : SI K G0 H0 G H ρ σ) : ∀ vs : List Nat, SI K G0 H0 G H (wipeS ρ vs) (L2.wipe σ vs)
  | [] => I
  | v :: vs => (SI.wipe I vs).setUn
end
section
variable {B : Tb} {n : Nat} {N : List Str}
/-- the context within a comprehension -/
theorem EC.blk {sc scope : Scope} {X : Cx} {W : WX} (E : EC B n N sc X W) (s : Shared) (H : Hp) (Ca : Addr) (cl : List (Str × Addr)) (fp : List Addr) : EC B n N (relS scope sc) (X.blk s H scope (compEnvC scope cl Ca X.env) fp) (fun _ _ _ _ => False) where
  scope := by
    show relabel scope X.env = relS scope sc
    rw [← E.scope]; rfl
  nm := E.nm
  nd := E.nd
  calm := E.calm
  takes := fun u s' h => by
    obtain ⟨_, _, _, _, _, _, _, _, _, _, _, _, _, _, _, _, w⟩ := h
    exact w.elim
  room := E.room
  wo := E.wo
theorem TC.blk {sc scope : Scope} {X : Cx} {W : WX} (E : EC B n N sc X W) (s : Shared) (H : Hp) (Ca : Addr) (cl : List (Str × Addr)) (fp : List Addr) : TC N scope (X.blk s H scope (compEnvC scope cl Ca X.env) fp) where
  nm := E.nm
  nd := E.nd
  calm := E.calm
  loc := fun x h => by
    rcases h with h | h
    · have h2 := lookup_relS_keep (sc := X.env.scope) (k := .local) (fun z => nomatch z) h
      exact ⟨.inl h2, .inr h2⟩
    · have h2 := lookup_relS_keep (sc := X.env.scope) (k := .cell) (fun z => nomatch z) h
      refine ⟨.inr h2, .inl ?_⟩
      show (scope.names.lookup x == some NameKind.cell) = true
      rw [h]; rfl
theorem compL_exc {f : PV → Res (Option PV)} {c : Nat} {o : Option PV} : ∀ xs, compL f xs ≠ .exc c o
  | [], h => nomatch h
  | x :: r, h => by
    unfold compL at h
    split at h
    · cases e : compL f r with
      | ok ys => rw [e] at h; cases h
      | exc c o => exact compL_exc r e
      | bad => rw [e] at h; cases h
    · exact compL_exc r h
    · cases h
theorem compL_step {f : PV → Res (Option PV)} {x : PV} {r ys : List PV} (h : compL f (x :: r) = .ok ys) : (∃ y zs, f x = .ok (some y) ∧ compL f r = .ok zs ∧ ys = y :: zs) ∨ (f x = .ok none ∧ compL f r = .ok ys) := by
  unfold compL at h
  split at h
  · rename_i y e1
    cases e : compL f r with
    | ok zs => rw [e] at h; cases h; exact .inl ⟨y, zs, e1, rfl, rfl⟩
    | exc c o => rw [e] at h; cases h
    | bad => rw [e] at h; cases h
  · rename_i e1
    exact .inr ⟨e1, h⟩
  · cases h
theorem bind_ok {α β : Type} {r : Res α} {f : α → Res β} {b : β} (h : r.bind f = .ok b) : ∃ a, r = .ok a ∧ f a = .ok b := by
  cases r with
  | ok a => exact ⟨a, rfl, h⟩
  | exc c o => cases h
  | bad => cases h
/-- the block's parts, whatever its frame -/
def tcGU (X : Cx) (scope : Scope) (tg : Expr) : TG := fun v σ H Q => ∀ (s : Shared) (H1 : Hp) (Ca : Addr) (cl : List (Str × Addr)) (fp : List Addr), tcG (X.blk s H1 scope (compEnvC scope cl Ca X.env) fp) tg v σ H Q
def tcTU (X : Cx) (scope : Scope) (e : Expr) : TT := fun σ H Q => ∀ (s : Shared) (H1 : Hp) (Ca : Addr) (cl : List (Str × Addr)) (fp : List Addr), tcT (X.blk s H1 scope (compEnvC scope cl Ca X.env) fp) e σ H Q
def tcEU (X : Cx) (scope : Scope) (e : Expr) : TE := fun σ H Q => ∀ (s : Shared) (H1 : Hp) (Ca : Addr) (cl : List (Str × Addr)) (fp : List Addr), tcE (X.blk s H1 scope (compEnvC scope cl Ca X.env) fp) e σ H Q
theorem Ext.put {G1 H1 G2 Hh : Hp} {D : Addr} {o : HO} (e : Ext G1 H1 G2 Hh) (h1 : H1 D = none) (g : G2 D = none) : Ext G1 H1 G2 (upd Hh D o) where
  gs := e.gs
  hs := fun b x q => by rw [upd_ne (ne_of_none q h1)]; exact e.hs _ _ q
  gh := fun b x q => by rw [upd_ne (ne_of_none q g)]; exact e.gh _ _ q
  nw := e.nw
/-- the turns of a comprehension -/
theorem comp_run {sc scope : Scope} {X : Cx} {W : WX} (E : EC B n N sc X W) {tg cn el : C} {t elt : Expr} {vs : List Nat} (Sc : Sd B n N cn) (Se : Sd B n N el)
    (h2 : ckG N scope tg t = true) (h4 : (ck B N el).e false (relS scope sc) elt = true) (h7 : ∀ i ∈ tgS tg, i ∈ vs) {tt : TT}
    (htt : ∀ (σ2 : L2.St) (H2 : Hp) (G2 : Hp) (ρ2 : List Slot) (G0 H0 : Hp) (b : Bool) (Q : Bool → Hp → Prop), SI X.K G0 H0 G2 H2 ρ2 σ2 → (ev (φn B n) B.κ cn ρ2).bind truP = .ok b → (∀ G' H', Ext G2 H2 G' H' → Q b H') → tt σ2 H2 Q)
    {G0 H0 G H G1 H1 : Hp} {ρ : List Slot} {σ : L2.St} {Q : VK} (I : SI X.K G0 H0 G H ρ σ) (e1 : Ext G H G1 H1) {J : It} {xs ys : List PV} (hJ : ItP (CC G1 H1) X.K J xs) (hz : xs.length ≤ sizeLine)
    (hy : compL (fun x => (asgP tg x (wipeS ρ vs)).bind fun ρ' => (ev (φn B n) B.κ cn ρ').bind fun c => (truP c).bind fun t => if t then (ev (φn B n) B.κ el ρ').bind fun y => .ok (some y) else .ok none) xs = .ok ys)
    (D : Addr) (hD : H1 D = none) (k : ∀ G2 Hh accV, Ext G1 H1 G2 Hh → G2 D = none → Hh D = some (.lst accV) → Reps X.K G2 accV ys → Q (.ref D) Hh) :
    ∃ W : Nat → Nat → Hp → Prop, (∃ m, W 0 m (upd H1 D (.lst []))) ∧ ∀ i m H, W i m H →
      (J.stop i H ∧ Q (.ref D) H) ∨ (J.go i H ∧ ∃ Nx : Hp → Prop, (∀ H', Nx H' → ∃ m', m' < m ∧ W (i + 1) m' H') ∧ ∀ x H', J.yld i H x H' → tcGU X scope t x (L2.wipe σ vs) H' fun σ2 H2 => L2.wipe σ2 vs = L2.wipe σ vs ∧ tt σ2 H2 fun b H3 =>
        if b = true then tcEU X scope elt σ2 H3 fun y H4 => ∃ acc, H4 D = some (.lst acc) ∧ acc.length < sizeLine ∧ Nx (upd H4 D (.lst (acc ++ [y]))) else Nx H3) := by
  generalize hf : (fun x => (asgP tg x (wipeS ρ vs)).bind fun ρ' => (ev (φn B n) B.κ cn ρ').bind fun c => (truP c).bind fun t => if t then (ev (φn B n) B.κ el ρ').bind fun y => Res.ok (some y) else Res.ok none) = f at hy
  have g1D : G1 D = none := e1.gh.free hD
  refine ⟨fun i m Hh => ∃ G2 accV acc rest, m = xs.length - i ∧ i ≤ xs.length ∧ Ext G1 H1 G2 Hh ∧ G2 D = none ∧ Hh D = some (.lst accV) ∧ Reps X.K G2 accV acc ∧ acc.length ≤ i ∧ compL f (xs.drop i) = .ok rest ∧ ys = acc ++ rest,
    ⟨xs.length, G1, [], [], ys, rfl, Nat.zero_le _, Ext.newOwn e1.gh hD, g1D, upd_same, .nil, Nat.le_refl _, hy, rfl⟩, fun i m Hh hW => ?_⟩
  obtain ⟨G2, accV, acc, rest, rfl, hi, e2, g2D, hhD, rr, hal, hr, rfl⟩ := hW
  have hJi := hJ i G2 Hh e2 e2.gh
  by_cases hlt : i < xs.length
  · obtain ⟨x, hx⟩ : ∃ x, xs[i]? = some x := ⟨xs[i], List.getElem?_eq_getElem hlt⟩
    obtain ⟨go, yl⟩ := hJi.1 x hx
    have hdrop : xs.drop i = x :: xs.drop (i + 1) := by
      rw [List.drop_eq_getElem_cons hlt]
      rw [List.getElem?_eq_getElem hlt] at hx
      cases hx; rfl
    rw [hdrop] at hr
    refine .inr ⟨go, fun H' => ∃ G2 accV acc' rest', Ext G1 H1 G2 H' ∧ G2 D = none ∧ H' D = some (.lst accV) ∧ Reps X.K G2 accV acc' ∧ acc'.length ≤ i + 1 ∧ compL f (xs.drop (i + 1)) = .ok rest' ∧ acc ++ rest = acc' ++ rest', fun H' hN => ?_, fun v H' hyl => ?_⟩
    · obtain ⟨G3, aV, a3, r3, q1, q2, q3, q4, q5, q6, q7⟩ := hN
      exact ⟨xs.length - (i + 1), by omega, G3, aV, a3, r3, rfl, by omega, q1, q2, q3, q4, q5, q6, q7⟩
    · obtain ⟨G3, e3, rv⟩ := yl v H' hyl
      intro s1 Hs Ca cl fp
      have I3 : SI X.K G0 H0 G3 H' (wipeS ρ vs) (L2.wipe σ vs) := ((I.grow ((e1.trans e2).trans e3))).wipe vs
      have efx : ∃ o, f x = .ok o := by
        rcases compL_step hr with ⟨y, zs, h, _⟩ | ⟨h, _⟩
        · exact ⟨_, h⟩
        · exact ⟨_, h⟩
      obtain ⟨o, ho⟩ := efx
      have ho2 := ho
      rw [← hf] at ho2
      obtain ⟨ρ', ea, ho3⟩ := bind_ok ho2
      obtain ⟨c, ec, ho4⟩ := bind_ok ho3
      obtain ⟨b, eb, ho5⟩ := bind_ok ho4
      refine (tgt_both (G0 := G0) (H0 := H0) (G := G3) (H := H') (TC.blk E s1 Hs Ca cl fp) tg).1 t h2 x v (wipeS ρ vs) ρ' (L2.wipe σ vs) _ ea I3 rv fun σ2 I4 o4 l4 => ?_
      refine ⟨wipe_same (by rw [l4, wipe_length]) fun j hj => o4 j fun z => hj (h7 j z), ?_⟩
      refine htt σ2 H' G3 ρ' G0 H0 b _ I4 (by rw [ec]; exact eb) fun G4 H4 e4 => ?_
      have I5 : SI X.K G0 H0 G4 H4 ρ' σ2 := I4.grow e4
      have e24 : Ext G2 Hh G4 H4 := e3.trans e4
      have g4D : G4 D = none := e24.own g2D hhD
      have h4D : H4 D = some (.lst accV) := e24.hs _ _ hhD
      cases b with
      | true =>
        refine iteT ?_
        have ho6 : ((ev (φn B n) B.κ el ρ').bind fun y => Res.ok (some y)) = .ok o := ho5
        obtain ⟨y, ey, ho7⟩ := bind_ok ho6
        cases ho7
        rcases compL_step hr with ⟨y', zs, h, hzs, rfl⟩ | ⟨h, _⟩
        · rw [ho] at h; cases h
          intro s2 Hs2 Ca2 cl2 fp2
          refine Se.e false (relS scope sc) elt h4 _ _ (E.blk s2 Hs2 Ca2 cl2 fp2) G0 H0 G4 H4 ρ' σ2 _ I5 ?_
          rw [ey]
          intro G5 H5 v5 e5 r5
          have e25 : Ext G2 Hh G5 H5 := e24.trans e5
          have g5D : G5 D = none := e25.own g2D hhD
          have h5D : H5 D = some (.lst accV) := e25.hs _ _ hhD
          refine ⟨accV, h5D, ?_, G5, accV ++ [v5], acc ++ [y], zs, (e2.trans e25).put hD g5D, g5D, upd_same, (rr.mono e25.gs).append (.cons r5 .nil), ?_, hzs, ?_⟩
          · rw [rr.length]; omega
          · rw [List.length_append]; show acc.length + 1 ≤ i + 1; omega
          · rw [List.append_assoc]; rfl
        · rw [ho] at h; cases h
      | false =>
        refine iteF ?_
        have ho6 : (Res.ok none : Res (Option PV)) = .ok o := ho5
        cases ho6
        rcases compL_step hr with ⟨y', zs, h, hzs, rfl⟩ | ⟨h, hrest⟩
        · rw [ho] at h; cases h
        · exact ⟨G4, accV, acc, rest, e2.trans e24, g4D, h4D, rr.mono e24.gs, by omega, hrest, rfl⟩
  · have hi' : i = xs.length := by omega
    refine .inl ⟨hJi.2 (by omega), ?_⟩
    rw [hi', List.drop_length] at hr
    cases hr
    rw [List.append_nil] at k
    exact k G2 Hh accV e2 g2D hhD rr
theorem comp_list {scope : Scope} {vs : List Nat} {own : List (Str × Nat)} {sc : Scope} {X : Cx} {W : WX} (E : EC B n N sc X W) {tg it cn el : C} {t i elt : Expr} {ifs : List Expr} (Si : Sd B n N it) (Sc : Sd B n N cn) (Se : Sd B n N el)
    (h1 : (ck B N it).i true (isTupE t) sc i = true) (h2 : ckG N scope tg t = true) (h3 : (match ifs with | [] => isTrueC cn | [c] => (ck B N cn).t (relS scope sc) c | _ => false) = true) (h4 : (ck B N el).e false (relS scope sc) elt = true)
    (h6 : vs = own.map (·.2)) (h7 : ∀ i ∈ tgS tg, i ∈ vs)
    {G0 H0 G H : Hp} {ρ : List Slot} {σ : L2.St} {Q : VK} {okP : PV → Prop} (I : SI X.K G0 H0 G H ρ σ) (g : GX (XB B X) W G H σ okP (ev (φn B n) B.κ (.comp vs tg it cn el) ρ))
    (hok : ∀ ys, okP (.lst ys) → ∀ G1 H1, Ext G H G1 H1 → ∀ D, H1 D = none → ∀ G2 Hh accV, Ext G1 H1 G2 Hh → G2 D = none → Hh D = some (.lst accV) → Reps X.K G2 accV ys → Q (.ref D) Hh) :
    ∃ tt : TT, (∀ (s : Shared) (H : Hp) (Ca : Addr) (cl : List (Str × Addr)) (fp : List Addr), PTs (X.blk s H scope (compEnvC scope cl Ca X.env) fp) ifs tt) ∧
      tLc (tcI X t i) (tcGU X scope t) tt (tcEU X scope elt) (own.map (·.2)) σ H Q := by
  have g0 : GX (XB B X) W G H σ okP ((ev (φn B n) B.κ it ρ).bind fun l => (lstOf l).bind fun xs =>
    (compL (fun x => (asgP tg x (wipeS ρ vs)).bind fun ρ' => (ev (φn B n) B.κ cn ρ').bind fun c => (truP c).bind fun t => if t then (ev (φn B n) B.κ el ρ').bind fun y => .ok (some y) else .ok none) xs).bind fun ys => .ok (.lst ys)) := g
  have fin : ∀ tt : TT, (∀ (σ2 : L2.St) (H2 : Hp) (G2 : Hp) (ρ2 : List Slot) (G0 H0 : Hp) (b : Bool) (Q : Bool → Hp → Prop), SI X.K G0 H0 G2 H2 ρ2 σ2 → (ev (φn B n) B.κ cn ρ2).bind truP = .ok b → (∀ G' H', Ext G2 H2 G' H' → Q b H') → tt σ2 H2 Q) →
      tLc (tcI X t i) (tcGU X scope t) tt (tcEU X scope elt) (own.map (·.2)) σ H Q := fun tt htt => by
    refine Si.i true sc t i h1 X W E G0 H0 G H ρ σ _ I (g0.bind.imp fun l _ g1 => ?_)
    cases l with
    | lst xs =>
      refine ⟨xs, rfl, fun G1 H1 J e1 hJ hz D hD => ?_⟩
      rw [← h6]
      have g2 : GX (XB B X) W G H σ okP ((compL (fun x => (asgP tg x (wipeS ρ vs)).bind fun ρ' => (ev (φn B n) B.κ cn ρ').bind fun c => (truP c).bind fun t => if t then (ev (φn B n) B.κ el ρ').bind fun y => .ok (some y) else .ok none) xs).bind fun ys => .ok (.lst ys)) := g1
      cases ey : compL (fun x => (asgP tg x (wipeS ρ vs)).bind fun ρ' => (ev (φn B n) B.κ cn ρ').bind fun c => (truP c).bind fun t => if t then (ev (φn B n) B.κ el ρ').bind fun y => Res.ok (some y) else Res.ok none) xs with
      | ok ys =>
        rw [ey] at g2
        exact comp_run E Sc Se h2 h4 h7 htt I e1 hJ hz ey D hD fun G2 Hh accV q1 q2 q3 q4 => hok ys g2 G1 H1 e1 D hD G2 Hh accV q1 q2 q3 q4
      | exc c o => exact absurd ey (compL_exc xs)
      | bad => rw [ey] at g2; exact g2.elim
    | _ => exact g1.elim
  cases ifs with
  | nil =>
    refine ⟨tYes, fun _ _ _ _ _ => pts_nil, fin _ fun σ2 H2 G2 ρ2 G0 H0 b Q I2 hb hq => ?_⟩
    have hcn : cn = .k (.bl true) := by
      have h3 : isTrueC cn = true := h3
      unfold isTrueC at h3
      split at h3
      · rfl
      · cases h3
    subst hcn
    cases hb
    exact hq G2 H2 (Ext.refl I2.sub)
  | cons c r =>
    cases r with
    | nil =>
      refine ⟨tcTU X scope c, fun s H Ca cl fp => pts_one ⟨fun pins s' σ H Q J h => h s _ Ca cl fp pins s' J⟩, fin _ fun σ2 H2 G2 ρ2 G0 H0 b Q I2 hb hq => ?_⟩
      intro s1 Hs Ca cl fp
      refine Sc.t (relS scope sc) c h3 _ _ (E.blk s1 Hs Ca cl fp) G0 H0 G2 H2 ρ2 σ2 Q I2 ?_
      rw [hb]
      exact hq
    | cons d r => cases h3
theorem contains_mem {vs : List Nat} {l : List Nat} (h : (l.all fun i => vs.contains i) = true) : ∀ i ∈ l, i ∈ vs := fun i hi => by
  have := List.all_eq_true.mp h i hi
  simpa using this
theorem eComp_ok {vs : List Nat} {tg : C} {it cn el : C} {sc : Scope} {e : Expr} (hc : (ck B N (.comp vs tg it cn el)).e false sc e = true) : ∃ elt t i ifs scope pos, e = .ListComp elt [⟨t, i, ifs, 0⟩] scope pos ∧ (ck B N it).i true (isTupE t) sc i = true ∧ ckG N scope tg t = true ∧
      (match ifs with | [] => isTrueC cn | [c] => (ck B N cn).t (relS scope sc) c | _ => false) = true ∧ (ck B N el).e false (relS scope sc) elt = true ∧
      blkC N sc scope (ownOf N scope) = true ∧ vs = (ownOf N scope).map (·.2) ∧ notSet i = true ∧ ∀ i ∈ tgS tg, i ∈ vs := by
  have hc : eComp N vs tg (ck B N it) (ck B N cn) (ck B N el) (isTrueC cn) false sc e = true := hc
  unfold eComp at hc
  split at hc
  · simp only [Bool.and_eq_true, decide_eq_true_eq] at hc
    obtain ⟨⟨⟨⟨⟨⟨⟨h1, h2⟩, h3⟩, h4⟩, h5⟩, h6⟩, hset⟩, h7⟩ := hc
    exact ⟨_, _, _, _, _, _, rfl, h1, h2, h3, h4, h5, h6, hset, contains_mem h7⟩
  · cases hc
theorem comp_pe {vs : List Nat} {tg : C} {it cn el : C} (Si : Sd B n N it) (Sc : Sd B n N cn) (Se : Sd B n N el) {sc : Scope} {e : Expr} (hc : (ck B N (.comp vs tg it cn el)).e false sc e = true) {X : Cx} {W : WX} (E : EC B n N sc X W)
    {G0 H0 G H : Hp} {ρ : List Slot} {σ : L2.St} {Q : VK} {okP : PV → Prop} (I : SI X.K G0 H0 G H ρ σ) (g : GX (XB B X) W G H σ okP (ev (φn B n) B.κ (.comp vs tg it cn el) ρ))
    (hok : ∀ ys, okP (.lst ys) → ∀ G1 H1, Ext G H G1 H1 → ∀ D, H1 D = none → ∀ G2 Hh accV, Ext G1 H1 G2 Hh → G2 D = none → Hh D = some (.lst accV) → Reps X.K G2 accV ys → Q (.ref D) Hh) : tcE X e σ H Q := by
  obtain ⟨elt, t, i, ifs, scope, pos, rfl, h1, h2, h3, h4, h5, h6, hset, h7⟩ := eComp_ok hc
  obtain ⟨tt, ht, hl⟩ := comp_list E Si Sc Se h1 h2 h3 h4 h6 h7 I g hok
  exact pe_can' (pe_lc E.calm (by rw [E.nm]; exact E.nd) pi_can (own := ownOf N scope) (by rw [E.nm, E.scope]; exact blkOk_by h5) (fun s H Ca cl fp => ⟨fun pins s' σ H Q v u I r h => h s _ Ca cl fp pins s' _ I r⟩) ht (fun s H Ca cl fp => ⟨fun pins s' σ H Q J h => h s _ Ca cl fp pins s' J⟩) (fun x => notSet_folded hset X.env x)) hl
theorem okE_comp {K : PySem.W.Frag} {G H : Hp} {Q : VK} (ys : List PV) (k : okE false K G H Q (.lst ys)) (G1 H1 : Hp) (e1 : Ext G H G1 H1) (D : Addr) (hD : H1 D = none) (G2 Hh : Hp) (accV : List V) (e2 : Ext G1 H1 G2 Hh) (g : G2 D = none) (h : Hh D = some (.lst accV)) (rr : Reps K G2 accV ys) : Q (.ref D) Hh :=
  k (upd G2 D (.lst accV)) Hh (.ref D) (e1.trans (e2.frz h g hD)) (.lst upd_same (rr.mono (same_upd g)))
theorem sd_comp (vs : List Nat) (tg : C) {it cn el : C} (Si : Sd B n N it) (Sc : Sd B n N cn) (Se : Sd B n N el) : Sd B n N (.comp vs tg it cn el) := by
  refine Sd.mk1 rfl (fun z => nomatch z) (SE.all ?_ fun _ _ _ h => h)
  intro sc e hc X W E G0 H0 G H ρ σ Q I g
  exact comp_pe Si Sc Se hc E I g okE_comp
end
end Z
end
section
namespace Z
open PySem PySem.Spec PyProof.Rows L2
/-! ### lists of one's own, just made -/
abbrev okF (K : PySem.W.Frag) (G H : Hp) (Q : VK) : PV → Prop := fun l => ∃ xs, l = .lst xs ∧ ∀ G' H' a vs, Ext G H G' H' → H a = none → G' a = none → H' a = some (.lst vs) → Reps K G' vs xs → Q (.ref a) H'
section
variable (B : Tb) (n : Nat) (N : List Str)
def SF (c : C) : Prop := ∀ (sc : Scope) (e : Expr), (ck B N c).e false sc e = true → ∀ (X : Cx) (W : WX), EC B n N sc X W → ∀ (G0 H0 G H : Hp) (ρ : List Slot) (σ : L2.St) (Q : VK), SI X.K G0 H0 G H ρ σ →
  GX (XB B X) W G H σ (okF X.K G H Q) (ev (φn B n) B.κ c ρ) → tcE X e σ H Q
/-- which terms make a list that is nobody else's -/
def frC : C → Bool
  | .dsp _ => true
  | .comp _ _ _ _ _ => true
  | .bin .add _ _ => true
  | .sl _ _ _ => true
  | .bi .list _ => true
  | _ => false
end
section
variable {B : Tb} {n : Nat} {N : List Str}
theorem okF.now {K : PySem.W.Frag} {G H G1 H1 : Hp} {Q : VK} {xs : List PV} (k : okF K G H Q (.lst xs)) (e : Ext G H G1 H1) {a : Addr} {vs : List V} (h : H1 a = none) (rr : Reps K G1 vs xs) : Q (.ref a) (upd H1 a (.lst vs)) := by
  obtain ⟨ys, ey, k⟩ := k
  cases ey
  exact k G1 (upd H1 a (.lst vs)) a vs (e.trans (Ext.newOwn e.gh h)) (e.hs.free h) (e.gh.free h) upd_same rr
theorem sf_dsp {es : C} (Ss : Sd B n N es) : SF B n N (.dsp es) := by
  intro sc e hc X W E G0 H0 G H ρ σ Q I g
  have hc : eDsp (ck B N es) false sc e = true := hc
  unfold eDsp at hc
  split at hc
  · simp only [Bool.and_eq_true] at hc
    refine pe_can' (pe_lst pa_can) ?_
    have hl := ble1000 hc.2
    have g0 : GX (XB B X) W G H σ (okF X.K G H Q) ((ev (φn B n) B.κ es ρ).bind fun l => (lstOf l).bind fun xs => .ok (.lst xs)) := g
    refine Ss.a false sc _ hc.1 X W E G0 H0 G H ρ σ _ I (g0.bind.imp fun l el g1 => ?_)
    cases l with
    | lst ps =>
      have en := argsLen (c := es) hc.1 el
      exact ⟨ps, rfl, fun G1 H1 vs e1 rs => ⟨by rw [rs.length, en]; exact hl, fun p hp => okF.now g1 e1 hp rs.r⟩⟩
    | _ => exact g1.elim
  · cases hc
theorem sf_bin {a b : C} (Sa : Sd B n N a) (Sb : Sd B n N b) : SF B n N (.bin .add a b) := by
  intro sc e hc X W E G0 H0 G H ρ σ Q I g
  have hc : eBin .add (ck B N a) (ck B N b) false sc e = true := hc
  unfold eBin at hc
  split at hc
  · obtain ⟨h1, h2, h3⟩ := and3 hc
    have h1' := bopB_ok h1
    subst h1'
    refine pe_can' (pe_op (opCan_ok X _) pe_can pe_can) ?_
    refine two_ok Sa Sb E h2 h3 I g fun p q G' H' v u ex I' r1 r2 g' => ?_
    have r1 := r1.x
    have r2 := r2.x
    cases p with
    | lst xs =>
      cases q with
      | lst ys =>
        obtain ⟨a1, vs, rfl, ha, rr1⟩ := r1.lst I'.sub
        obtain ⟨b1, ws, rfl, hb, rr2⟩ := r2.lst I'.sub
        have g' : GX (XB B X) W G H σ (okF X.K G H Q) (if fits (xs.length + ys.length) then .ok (.lst (xs ++ ys)) else .bad) := g'
        split at g'
        · rename_i hf
          exact opCan_of op_cat ⟨_, _, _, _, rfl, rfl, ha, hb, by rw [rr1.length, rr2.length]; exact fits_le hf, fun c hc => okF.now g' ex hc (rr1.append rr2)⟩
        · exact g'.elim
      | _ => exact g'.elim
    | int i =>
      cases q with
      | int j => obtain ⟨ys, ey, _⟩ := g'; cases ey
      | _ => exact g'.elim
    | str i =>
      cases q with
      | str j =>
        have g' : GX (XB B X) W G H σ (okF X.K G H Q) (if fits (i.length + j.length) then .ok (.str (i ++ j)) else .bad) := g'
        split at g'
        · obtain ⟨ys, ey, _⟩ := g'; cases ey
        · exact g'.elim
      | _ => exact g'.elim
    | tup i =>
      cases q with
      | tup j =>
        have g' : GX (XB B X) W G H σ (okF X.K G H Q) (if fits (i.length + j.length) then .ok (.tup (i ++ j)) else .bad) := g'
        split at g'
        · obtain ⟨ys, ey, _⟩ := g'; cases ey
        · exact g'.elim
      | _ => exact g'.elim
    | _ => exact g'.elim
  · cases hc
theorem sf_sl {a lo hi : C} (Sa : Sd B n N a) (Sl : Sd B n N lo) (Sh : Sd B n N hi) : SF B n N (.sl a lo hi) := by
  intro sc e hc X W E G0 H0 G H ρ σ Q I g
  have hc : eSl (ck B N a) (ck B N lo) (ck B N hi) false sc e = true := hc
  unfold eSl at hc
  split at hc
  · obtain ⟨h1, h2, h3⟩ := and3 hc
    refine pe_can' (pe_slice (slCan_ok X) pe_can po_can po_can) ?_
    have g0 : GX (XB B X) W G H σ (okF X.K G H Q) ((ev (φn B n) B.κ a ρ).bind fun x => (partC lo (ev (φn B n) B.κ lo ρ)).bind fun l => (partC hi (ev (φn B n) B.κ hi ρ)).bind fun h => slV x l h) := g
    refine Sa.e true sc _ h1 X W E G0 H0 G H ρ σ _ I (g0.bind.imp fun p _ g1 G1 H1 v e1 r1 => ?_)
    have I1 := I.grow e1
    refine Sl.o sc _ h2 X W E G0 H0 G1 H1 ρ σ _ I1 ((GX.move (ok' := fun l => GX (XB B X) W G H σ (okF X.K G H Q) ((partC hi (ev (φn B n) B.κ hi ρ)).bind fun h => slV p l h)) g1.bind e1 fun q h => h).imp fun l _ g2 G2 H2 e2 => ?_)
    have I2 := I1.grow e2
    refine Sh.o sc _ h3 X W E G0 H0 G2 H2 ρ σ _ I2 ((GX.move (ok' := fun h => GX (XB B X) W G H σ (okF X.K G H Q) (slV p l h)) g2.bind (e1.trans e2) fun q h => h).imp fun h _ g3 G3 H3 e3 => ?_)
    have rx := ((r1.mono e2).mono e3).x
    cases p with
    | lst xs =>
      obtain ⟨a1, vs, rfl, sh, r⟩ := rx.lst (I2.grow e3).sub
      exact slCan_of sl_list ⟨_, _, rfl, .inl (.inl sh), fun c hc => okF.now g3 ((e1.trans e2).trans e3) hc (r.cut l h)⟩
    | tup xs => obtain ⟨ys, ey, _⟩ := g3; cases ey
    | str xs => obtain ⟨ys, ey, _⟩ := g3; cases ey
    | _ => exact g3.elim
  · cases hc
theorem sf_list {es : C} (Ss : Sd B n N es) : SF B n N (.bi .list es) := by
  intro sc e hc X W E G0 H0 G H ρ σ Q I g
  obtain ⟨x, p, y, xs, pos, rfl, hk⟩ : ∃ x p y xs pos, e = .Call (.Name x p) (y :: xs) [] pos ∧ (sEq (biN .list) x && glB sc x && (ck B N es).a true sc (y :: xs) && (y :: xs).all notStar) = true := by
    have hc : eBi .list (ck B N es) false sc e = true := hc
    unfold eBi at hc
    split at hc
    · exact ⟨_, _, _, _, _, rfl, hc⟩
    · cases hc
  simp only [Bool.and_eq_true, List.all_cons] at hk
  obtain ⟨⟨⟨h1, h2⟩, h3⟩, h4, h5⟩ := hk
  obtain ⟨g1, g2, g3⟩ := glB_ok h2
  have h1' := sEq_ok h1
  subst h1'
  have g0 : GX (XB B X) W G H σ (okF X.K G H Q) ((ev (φn B n) B.κ es ρ).bind fun l => (lstOf l).bind fun xs => biP .list xs) := g
  have hm := E.blt (biN_mem .list)
  refine pe_can' (pe_callTy (callCan_ok X _) (E.gl g1) hm boot_list pa_can g3 g2 (star_of h4) (nostars h5)) ?_
  refine args_ok Ss h3 E I g0 fun ps G' H' vs ex I' rs g' => ?_
  have rs := rs.x
  unfold biP at g'
  split at g' <;> first | contradiction | skip
  · cases rs with
    | cons r t =>
      cases t
      obtain ⟨a, vs, rfl, sh, rr⟩ := r.lst I'.sub
      exact callCan_of call_list_of ⟨_, _, rfl, .inl (.inl (.inl sh)), fun c hc => okF.now g' ex hc rr⟩
  · cases rs with
    | cons r t =>
      cases t
      obtain ⟨a, vs, rfl, sg, sh, rr⟩ := r.tup I'.sub
      exact callCan_of call_list_of ⟨_, _, rfl, .inr sh, fun c hc => okF.now g' ex hc rr⟩
theorem okF_comp {K : PySem.W.Frag} {G H : Hp} {Q : VK} (ys : List PV) (k : okF K G H Q (.lst ys)) (G1 H1 : Hp) (e1 : Ext G H G1 H1) (D : Addr) (hD : H1 D = none) (G2 Hh : Hp) (accV : List V) (e2 : Ext G1 H1 G2 Hh) (g : G2 D = none) (h : Hh D = some (.lst accV)) (rr : Reps K G2 accV ys) : Q (.ref D) Hh := by
  obtain ⟨zs, ez, k⟩ := k
  cases ez
  exact k G2 Hh D accV (e1.trans e2) (e1.hs.free hD) g h rr
theorem sf_comp (vs : List Nat) (tg : C) {it cn el : C} (Si : Sd B n N it) (Sc : Sd B n N cn) (Se : Sd B n N el) : SF B n N (.comp vs tg it cn el) := fun sc e hc X W E G0 H0 G H ρ σ Q I g => comp_pe Si Sc Se hc E I g okF_comp
end
end Z
end
section
namespace Z
open PySem PySem.Spec PyProof.Rows L2
/-! ### statements: the look -/
structure CkS where
  s : Scope → Stmt → Bool
  b : Scope → List Stmt → Bool
def sNo : Scope → Stmt → Bool := fun _ _ => false
def mkS (s : Scope → Stmt → Bool) : CkS := ⟨s, fun _ _ => false⟩
def notComp : Expr → Bool
  | .ListComp _ _ _ _ => false
  | .SetComp _ _ _ _ => false
  | .DictComp _ _ _ _ _ => false
  | _ => true
/-- name = [..]: are the stores exchanged? -/
def swB (sc : Scope) (x : Str) (px : Pos) : Expr → Bool
  | .ListComp _ _ scope p => (match sc.names.lookup x with | some .local => true | _ => false) && (px.line == p.line) && !(scope.names.any fun (n, k) => n == x && (k == .local || k == .cell))
  | _ => false
def isLc : C → Bool
  | .comp _ _ _ _ _ => true
  | _ => false
def isCallC : C → Bool
  | .call _ _ => true
  | _ => false
section
variable (B : Tb) (N : List Str)
def sSet (i : Nat) (ce : Ck) (lc : Bool) : Scope → Stmt → Bool := fun sc st => match st with
  | .Assign [.Name x px] v _ => ixB N i x && locB sc x && ce.e false sc v && (notComp v || lc)
  | _ => false
def nameLn (sc : Scope) (l : Nat) : Expr → Option Str
  | .Name x p => if (match sc.names.lookup x with | some .local => true | _ => false) && p.line == l then some x else none
  | _ => none
/-- a, b = x, y | a, b, c = x, y, z with plain local names -/
def sPar (ts : C) (ce : Ck) : Scope → Stmt → Bool := fun sc st => match ts, st with
  | .cons (.tn i) (.cons (.tn j) .nil), .Assign [.Tuple [.Name x px, .Name y py] _ _] (.Tuple [v, w] _ _) _ => ixB N i x && ixB N j y && !(i == j) && (match sc.names.lookup x with | some .local => true | _ => false) && (match sc.names.lookup y with | some .local => true | _ => false) &&
      (px.line == py.line) && ce.a false sc [v, w] && !(foldedForSure 8 v && foldedForSure 8 w) && !(constantsAlone 8 v && constantsAlone 8 w)
  | .cons (.tn i) (.cons (.tn j) (.cons (.tn l) .nil)), .Assign [.Tuple [.Name x px, .Name y py, .Name z pz] _ _] (.Tuple [v, w, u] _ _) _ => ixB N i x && ixB N j y && ixB N l z && !(i == j) && !(i == l) && !(j == l) && (match sc.names.lookup x with | some .local => true | _ => false) && (match sc.names.lookup y with | some .local => true | _ => false) && (match sc.names.lookup z with | some .local => true | _ => false) &&
      (px.line == py.line) && (px.line == pz.line) && ce.a false sc [v, w, u] && !(foldedForSure 8 v && foldedForSure 8 w && foldedForSure 8 u) && !(constantsAlone 8 v && constantsAlone 8 w && constantsAlone 8 u)
  | _, _ => false
def notTupE : Expr → Bool
  | .Tuple _ _ _ => false
  | _ => true
/-- not all targets are plain local names of one line -/
def someCell (sc : Scope) (ts : List Expr) : Bool := (ts.filterMap fun
    | .Name id pos => if sc.names.lookup id == some .local && pos.line == (ts.head?.map (·.pos.line)).getD 0 then some id else none
    | _ => none).length != ts.length
/-- a, b = e, e no tuple display, or one of constants -/
def sAsg (tg : C) (ce : Ck) : Scope → Stmt → Bool := fun sc st => match st with
  | .Assign [.Tuple ts k p] v _ => ckG N sc tg (.Tuple ts k p) && ce.e false sc v && true && (notTupE v || someCell sc ts || (match v with | .Tuple vs _ _ => vs.all notStar && vs.all (foldedForSure 8) && !(vs.length != ts.length) | _ => false))
  | _ => false
def sApp (i : Nat) (m : Str) (ce : Ck) : Scope → Stmt → Bool := fun sc st => match st with
  | .Expr (.Call (.Attribute (.Name x _) a ap) [v] [] p) _ => ckVar N sc i x && sEq a m && ce.e false sc v && notStar v && (ap.endLine == p.line)
  | _ => false
def sPut (i : Nat) (cj ce : Ck) : Scope → Stmt → Bool := fun sc st => match st with
  | .Assign [.Subscript (.Name x _) j _] v _ => ckVar N sc i x && cj.e false sc j && notSlice j && ce.e false sc v && notComp v
  | _ => false
def sAug (i : Nat) (op : Bop) (ce : Ck) : Scope → Stmt → Bool := fun sc st => match st with
  | .AugAssign (.Name x _) o v _ => ixB N i x && locB sc x && bopB op o && ce.e false sc v && (match op with | .add => true | .sub => true | _ => false)
  | _ => false
def sAux (i : Nat) (cj : Ck) (op : Bop) (ce : Ck) : Scope → Stmt → Bool := fun sc st => match st with
  | .AugAssign (.Subscript (.Name x _) j _) o v _ => ckVar N sc i x && cj.e false sc j && notSlice j && bopB op o && ce.e false sc v && (match op with | .add => true | .sub => true | _ => false)
  | _ => false
def sExp (ce : Ck) : Scope → Stmt → Bool := fun sc st => match st with
  | .Expr v _ => ce.e false sc v && notComp v
  | _ => false
def sIf (cc : Ck) (a b : CkS) : Scope → Stmt → Bool := fun sc st => match st with
  | .If t x y _ => cc.t sc t && a.b sc x && b.b sc y
  | _ => false
def sFor (tg : C) (ci : Ck) (b : CkS) : Scope → Stmt → Bool := fun sc st => match st with
  | .For t i x [] _ => ckG N sc tg t && ci.i false (isTupE t) sc i && notSet i && b.b sc x
  | _ => false
def sWh (cc : Ck) (b : CkS) : Scope → Stmt → Bool := fun sc st => match st with
  | .While t x [] _ => cc.t sc t && b.b sc x
  | _ => false
def sRet (ce : Ck) : Scope → Stmt → Bool := fun sc st => match st with
  | .Return (some v) _ => ce.e false sc v
  | _ => false
def sReo (i : Nat) : Scope → Stmt → Bool := fun sc st => match st with
  | .Return (some (.Name x _)) _ => ckVar N sc i x
  | _ => false
def sRai (c : Nat) (es : C) : Scope → Stmt → Bool := fun sc st => match es, st with
  | .nil, .Raise (some (.Call (.Name x _) [.Constant (.str _) _ _] [] _)) none _ => nmB (B.xnm c) x && glB sc x
  | _, _ => false
def sTok : Scope → Stmt → Bool := fun _ st => match st with
  | .Break _ => true
  | _ => false
def sTct : Scope → Stmt → Bool := fun _ st => match st with
  | .Continue _ => true
  | _ => false
def bNil : Scope → List Stmt → Bool := fun _ sts => match sts with
  | [] => true
  | _ => false
def isFrz : C → Bool
  | .sfrz _ => true
  | _ => false
def bCons (s : CkS) (ss : CkS) (frz : Bool) : Scope → List Stmt → Bool := fun sc sts => match frz, sts with
  | true, sts => ss.b sc sts
  | false, st :: r => s.s sc st && ss.b sc r
  | false, [] => false
def noIfe : C → Bool
  | .ife _ _ _ => false
  | .nt a => noIfe a
  | .an a b => noIfe a && noIfe b
  | _ => true
def ckNm (ie : Option Str) (y : Str) : Bool := match ie with
  | some z => sEq y z
  | none => false
/-- in an except clause: ie: the error's name -/
def ckX (ie : Option Str) : C → Scope → Expr → Bool
  | .k p, _, .Constant c _ _ => ckK p c
  | .isx d, sc, .Call (.Name x _) [.Name y _, .Name z _] [] _ => sEq "isinstance" x && glB sc x && ckNm ie y && nmB (B.xnm d) z && glB sc z
  | .nt a, sc, .UnaryOp .Not x _ => ckX ie a sc x
  | .an a b, sc, .BoolOp .And [x, y] _ => ckX ie a sc x && ckX ie b sc y
  | .ife d a b, sc, .IfExp t x y _ => ckX ie d sc t && ckX ie a sc x && ckX ie b sc y && noIfe d
  | _, _, _ => false
def ckSu (ne : Option Str) (suite : C) (sc : Scope) (s0 : Stmt) : Bool := match suite, s0 with
  | .sret e, .Return (some v) _ => ckX B ne e sc v
  | .sapp j e, .Expr (.Call (.Attribute (.Name y _) a ap) [v] [] p) _ => ckVar N sc j y && sEq a "append" && ckX B ne e sc v && notStar v && (ap.endLine == p.line)
  | .jk, _ => true
  | _, _ => false
def ckNe (i : Option Nat) (ne : Option Str) (sc : Scope) : Bool := match i, ne with
  | none, none => true
  | some i, some ne => ixB N i ne && (match sc.names.lookup ne with | some .local => true | _ => false) && !(ne == ("__debug__" : Str)) && !(ne == ("__classdict__" : Str))
  | _, _ => false
/-- the except clauses -/
def ckH (sc : Scope) : C → List ExceptHandler → Bool
  | .hn, [] => true
  | .hc cls i s r, .ExceptHandler (some (.Name x _)) ne [s0] _ :: hs => nmB (B.xnm cls) x && glB sc x && ckNe N i ne sc && ckSu B N ne s sc s0 && ckH sc r hs
  | _, _ => false
def sTry (b : CkS) (hs : C) : Scope → Stmt → Bool := fun sc st => match st with
  | .Try body (h0 :: h) [] [] _ => b.b sc body && ckH B N sc hs (h0 :: h)
  | _ => false
def cks : C → CkS
  | .sset i e => mkS (sSet N i (ck B N e) (isLc e))
  | .sown i e => bif frC e || isCallC e then mkS (sSet N i (ck B N e) (isLc e)) else mkS sNo
  | .sasg (.tt ts) (.tup es) => mkS fun sc st => sPar N ts (ck B N es) sc st || sAsg N (.tt ts) (ck B N (.tup es)) sc st
  | .sasg tg e => mkS (sAsg N tg (ck B N e))
  | .sapp i e => mkS (sApp N i "append" (ck B N e))
  | .sext i e => mkS (sApp N i "extend" (ck B N e))
  | .sput i ix e => mkS (sPut N i (ck B N ix) (ck B N e))
  | .saug i op e => mkS (sAug N i op (ck B N e))
  | .saux i ix op e => mkS (sAux N i (ck B N ix) op (ck B N e))
  | .sexp e => mkS (sExp (ck B N e))
  | .sif c a b => mkS (sIf (ck B N c) (cks a) (cks b))
  | .sfor tg it body => mkS (sFor N tg (ck B N it) (cks body))
  | .swh c body => mkS (sWh (ck B N c) (cks body))
  | .sret e => mkS (sRet (ck B N e))
  | .sreo i => mkS (sReo N i)
  | .sref e => bif frC e then mkS (sRet (ck B N e)) else mkS sNo
  | .srai c es => mkS (sRai B c es)
  | .stry b hs => mkS (sTry B N (cks b) hs)
  | .spop i ix => mkS (sApp N i "pop" (ck B N ix))
  | .jk => ⟨fun _ _ => true, fun _ _ => true⟩
  | .sbrk => mkS sTok
  | .scnt => mkS sTct
  | .snil => ⟨sNo, bNil⟩
  | .scons s ss => ⟨sNo, bCons (cks s) (cks ss) (isFrz s)⟩
  | _ => mkS sNo
end
/-! ### what a statement promises -/
def tcS (X : Cx) (st : Stmt) : TS := fun D σ H => ∀ (pins : List (Addr × Obj)) (s : Shared), Inv X pins σ H s → wpAny (model X.prog X.w) X.A (exec st X.env) (SP X pins D) X.xe s
def tcB (X : Cx) (sts : List Stmt) : TS := fun D σ H => ∀ (pins : List (Addr × Obj)) (s : Shared), Inv X pins σ H s → wpAny (model X.prog X.w) X.A (execs sts X.env) (SP X pins D) X.xe s
section
variable {X : Cx} {st : Stmt} {sts : List Stmt} {σ : L2.St} {H : Hp} {D : Ends}
theorem ps_can : PS X st (tcS X st) := ⟨fun pins s σ H D I h => h pins s I⟩
theorem pss_can : PSs X sts (tcB X sts) := ⟨fun pins s σ H D I h => h pins s I⟩
theorem ps_can' {t : TS} (h : PS X st t) (q : t D σ H) : tcS X st D σ H := fun pins s I => h.run pins s σ H D I q
theorem pss_can' {t : TS} (h : PSs X sts t) (q : t D σ H) : tcB X sts D σ H := fun pins s I => h.run pins s σ H D I q
end
def GS (K : PySem.W.Frag) (XI : Ends1) (W : WX) (D : Ends) (G0 H0 G : Hp) (o : Out) : Prop := match o with
  | .nx ρ => ∀ G' H' σ', SI K G0 H0 G' H' ρ σ' → Same G G' → D.nx σ' H'
  | .bk ρ => ∀ G' H' σ', SI K G0 H0 G' H' ρ σ' → Same G G' → D.bk σ' H'
  | .ct ρ => ∀ G' H' σ', SI K G0 H0 G' H' ρ σ' → Same G G' → D.ct σ' H'
  | .ret (.shr p) => ∀ G' H' v, Ext G0 H0 G' H' → Rep K G' v p → D.rt v H'
  | .ret (.own xs) => ∀ G' H' a vs, Ext G0 H0 G' H' → H0 a = none → G' a = none → H' a = some (.lst vs) → Reps K G' vs xs → D.rt (.ref a) H'
  | .exc c p ρ => ∀ G' H' σ' cls d, SI K G0 H0 G' H' ρ σ' → Same G G' → XI c p cls d G' H' → W cls d σ' H'
  | .bad => False
section
variable {K : PySem.W.Frag} {XI : Ends1} {W : WX} {D : Ends} {G0 H0 G H G1 : Hp} {o : Out} {ρ : List Slot} {σ : L2.St}
theorem GS.move (g : GS K XI W D G0 H0 G o) (s : Same G G1) : GS K XI W D G0 H0 G1 o := by
  cases o with
  | nx ρ => exact fun G' H' σ' I e => g G' H' σ' I (s.trans e)
  | bk ρ => exact fun G' H' σ' I e => g G' H' σ' I (s.trans e)
  | ct ρ => exact fun G' H' σ' I e => g G' H' σ' I (s.trans e)
  | ret r => cases r <;> exact g
  | exc c p ρ => exact fun G' H' σ' cls d I e x => g G' H' σ' cls d I (s.trans e) x
  | bad => exact g
theorem GS.lift {α : Type} {r : Res α} {f : α → Out} (g : GS K XI W D G0 H0 G (lift r ρ f)) (I : SI K G0 H0 G H ρ σ) : GX XI W G H σ (fun a => GS K XI W D G0 H0 G (f a)) r := by
  cases r with
  | ok a => exact g
  | exc c p => exact fun G' H' cls d e x => g G' H' σ cls d (I.grow e) e.gs x
  | bad => exact g
end
/-- the context of a statement -/
structure SC (B : Tb) (n : Nat) (N : List Str) (sc : Scope) (X : Cx) (W : WX) : Prop where
  ec : EC B n N sc X W
  tc : TC N sc X
  own : PassesOwn (model X.prog X.w) X.A X.env X.xe
  stk : X.stack = X.env :: X.outer
  frm : X.env.frame = some X.env.locals
  fn : X.env.scope.kind = .function
section
variable (B : Tb) (n : Nat) (N : List Str)
abbrev evs (B : Tb) (n : Nat) : C → List Slot → Out := evS (φn B n) B.κ B.cx B.wf
def SS (c : C) : Prop := ∀ (sc : Scope) (st : Stmt), (cks B N c).s sc st = true → ∀ (X : Cx) (W : WX), SC B n N sc X W → ∀ (G0 H0 G H : Hp) (ρ : List Slot) (σ : L2.St) (D : Ends), SI X.K G0 H0 G H ρ σ →
  GS X.K (XB B X) W D G0 H0 G (evs B n c ρ) → tcS X st D σ H
def SBk (c : C) : Prop := ∀ (sc : Scope) (sts : List Stmt), (cks B N c).b sc sts = true → ∀ (X : Cx) (W : WX), SC B n N sc X W → ∀ (G0 H0 G H : Hp) (ρ : List Slot) (σ : L2.St) (D : Ends), SI X.K G0 H0 G H ρ σ →
  GS X.K (XB B X) W D G0 H0 G (evs B n c ρ) → tcB X sts D σ H
end
end Z
end
section
namespace Z
open PySem PySem.Spec PyProof.Rows L2
section
variable {B : Tb} {n : Nat} {N : List Str}
theorem sw_nc {v : Expr} (h : notComp v = true) (t : Option Expr) (l : Nat) (env : Env) : swapsWith v t l env = pure false := by
  cases v <;> first | rfl | cases h
theorem sw_lc {elt : Expr} {gs : List Comprehension} {scope : Scope} {p px : Pos} {x : Str} {l : Nat} {sc : Scope} {X : Cx} (hs : X.env.scope = sc) (hk : X.env.scope.kind = .function) :
    swapsWith (.ListComp elt gs scope p) (some (.Name x px)) l X.env = pure (swB sc x px (.ListComp elt gs scope p)) := by
  have e : swapsWith (.ListComp elt gs scope p) (some (.Name x px)) l X.env = pure (X.env.blockKind == .function && X.env.kindOf x == some .local && px.line == p.line && !(scope.names.any fun (n, k) => n == x && (k == .local || k == .cell))) := rfl
  rw [e]
  have hb : (X.env.blockKind == ScopeKind.function) = true := by
    unfold Env.blockKind
    rw [hk]; rfl
  have hl : (X.env.kindOf x == some NameKind.local) = (match sc.names.lookup x with | some .local => true | _ => false) := by
    show (X.env.scope.names.lookup x == some NameKind.local) = _
    rw [hs]
    cases sc.names.lookup x with
    | none => rfl
    | some k => cases k <;> rfl
  rw [hb, hl]
  rfl
/-- name = value -/
theorem set_plain {sc : Scope} {X : Cx} {W : WX} (S : SC B n N sc X W) {i : Nat} {x : Str} {px pos : Pos} {v : Expr} (h1 : ixB N i x = true) (h2 : locB sc x = true) (hs : swapsWith v (some (.Name x px)) pos.line X.env = pure false) {σ : L2.St} {H : Hp} {D : Ends}
    (h : tcE X v σ H fun y H1 => D.nx (σ.set i (some y)) H1) : tcS X (.Assign [.Name x px] v pos) D σ H := by
  have hl := S.tc.loc x (locB_ok h2)
  exact ps_can' (ps_set (i := i) (by rw [S.tc.nm]; exact S.tc.nd) (by rw [S.tc.nm]; exact ixB_ok h1) hl.1 pe_can hs hl.2) h
theorem set_comp {vs : List Nat} {tg : C} {it cn el : C} (Si : Sd B n N it) (Sc : Sd B n N cn) (Se : Sd B n N el) {sc : Scope} {X : Cx} {W : WX} (S : SC B n N sc X W) {i : Nat} {x : Str} {px pos : Pos} {v : Expr} (h1 : ixB N i x = true) (h2 : locB sc x = true)
    (hc : (ck B N (.comp vs tg it cn el)).e false sc v = true) {G0 H0 G H : Hp} {ρ : List Slot} {σ : L2.St} {D : Ends} {okP : PV → Prop} (I : SI X.K G0 H0 G H ρ σ) (g : GX (XB B X) W G H σ okP (ev (φn B n) B.κ (.comp vs tg it cn el) ρ))
    (hok : ∀ ys, okP (.lst ys) → ∀ G1 H1, Ext G H G1 H1 → ∀ Da, H1 Da = none → ∀ G2 Hh accV, Ext G1 H1 G2 Hh → G2 Da = none → Hh Da = some (.lst accV) → Reps X.K G2 accV ys → D.nx (σ.set i (some (.ref Da))) Hh) : tcS X (.Assign [.Name x px] v pos) D σ H := by
  have E := S.ec
  have hc0 := hc
  obtain ⟨elt, t, ie, ifs, scope, p, rfl, k1, k2, k3, k4, k5, k6, hset, k7⟩ := eComp_ok hc
  have hsw := sw_lc (elt := elt) (gs := [⟨t, ie, ifs, 0⟩]) (scope := scope) (p := p) (px := px) (x := x) (l := pos.line) E.scope S.fn
  cases hb : swB sc x px (.ListComp elt [⟨t, ie, ifs, 0⟩] scope p) with
  | false =>
    rw [hb] at hsw
    exact set_plain S h1 h2 hsw (comp_pe Si Sc Se hc0 E I g hok)
  | true =>
    rw [hb] at hsw
    obtain ⟨tt, ht, hl⟩ := comp_list (Q := fun y H1 => D.nx (σ.set i (some y)) H1) E Si Sc Se k1 k2 k3 k4 k6 k7 I g hok
    have hyl : X.env.scope.names.lookup x = some .local := by
      rw [E.scope]
      have hb : ((match sc.names.lookup x with | some .local => true | _ => false) && (px.line == p.line) && !(scope.names.any fun (n, k) => n == x && (k == .local || k == .cell))) = true := hb
      simp only [Bool.and_eq_true] at hb
      have hb1 := hb.1.1
      split at hb1
      · assumption
      · cases hb1
    exact ps_can' (ps_setLc (i := i) E.calm (by rw [E.nm]; exact E.nd) (by rw [E.nm]; exact ixB_ok h1) hyl hsw pi_can (own := ownOf N scope) (by rw [E.nm, E.scope]; exact blkOk_by k5)
      (fun s H Ca cl fp => ⟨fun pins s' σ H Q v u I r h => h s _ Ca cl fp pins s' _ I r⟩) ht (fun s H Ca cl fp => ⟨fun pins s' σ H Q J h => h s _ Ca cl fp pins s' J⟩) (fun x => notSet_folded hset X.env x)) hl
theorem isLc_of {c : C} (h : isLc c = true) : ∃ vs tg it cn el, c = .comp vs tg it cn el := by
  cases c <;> first | exact ⟨_, _, _, _, _, rfl⟩ | cases h
theorem sSet_ok {i : Nat} {ce : Ck} {lc : Bool} {sc : Scope} {st : Stmt} (h : sSet N i ce lc sc st = true) : ∃ x px v pos, st = .Assign [.Name x px] v pos ∧ ixB N i x = true ∧ locB sc x = true ∧ ce.e false sc v = true ∧ (notComp v = true ∨ lc = true) := by
  unfold sSet at h
  split at h
  · simp only [Bool.and_eq_true, Bool.or_eq_true] at h
    exact ⟨_, _, _, _, rfl, h.1.1.1, h.1.1.2, h.1.2, h.2⟩
  · cases h
theorem ss_sset (i : Nat) {e : C} (Se : Sd B n N e) (Sc : ∀ vs tg it cn el, e = .comp vs tg it cn el → Sd B n N it ∧ Sd B n N cn ∧ Sd B n N el) : SS B n N (.sset i e) := by
  intro sc st hc X W S G0 H0 G H ρ σ D I g
  obtain ⟨x, px, v, pos, rfl, h1, h2, h3, h4⟩ := sSet_ok hc
  have g0 : GS X.K (XB B X) W D G0 H0 G (lift (ev (φn B n) B.κ e ρ) ρ fun p => .nx (ρ.set i (.shr p))) := g
  have g1 : GX (XB B X) W G H σ (okE false X.K G H fun y H1 => D.nx (σ.set i (some y)) H1) (ev (φn B n) B.κ e ρ) := (g0.lift I).imp fun p _ k G' H' v ex r => k G' H' _ ((I.grow ex).setShr r) ex.gs
  rcases h4 with h4 | h4
  · exact set_plain S h1 h2 (sw_nc h4 _ _ _) (Se.e false sc v h3 X W S.ec G0 H0 G H ρ σ _ I g1)
  · obtain ⟨vs, tg, it, cn, el, rfl⟩ := isLc_of h4
    obtain ⟨s1, s2, s3⟩ := Sc vs tg it cn el rfl
    exact set_comp s1 s2 s3 S h1 h2 h3 I g1 okE_comp
/-- a new list of one's own is nobody's -/
theorem SI.newOwn {K : PySem.W.Frag} {G0 H0 G H G' H' : Hp} {ρ : List Slot} {σ : L2.St} {i : Nat} {a : Addr} {vs : List V} {xs : List PV} (I : SI K G0 H0 G H ρ σ) (ex : Ext G H G' H') (ha : H a = none) (g : G' a = none) (h : H' a = some (.lst vs)) (r : Reps K G' vs xs) :
    SI K G0 H0 G' H' (ρ.set i (.own xs)) (σ.set i (some (.ref a))) := by
  refine (I.grow ex).setOwn g (I.ext.hs.free ha) h r fun j ys hj hr hs => ?_
  obtain ⟨b, ws, e1, _, _, e2, _⟩ := I.own hr
  rw [hs] at e1
  cases e1
  rw [ha] at e2; cases e2
theorem ss_sown (i : Nat) {e : C} (hck : cks B N (.sown i e) = mkS (sSet N i (ck B N e) (isLc e))) (Sf : isLc e = false → SF B n N e) (hcall : ∀ f es, e ≠ .call f es) (Sc : ∀ vs tg it cn el, e = .comp vs tg it cn el → Sd B n N it ∧ Sd B n N cn ∧ Sd B n N el) : SS B n N (.sown i e) := by
  intro sc st hc X W S G0 H0 G H ρ σ D I g
  rw [hck] at hc
  obtain ⟨x, px, v, pos, rfl, h1, h2, h3, h4⟩ := sSet_ok hc
  have g0 : GS X.K (XB B X) W D G0 H0 G (lift ((ev (φn B n) B.κ e ρ).bind lstOf) ρ fun xs => .nx (ρ.set i (.own xs))) := by
    have e1 : evs B n (.sown i e) ρ = (lift ((ev (φn B n) B.κ e ρ).bind lstOf) ρ fun xs => .nx (ρ.set i (.own xs))) := by
      cases e <;> first | rfl | exact absurd rfl (hcall _ _)
    rw [← e1]; exact g
  have g1 : GX (XB B X) W G H σ (okF X.K G H fun y H1 => D.nx (σ.set i (some y)) H1) (ev (φn B n) B.κ e ρ) := (g0.lift I).bind.imp fun p _ k => by
    cases p with
    | lst xs => exact ⟨xs, rfl, fun G' H' a vs ex ha ga hh r => k G' H' _ (I.newOwn ex ha ga hh r) ex.gs⟩
    | _ => exact k.elim
  cases hl : isLc e with
  | false =>
    rcases h4 with h4 | h4
    · exact set_plain S h1 h2 (sw_nc h4 _ _ _) (Sf hl sc v h3 X W S.ec G0 H0 G H ρ σ _ I g1)
    · rw [hl] at h4; cases h4
  | true =>
    obtain ⟨vs, tg, it, cn, el, rfl⟩ := isLc_of hl
    obtain ⟨s1, s2, s3⟩ := Sc vs tg it cn el rfl
    exact set_comp s1 s2 s3 S h1 h2 h3 I g1 okF_comp
/-- a call whose result is the caller's own -/
theorem call_own (f : Nat) {es : C} (Ss : Sd B n N es) {sc : Scope} {e : Expr} (hc : (ck B N (.call f es)).e false sc e = true) {X : Cx} {W : WX} (E : EC B n N sc X W) {G0 H0 G H : Hp} {ρ : List Slot} {σ : L2.St} (I : SI X.K G0 H0 G H ρ σ) {Q : VK} {okr : RV → Prop}
    (g : GX (XB B X) W G H σ okr (((ev (φn B n) B.κ es ρ).bind lstOf).bind fun xs => φn B n f xs))
    (hok : ∀ r, okr r → ∃ ys, r = .own ys ∧ ∀ G' H' a vs, Ext G H G' H' → H a = none → G' a = none → H' a = some (.lst vs) → Reps X.K G' vs ys → Q (.ref a) H') : tcE X e σ H Q := by
  obtain ⟨x, p, xs, pos, rfl, hk⟩ : ∃ x p xs pos, e = .Call (.Name x p) xs [] pos ∧ (nmB (B.fnm f) x && glB sc x && (ck B N es).a false sc xs && (B.TT f).isSome) = true := by
    have hc : eCall B f (ck B N es) false sc e = true := hc
    unfold eCall at hc
    split at hc
    · exact ⟨_, _, _, _, rfl, hc⟩
    · cases hc
  simp only [Bool.and_eq_true] at hk
  obtain ⟨⟨⟨h1, h2⟩, h3⟩, h4⟩ := hk
  obtain ⟨g1, g2, g3⟩ := glB_ok h2
  obtain ⟨d, hT⟩ := Option.isSome_iff_exists.mp h4
  obtain ⟨fa, fd, ps, m1, m2, m3, m4, F⟩ := E.wo.fns f x d (nmB_ok h1) hT
  have key : ∀ qs G' H' vs, Ext G H G' H' → SI X.K G0 H0 G' H' ρ σ → RBs false X.K G' H' vs qs → GX (XB B X) W G H σ okr (φn B n f qs) → spF B X.K (XB B X) n f d.np vs H' Q (WE W σ) := fun qs G' H' vs ex I' rs g' => by
    refine ⟨G', qs, I'.sub, rs.r, ?_, ?_⟩
    · refine callN_len (n := n) hT fun hb => ?_
      have hb : φn B n f qs = .bad := hb
      rw [hb] at g'
      exact g'
    · have g' : GX (XB B X) W G H σ okr (callN B.TT B.κ B.cx B.wf n f qs) := g'
      cases er : callN B.TT B.κ B.cx B.wf n f qs with
      | ok r =>
        rw [er] at g'
        obtain ⟨ys, rfl, k⟩ := hok r g'
        exact fun G2 H2 a vs e2 ha ga hh rr => k G2 H2 a vs (ex.trans e2) (ex.hs.free ha) ga hh rr
      | exc c o => rw [er] at g'; exact fun G2 H2 cls d e2 xx => g' G2 H2 cls d (ex.trans e2) xx
      | bad => rw [er] at g'; exact g'
  have g0 : GX (XB B X) W G H σ (fun l => GX (XB B X) W G H σ okr ((lstOf l).bind fun xs => φn B n f xs)) (ev (φn B n) B.κ es ρ) := g.bind.bind.imp fun l _ k => by
    cases l <;> exact k
  cases xs with
  | nil =>
    intro pins s J
    refine wpAny_Call_Name_kw (ld_glob J (E.gl g1) m1 ?_ g2)
    have hv : spF B X.K (XB B X) n f d.np [] H Q (WE W σ) := by
      cases es with
      | nil => exact key [] G H [] (Ext.refl I.sub) I .nil g0
      | cons a as => cases h3
      | _ => cases h3
    exact PySem.W.callWith_K0 J.kIn m2 (run_fnS (us := []) F E.room m3 (passAt E.takes σ) J .nil hv)
  | cons y ys =>
    have hs : (y :: ys).all notStar = true := allStar h3
    simp only [List.all_cons, Bool.and_eq_true] at hs
    refine pe_can' (pe_callS F E.room (E.gl g1) m1 m2 m3 (fun σ => passAt E.takes σ) pa_can g2 (star_of hs.1) (nostars hs.2)) ?_
    refine Ss.a false sc _ h3 X W E G0 H0 G H ρ σ _ I (g0.imp fun l _ g1 => ?_)
    cases l with
    | lst qs => exact ⟨qs, rfl, fun G1 H1 vs e1 rs => key qs G1 H1 vs e1 (I.grow e1) rs g1⟩
    | _ => exact g1.elim
theorem ss_sown_call (i f : Nat) {es : C} (Ss : Sd B n N es) : SS B n N (.sown i (.call f es)) := by
  intro sc st hc X W S G0 H0 G H ρ σ D I g
  obtain ⟨x, px, v, pos, rfl, h1, h2, h3, h4⟩ := sSet_ok hc
  have hnc : notComp v = true := by
    rcases h4 with h4 | h4
    · exact h4
    · cases h4
  refine set_plain S h1 h2 (sw_nc hnc _ _ _) ?_
  have g0 : GS X.K (XB B X) W D G0 H0 G (lift ((ev (φn B n) B.κ es ρ).bind lstOf) ρ fun xs => lift (φn B n f xs) ρ fun r => match r with
    | .own ys => .nx (ρ.set i (.own ys))
    | .shr _ => .bad) := g
  have g1 : GX (XB B X) W G H σ (fun r => GS X.K (XB B X) W D G0 H0 G (match r with
    | RV.own ys => .nx (ρ.set i (.own ys))
    | RV.shr _ => .bad)) (((ev (φn B n) B.κ es ρ).bind lstOf).bind fun xs => φn B n f xs) := by
    have g2 := g0.lift I
    cases e1 : (ev (φn B n) B.κ es ρ).bind lstOf with
    | ok xs =>
      rw [e1] at g2
      exact GS.lift g2 I
    | exc c o => rw [e1] at g2; exact g2
    | bad => rw [e1] at g2; exact g2
  refine call_own f Ss h3 S.ec I g1 fun r k => ?_
  cases r with
  | own ys => exact ⟨ys, rfl, fun G' H' a vs ex ha ga hh rr => k G' H' _ (I.newOwn ex ha ga hh rr) ex.gs⟩
  | shr p => exact k.elim
end
end Z
end
section
namespace Z
open PySem PySem.Spec PyProof.Rows L2
section
variable {B : Tb} {n : Nat} {N : List Str}
theorem locK {sc : Scope} {x : Str} (h : (match sc.names.lookup x with | some .local => true | _ => false) = true) : sc.names.lookup x = some .local := by
  split at h
  · assumption
  · cases h
theorem star_is (v : Expr) : (match v with | .Starred _ _ => true | _ => false) = !notStar v := by cases v <;> rfl
theorem dup2 {x y : Str} (h : x ≠ y) : [x, y].eraseDups.length = 2 := by
  have e : (y == x) = false := by simpa using Ne.symm h
  simp [List.eraseDups_cons, e]
theorem dup3 {x y z : Str} (h : x ≠ y) (h2 : x ≠ z) (h3 : y ≠ z) : [x, y, z].eraseDups.length = 3 := by
  have e1 : (y == x) = false := by simpa using Ne.symm h
  have e2 : (z == x) = false := by simpa using Ne.symm h2
  have e3 : (z == y) = false := by simpa using Ne.symm h3
  simp [List.eraseDups_cons, e1, e2, e3]
theorem blk_fn {X : Cx} (h : X.env.scope.kind = .function) : X.env.blockKind = .function := by
  unfold Env.blockKind
  rw [h]; rfl
theorem kind_of {X : Cx} {x : Str} (h : X.env.scope.names.lookup x = some .local) : X.env.kindOf x = some .local := h
theorem swap2 {X : Cx} {x y : Str} {px py pt pt2 : Pos} {kt k2 : Nat} {v w : Expr} (hk : X.env.scope.kind = .function) (hx : X.env.scope.names.lookup x = some .local) (hy : X.env.scope.names.lookup y = some .local) (hl : (px.line == py.line) = true) (hne : x ≠ y) (s1 : notStar v = true) (s2 : notStar w = true)
    (f : (foldedForSure 8 v && foldedForSure 8 w) = false) (c : (constantsAlone 8 v && constantsAlone 8 w) = false) : swappedStores [.Tuple [.Name x px, .Name y py] kt pt] (.Tuple [v, w] k2 pt2) X.env = pure (some [x, y]) := by
  have hl' : px.line = py.line := by simpa using hl
  unfold swappedStores
  have e1 : ([v, w].any fun | .Starred .. => true | _ => false) = false := by
    simp only [List.any_cons, List.any_nil, Bool.or_false]
    rw [star_is, star_is, s1, s2]; rfl
  have e2 : ([Expr.Name x px, Expr.Name y py].filterMap fun
    | .Name id pos => if X.env.kindOf id == some .local && pos.line == px.line then some id else none
    | _ => none) = [x, y] := by
    simp [List.filterMap_cons, kind_of hx, kind_of hy, hl']
  have e3 : ([v, w].all (foldedForSure 8)) = false := by simpa using f
  have e4 : ([v, w].all (constantsAlone 8)) = false := by simpa using c
  have hb := blk_fn hk
  show (if (!([Expr.Name x px, Expr.Name y py].length == 2 || [Expr.Name x px, Expr.Name y py].length == 3) || [v, w].length != [Expr.Name x px, Expr.Name y py].length || X.env.blockKind != .function) = true then pure none else
    (if ([v, w].any fun | .Starred .. => true | _ => false) = true then pure none else
      (if (([Expr.Name x px, Expr.Name y py].filterMap fun
        | .Name id pos => if X.env.kindOf id == some .local && pos.line == px.line then some id else none
        | _ => none).length != [Expr.Name x px, Expr.Name y py].length || ([Expr.Name x px, Expr.Name y py].filterMap fun
        | .Name id pos => if X.env.kindOf id == some .local && pos.line == px.line then some id else none
        | _ => none).eraseDups.length != ([Expr.Name x px, Expr.Name y py].filterMap fun
        | .Name id pos => if X.env.kindOf id == some .local && pos.line == px.line then some id else none
        | _ => none).length) = true then pure none else
        (if ([v, w].all (foldedForSure 8)) = true then pure none else
          (if ([v, w].all (constantsAlone 8)) = true then _ else _))))) = _
  rw [e1, e2, e3, e4, hb, dup2 hne]
  rw [if_neg (by simp), if_neg (by simp), if_neg (by simp), if_neg (by simp), if_neg (by simp)]
  show pure (some ([Expr.Name x px, Expr.Name y py].filterMap fun
    | .Name id pos => if X.env.kindOf id == some .local && pos.line == px.line then some id else none
    | _ => none)) = _
  rw [e2]
theorem swap3 {X : Cx} {x y z : Str} {px py pz pt pt2 : Pos} {kt k2 : Nat} {v w u : Expr} (hk : X.env.scope.kind = .function) (hx : X.env.scope.names.lookup x = some .local) (hy : X.env.scope.names.lookup y = some .local) (hz : X.env.scope.names.lookup z = some .local) (hl : (px.line == py.line) = true) (hl2 : (px.line == pz.line) = true)
    (hne : x ≠ y) (hne2 : x ≠ z) (hne3 : y ≠ z) (s1 : notStar v = true) (s2 : notStar w = true) (s3 : notStar u = true)
    (f : (foldedForSure 8 v && foldedForSure 8 w && foldedForSure 8 u) = false) (c : (constantsAlone 8 v && constantsAlone 8 w && constantsAlone 8 u) = false) : swappedStores [.Tuple [.Name x px, .Name y py, .Name z pz] kt pt] (.Tuple [v, w, u] k2 pt2) X.env = pure (some [x, y, z]) := by
  have hl' : px.line = py.line := by simpa using hl
  have hl2' : px.line = pz.line := by simpa using hl2
  unfold swappedStores
  have e1 : ([v, w, u].any fun | .Starred .. => true | _ => false) = false := by
    simp only [List.any_cons, List.any_nil, Bool.or_false]
    rw [star_is, star_is, star_is, s1, s2, s3]; rfl
  have e2 : ([Expr.Name x px, Expr.Name y py, Expr.Name z pz].filterMap fun
    | .Name id pos => if X.env.kindOf id == some .local && pos.line == px.line then some id else none
    | _ => none) = [x, y, z] := by
    simp [List.filterMap_cons, kind_of hx, kind_of hy, kind_of hz, ← hl', ← hl2']
  have e3 : ([v, w, u].all (foldedForSure 8)) = false := by simpa [Bool.and_assoc] using f
  have e4 : ([v, w, u].all (constantsAlone 8)) = false := by simpa [Bool.and_assoc] using c
  have hb := blk_fn hk
  show (if (!([Expr.Name x px, Expr.Name y py, Expr.Name z pz].length == 2 || [Expr.Name x px, Expr.Name y py, Expr.Name z pz].length == 3) || [v, w, u].length != [Expr.Name x px, Expr.Name y py, Expr.Name z pz].length || X.env.blockKind != .function) = true then pure none else
    (if ([v, w, u].any fun | .Starred .. => true | _ => false) = true then pure none else
      (if (([Expr.Name x px, Expr.Name y py, Expr.Name z pz].filterMap fun
        | .Name id pos => if X.env.kindOf id == some .local && pos.line == px.line then some id else none
        | _ => none).length != [Expr.Name x px, Expr.Name y py, Expr.Name z pz].length || ([Expr.Name x px, Expr.Name y py, Expr.Name z pz].filterMap fun
        | .Name id pos => if X.env.kindOf id == some .local && pos.line == px.line then some id else none
        | _ => none).eraseDups.length != ([Expr.Name x px, Expr.Name y py, Expr.Name z pz].filterMap fun
        | .Name id pos => if X.env.kindOf id == some .local && pos.line == px.line then some id else none
        | _ => none).length) = true then pure none else
        (if ([v, w, u].all (foldedForSure 8)) = true then pure none else
          (if ([v, w, u].all (constantsAlone 8)) = true then _ else _))))) = _
  rw [e1, e2, e3, e4, hb, dup3 hne hne2 hne3]
  rw [if_neg (by simp), if_neg (by simp), if_neg (by simp), if_neg (by simp), if_neg (by simp)]
  show pure (some ([Expr.Name x px, Expr.Name y py, Expr.Name z pz].filterMap fun
    | .Name id pos => if X.env.kindOf id == some .local && pos.line == px.line then some id else none
    | _ => none)) = _
  rw [e2]
theorem swapN {ts vs : List Expr} {k k2 : Nat} {p p2 : Pos} {env : Env} (h1 : vs.all notStar = true) (h : vs.all (foldedForSure 8) = true) : swappedStores [.Tuple ts k p] (.Tuple vs k2 p2) env = pure none := by
  unfold swappedStores
  show (if _ then pure none else (if _ then pure none else (if _ then pure none else (if vs.all (foldedForSure 8) = true then pure none else _)))) = _
  rw [if_pos h]
  split
  · rfl
  · split
    · rfl
    · split <;> rfl
def locNm (env : Env) (ts : List Expr) : List Str := ts.filterMap fun
    | .Name id pos => if env.kindOf id == some .local && pos.line == (ts.head?.map (·.pos.line)).getD 0 then some id else none
    | _ => none
theorem swapC {ts vs : List Expr} {k k2 : Nat} {p p2 : Pos} {env : Env} (h : someCell env.scope ts = true) : swappedStores [.Tuple ts k p] (.Tuple vs k2 p2) env = pure none := by
  have e : ((locNm env ts).length != ts.length || (locNm env ts).eraseDups.length != (locNm env ts).length) = true := Bool.or_eq_true_iff.mpr (.inl h)
  unfold swappedStores
  show (if _ then pure none else (if _ then pure none else (if ((locNm env ts).length != ts.length || (locNm env ts).eraseDups.length != (locNm env ts).length) = true then pure none else _))) = _
  rw [if_pos e]
  split
  · rfl
  · split <;> rfl
theorem swapO {ts : List Expr} {k : Nat} {p : Pos} {v : Expr} {env : Env} (h : notTupE v = true) : swappedStores [.Tuple ts k p] v env = pure none := by
  cases v <;> first | rfl | cases h
theorem ne_of_ix {i j : Nat} {x y : Str} (nd : N.Nodup) (hi : N[i]? = some x) (hj : N[j]? = some y) (h : i ≠ j) : x ≠ y := fun e => by
  subst e
  exact h (nodup_ix nd hi hj)
theorem asgP_exc {c : Nat} {o : Option PV} : ∀ (tg : C) (q : PV) (ρ : List Slot), asgP tg q ρ ≠ .exc c o := by
  intro tg
  induction tg with
  | tn i => intro q ρ h; cases h
  | tt ts ih =>
    intro q ρ h
    cases q with
    | tup xs => exact ih (.tup xs) ρ h
    | lst xs => exact ih (.tup xs) ρ h
    | _ => cases h
  | nil =>
    intro q ρ h
    cases q with
    | tup xs => cases xs <;> cases h
    | _ => cases h
  | cons a b iha ihb =>
    intro q ρ h
    cases q with
    | tup xs =>
      cases xs with
      | nil => cases h
      | cons x xs =>
        have h : ((asgP a x ρ).bind fun ρ' => asgP b (.tup xs) ρ') = .exc c o := h
        cases e : asgP a x ρ with
        | ok ρ1 => rw [e] at h; exact ihb (.tup xs) ρ1 h
        | exc c' o' => exact iha x ρ (e.trans (by rw [e] at h; exact h))
        | bad => rw [e] at h; cases h
    | _ => cases h
  | _ => intro q ρ h; cases h
theorem sw_tup (v : Expr) {ts : List Expr} {k : Nat} {p : Pos} {l : Nat} {env : Env} : swapsWith v (some (.Tuple ts k p)) l env = pure false := by
  cases v <;> rfl
theorem asg_ok {tg e : C} (Se : Sd B n N e) {sc : Scope} {st : Stmt} (hc : sAsg N tg (ck B N e) sc st = true) {X : Cx} {W : WX} (S : SC B n N sc X W) {G0 H0 G H : Hp} {ρ : List Slot} {σ : L2.St} {D : Ends} (I : SI X.K G0 H0 G H ρ σ)
    (g : GS X.K (XB B X) W D G0 H0 G (lift (ev (φn B n) B.κ e ρ) ρ fun p => lift (asgP tg p ρ) ρ fun ρ' => .nx ρ')) : tcS X st D σ H := by
  unfold sAsg at hc
  split at hc
  · rename_i ts k p v pos
    simp only [Bool.and_eq_true] at hc
    obtain ⟨⟨⟨h1, h2⟩, h3⟩, h4⟩ := hc
    have hw : swappedStores [.Tuple ts k p] v X.env = pure none := by
      rw [Bool.or_eq_true, Bool.or_eq_true] at h4
      rcases h4 with (h4 | h4) | h4
      · exact swapO h4
      · by_cases hv : notTupE v = true
        · exact swapO hv
        · cases v with
          | Tuple vs k2 p2 => exact swapC (by rw [S.ec.scope]; exact h4)
          | _ => exact absurd rfl hv
      · split at h4
        · simp only [Bool.and_eq_true] at h4
          exact swapN h4.1.1 h4.1.2
        · cases h4
    refine ps_can' (ps_asg pe_can pg_can (show swapsWith v (some (.Tuple ts k p)) pos.line X.env = pure false from sw_tup v) hw rfl) ?_
    refine Se.e false sc v h2 X W S.ec G0 H0 G H ρ σ _ I ((g.lift I).imp fun q _ k G1 H1 u e1 r1 => ?_)
    have I1 := I.grow e1
    cases ea : asgP tg q ρ with
    | ok ρ' =>
      rw [ea] at k
      exact (tgt_both (G0 := G0) (H0 := H0) (G := G1) (H := H1) S.tc tg).1 _ h1 q u ρ ρ' σ _ ea I1 r1 fun σ' I' _ _ => k G1 H1 σ' I' e1.gs
    | exc c o => exact absurd ea (asgP_exc tg q ρ)
    | bad => rw [ea] at k; exact k.elim
  · cases hc
theorem ss_sasg_plain {tg e : C} (Se : Sd B n N e) (hck : cks B N (.sasg tg e) = mkS (sAsg N tg (ck B N e))) : SS B n N (.sasg tg e) := by
  intro sc st hc X W S G0 H0 G H ρ σ D I g
  rw [hck] at hc
  exact asg_ok Se hc S I g
theorem ss_sasg_tup {ts es : C} (Se : Sd B n N (.tup es)) (Ss : Sd B n N es) : SS B n N (.sasg (.tt ts) (.tup es)) := by
  intro sc st hc X W S G0 H0 G H ρ σ D I g
  have hc : (sPar N ts (ck B N es) sc st || sAsg N (.tt ts) (ck B N (.tup es)) sc st) = true := hc
  rw [Bool.or_eq_true] at hc
  rcases hc with hc | hc
  · have E := S.ec
    have g0 : GS X.K (XB B X) W D G0 H0 G (lift ((ev (φn B n) B.κ es ρ).bind fun l => (lstOf l).bind fun xs => .ok (.tup xs)) ρ fun p => lift (asgP (.tt ts) p ρ) ρ fun ρ' => .nx ρ') := g
    have g1 := (g0.lift I).bind
    unfold sPar at hc
    split at hc
    · rename_i i j x px y py kt pt v w k2 pt2 pos _
      simp only [Bool.and_eq_true, Bool.not_eq_true'] at hc
      obtain ⟨⟨⟨⟨⟨⟨⟨⟨h1, h2⟩, h3⟩, h4⟩, h5⟩, h6⟩, h7⟩, h8⟩, h9⟩ := hc
      have nx := ixB_ok h1
      have ny := ixB_ok h2
      have hij : i ≠ j := fun e => by subst e; simp at h3
      have hs := allStar h7
      simp only [List.all_cons, List.all_nil, Bool.and_eq_true] at hs
      have lx : X.env.scope.names.lookup x = some .local := by rw [E.scope]; exact locK h4
      have ly : X.env.scope.names.lookup y = some .local := by rw [E.scope]; exact locK h5
      refine ps_can' (ps_par (i := i) (j := j) E.calm (by rw [E.nm]; exact E.nd) (by rw [E.nm]; exact nx) (by rw [E.nm]; exact ny) hij lx ly pa_can (swap2 S.fn lx ly h6 (ne_of_ix E.nd nx ny hij) hs.1 hs.2.1 h8 h9) rfl) ?_
      refine Ss.a false sc _ h7 X W E G0 H0 G H ρ σ _ I (g1.imp fun l el k => ?_)
      cases l with
      | lst ps =>
        have en := argsLen (c := es) h7 el
        refine ⟨ps, rfl, fun G1 H1 vs e1 rs => ?_⟩
        have I1 := I.grow e1
        cases rs with
        | nil => cases en
        | cons r1 t1 =>
          cases t1 with
          | nil => cases en
          | cons r2 t2 =>
            cases t2 with
            | nil => exact ⟨_, _, rfl, k G1 H1 _ ((I1.setShr r1).setShr r2) e1.gs⟩
            | cons r3 t3 => cases en
      | _ => exact k.elim
    · rename_i i j l x px y py z pz kt pt v w u k2 pt2 pos _
      simp only [Bool.and_eq_true, Bool.not_eq_true'] at hc
      obtain ⟨⟨⟨⟨⟨⟨⟨⟨⟨⟨⟨⟨⟨h1, h2⟩, h2'⟩, h3⟩, h3'⟩, h3''⟩, h4⟩, h5⟩, h5'⟩, h6⟩, h6'⟩, h7⟩, h8⟩, h9⟩ := hc
      have nx := ixB_ok h1
      have ny := ixB_ok h2
      have nz := ixB_ok h2'
      have hij : i ≠ j := fun e => by subst e; simp at h3
      have hil : i ≠ l := fun e => by subst e; simp at h3'
      have hjl : j ≠ l := fun e => by subst e; simp at h3''
      have hs := allStar h7
      simp only [List.all_cons, List.all_nil, Bool.and_eq_true] at hs
      have lx : X.env.scope.names.lookup x = some .local := by rw [E.scope]; exact locK h4
      have ly : X.env.scope.names.lookup y = some .local := by rw [E.scope]; exact locK h5
      have lz : X.env.scope.names.lookup z = some .local := by rw [E.scope]; exact locK h5'
      refine ps_can' (ps_par3 (i := i) (j := j) (l := l) E.calm (by rw [E.nm]; exact E.nd) (by rw [E.nm]; exact nx) (by rw [E.nm]; exact ny) (by rw [E.nm]; exact nz) hij hil hjl lx ly lz pa_can
        (swap3 S.fn lx ly lz h6 h6' (ne_of_ix E.nd nx ny hij) (ne_of_ix E.nd nx nz hil) (ne_of_ix E.nd ny nz hjl) hs.1 hs.2.1 hs.2.2.1 h8 h9) rfl) ?_
      refine Ss.a false sc _ h7 X W E G0 H0 G H ρ σ _ I (g1.imp fun l' el k => ?_)
      cases l' with
      | lst ps =>
        have en := argsLen (c := es) h7 el
        refine ⟨ps, rfl, fun G1 H1 vs e1 rs => ?_⟩
        have I1 := I.grow e1
        cases rs with
        | nil => cases en
        | cons r1 t1 =>
          cases t1 with
          | nil => cases en
          | cons r2 t2 =>
            cases t2 with
            | nil => cases en
            | cons r3 t3 =>
              cases t3 with
              | nil => exact ⟨_, _, _, rfl, k G1 H1 _ (((I1.setShr r1).setShr r2).setShr r3) e1.gs⟩
              | cons r4 t4 => cases en
      | _ => exact k.elim
    · cases hc
  · exact asg_ok Se hc S I g
/-! ### lists of one's own are changed -/
theorem app_expr {sc : Scope} {X : Cx} {W : WX} (E : EC B n N sc X W) {i : Nat} {m : Str} {id : String} {x : Str} {p0 ap p pos : Pos} {v : Expr} (h1 : ckVar N sc i x = true) (hs : notStar v = true) (hl : (ap.endLine == p.line) = true) {r : V → List V → Hp → VK → Prop} (slot : PySem.Slot "list" m id) (hty : typeOf (.builtin id) = pure (.type "method_descriptor")) (hm : MtR X id r)
    {G0 H0 G H : Hp} {ρ : List Slot} {σ : L2.St} {xs : List PV} (I : SI X.K G0 H0 G H ρ σ) (hi : ρ[i]? = some (.own xs)) {D : Ends} (k : ∀ a vs, σ[i]? = some (some (.ref a)) → H a = some (.lst vs) → tcE X v σ H fun y H1 => r (.ref a) [y] H1 fun _ H2 => D.nx σ H2) :
    tcS X (.Expr (.Call (.Attribute (.Name x p0) m ap) [v] [] p) pos) D σ H := by
  obtain ⟨a, vs, ha, ga, h0, hh, rr⟩ := I.own hi
  refine ps_can' (ps_expr (pe_bm PySem.F.plainAttrs_list slot hty hm pe_can (pa_cons pe_can pa_nil (star_of hs)) rfl (by rw [star_of hs]; rfl) hl (star_of hs) rfl) rfl) ?_
  refine name_ok E h1 ha ?_
  exact ⟨.inl ⟨rfl, vs, .inl (.inl hh)⟩, k a vs ha hh⟩
theorem sApp_ok {i : Nat} {m : Str} {ce : Ck} {sc : Scope} {st : Stmt} (h : sApp N i m ce sc st = true) : ∃ x p0 ap v p pos, st = .Expr (.Call (.Attribute (.Name x p0) m ap) [v] [] p) pos ∧ ckVar N sc i x = true ∧ ce.e false sc v = true ∧ notStar v = true ∧ (ap.endLine == p.line) = true := by
  unfold sApp at h
  split at h
  · simp only [Bool.and_eq_true] at h
    obtain ⟨⟨⟨⟨h1, h2⟩, h3⟩, h4⟩, h5⟩ := h
    have e := sEq_ok h2
    subst e
    exact ⟨_, _, _, _, _, _, rfl, h1, h3, h4, h5⟩
  · cases h
theorem ownAt_ok {ρ : List Slot} {i : Nat} {K : PySem.W.Frag} {XI : Ends1} {W : WX} {D : Ends} {G0 H0 G : Hp} {f : List PV → Out} (g : GS K XI W D G0 H0 G (lift (ownAt ρ i) ρ f)) : ∃ xs, ρ[i]? = some (.own xs) ∧ GS K XI W D G0 H0 G (f xs) := by
  unfold ownAt at g
  split at g
  · rename_i xs e
    exact ⟨xs, e, g⟩
  · exact g.elim
theorem ss_sapp (i : Nat) {e : C} (Se : Sd B n N e) : SS B n N (.sapp i e) := by
  intro sc st hc X W S G0 H0 G H ρ σ D I g
  obtain ⟨x, p0, ap, v, p, pos, rfl, h1, h2, h3, h4⟩ := sApp_ok hc
  have g0 : GS X.K (XB B X) W D G0 H0 G (lift (ownAt ρ i) ρ fun xs => lift (ev (φn B n) B.κ e ρ) ρ fun p => if fits (xs.length + 1) then .nx (ρ.set i (.own (xs ++ [p]))) else .bad) := g
  obtain ⟨xs, hi, g1⟩ := ownAt_ok g0
  refine app_expr S.ec h1 h3 h4 PySem.F.slot_list_append PySem.F.type_list_append mt_append I hi fun a vs ha hh => ?_
  refine Se.e false sc v h2 X W S.ec G0 H0 G H ρ σ _ I ((g1.lift I).imp fun q _ k G1 H1 u e1 r1 => ?_)
  have I1 := I.grow e1
  split at k
  · rename_i hf
    obtain ⟨a', ws, ha', _, _, hh', rr'⟩ := I1.own hi
    rw [ha] at ha'; cases ha'
    refine ⟨a, ws, u, rfl, rfl, hh', ?_, ?_⟩
    · rw [rr'.length]; exact fits_le hf
    · exact k G1 _ σ (I1.write hi ha (rr'.append (.cons r1 .nil))) e1.gs
  · exact k.elim
theorem ss_sext (i : Nat) {e : C} (Se : Sd B n N e) : SS B n N (.sext i e) := by
  intro sc st hc X W S G0 H0 G H ρ σ D I g
  obtain ⟨x, p0, ap, v, p, pos, rfl, h1, h2, h3, h4⟩ := sApp_ok hc
  have g0 : GS X.K (XB B X) W D G0 H0 G (lift (ownAt ρ i) ρ fun xs => lift ((ev (φn B n) B.κ e ρ).bind lstOf) ρ fun ys => if fits (xs.length + ys.length) then .nx (ρ.set i (.own (xs ++ ys))) else .bad) := g
  obtain ⟨xs, hi, g1⟩ := ownAt_ok g0
  refine app_expr S.ec h1 h3 h4 PySem.F.slot_list_extend PySem.F.type_list_extend mt_extend I hi fun a vs ha hh => ?_
  refine Se.e false sc v h2 X W S.ec G0 H0 G H ρ σ _ I ((g1.lift I).bind.imp fun q _ k G1 H1 u e1 r1 => ?_)
  have I1 := I.grow e1
  cases q with
  | lst ys =>
    have k : GS X.K (XB B X) W D G0 H0 G (if fits (xs.length + ys.length) then .nx (ρ.set i (.own (xs ++ ys))) else .bad) := k
    split at k
    · rename_i hf
      obtain ⟨a', ws, ha', _, _, hh', rr'⟩ := I1.own hi
      rw [ha] at ha'; cases ha'
      cases r1 with
      | lst hb rb =>
        refine ⟨a, _, ws, _, rfl, rfl, hh', I1.sub _ _ hb, ?_, ?_⟩
        · rw [rr'.length, rb.length]; exact fits_le hf
        · exact k G1 _ σ (I1.write hi ha (rr'.append rb)) e1.gs
    · exact k.elim
  | _ => exact k.elim
end
end Z
end
section
namespace Z
open PySem PySem.Spec PyProof.Rows L2
section
variable {B : Tb} {n : Nat} {N : List Str}
theorem ss_sput (i : Nat) {ix e : C} (Sx : Sd B n N ix) (Se : Sd B n N e) : SS B n N (.sput i ix e) := by
  intro sc st hc X W S G0 H0 G H ρ σ D I g
  obtain ⟨x, p0, j, p1, v, pos, rfl, h1, h2, h3, h4, h5⟩ : ∃ x p0 j p1 v pos, st = .Assign [.Subscript (.Name x p0) j p1] v pos ∧ ckVar N sc i x = true ∧ (ck B N ix).e false sc j = true ∧ notSlice j = true ∧ (ck B N e).e false sc v = true ∧ notComp v = true := by
    have hc : sPut N i (ck B N ix) (ck B N e) sc st = true := hc
    unfold sPut at hc
    split at hc
    · simp only [Bool.and_eq_true] at hc
      exact ⟨_, _, _, _, _, _, rfl, hc.1.1.1.1, hc.1.1.1.2, hc.1.1.2, hc.1.2, hc.2⟩
    · cases hc
  have ha : ∀ u, assign (.Subscript (.Name x p0) j p1) X.env u = (do let ov ← holding [u] (eval (.Name x p0) X.env); let iv ← holding [u, ov] (eval j X.env); standAt p1; holding [u, ov, iv] (setItem ov iv u); release [u, ov, iv] []) := fun u => by
    cases j <;> first | rfl | cases h3
  have hw : swappedStores [.Subscript (.Name x p0) j p1] v X.env = pure none := rfl
  refine ps_can' (ps_asg pe_can (pg_sub pe_can pe_can set_list ha) (show swapsWith v (some (.Subscript (.Name x p0) j p1)) pos.line X.env = pure false from sw_nc h5 _ _ _) hw rfl) ?_
  have g0 : GS X.K (XB B X) W D G0 H0 G (lift (ev (φn B n) B.κ e ρ) ρ fun p => lift (ownAt ρ i) ρ fun xs => lift (ev (φn B n) B.κ ix ρ) ρ fun j => match j with
    | .int n => (match ixN xs.length n with | some m => .nx (ρ.set i (.own (xs.set m p))) | none => .bad)
    | _ => .bad) := g
  refine Se.e false sc v h4 X W S.ec G0 H0 G H ρ σ _ I ((g0.lift I).imp fun q _ k G1 H1 u e1 r1 => ?_)
  have I1 := I.grow e1
  obtain ⟨xs, hi, k⟩ := ownAt_ok k
  obtain ⟨a, vs, ha', ga, h0, hh, rr⟩ := I1.own hi
  refine name_ok S.ec h1 ha' ?_
  have k1 := GS.move k e1.gs
  refine Sx.e false sc j h2 X W S.ec G0 H0 G1 H1 ρ σ _ I1 ((k1.lift I1).imp fun q2 _ k2 G2 H2 w e2 r2 => ?_)
  have I2 := I1.grow e2
  cases q2 with
  | int m =>
    cases r2
    have k2 : GS X.K (XB B X) W D G0 H0 G1 (match ixN xs.length m with | some m => .nx (ρ.set i (.own (xs.set m q))) | none => .bad) := k2
    split at k2
    · rename_i m' hm
      obtain ⟨a2, ws, ha2, _, _, hh2, rr2⟩ := I2.own hi
      rw [ha'] at ha2; cases ha2
      refine ⟨a, ws, m, m', rfl, rfl, hh2, by rw [rr2.length]; exact hm, ?_⟩
      exact k2 G2 _ σ (I2.write hi ha' (Reps.set (r1.mono e2) m' rr2)) e2.gs
    · exact k2.elim
  | _ => exact k2.elim
def ipCan (X : Cx) (op : Operator) : TIp := fun x y H Q => ∀ (pins : List (Addr × Obj)) (s : Shared) (σ : L2.St) (v u : Value), Inv X pins σ H s → RelV x v → RelV y u → wpAny (model X.prog X.w) X.A (inplaceOp op v u) (EP X pins σ Q) X.xe s
theorem ipCan_ok (X : Cx) (op : Operator) : PIp X op (ipCan X op) := fun pins s σ H x y v u Q I rx ry h => h pins s σ v u I rx ry
theorem ipCan_of {X : Cx} {op : Operator} {r : R2} (h : OpR X (inplaceOp op) r) {x y : V} {H : Hp} {Q : VK} (q : r x y H Q) : ipCan X op x y H Q := fun pins s σ v u I rx ry => h pins s σ H x y v u Q I rx ry q
/-- op= of ints: + and - alone -/
theorem ip_ok {X : Cx} {W : WX} {XI : Ends1} {G H : Hp} {σ : L2.St} {Q : VK} (op : Bop) (hop : op = .add ∨ op = .sub) {a b : Int} (s : Same G H) (h : GE X.K XI W G H σ (binP op (.int a) (.int b)) Q) : ipCan X (bopE op) (.int a) (.int b) H Q := by
  rcases hop with rfl | rfl
  · exact ipCan_of iop_add ⟨a, b, rfl, rfl, h.now s (.int _)⟩
  · exact ipCan_of iop_sub ⟨a, b, rfl, rfl, h.now s (.int _)⟩
theorem ss_saug (i : Nat) (op : Bop) {e : C} (Se : Sd B n N e) : SS B n N (.saug i op e) := by
  intro sc st hc X W S G0 H0 G H ρ σ D I g
  obtain ⟨x, p0, o, v, pos, rfl, h1, h2, h3, h4, hop⟩ : ∃ x p0 o v pos, st = .AugAssign (.Name x p0) o v pos ∧ ixB N i x = true ∧ locB sc x = true ∧ bopB op o = true ∧ (ck B N e).e false sc v = true ∧ (op = .add ∨ op = .sub) := by
    have hc : sAug N i op (ck B N e) sc st = true := hc
    unfold sAug at hc
    split at hc
    · simp only [Bool.and_eq_true] at hc
      refine ⟨_, _, _, _, _, rfl, hc.1.1.1.1, hc.1.1.1.2, hc.1.1.2, hc.1.2, ?_⟩
      have h := hc.2
      cases op <;> first | exact .inl rfl | exact .inr rfl | cases h
    · cases hc
  have h3' := bopB_ok h3
  subst h3'
  have hl := S.tc.loc x (locB_ok h2)
  refine ps_can' (ps_aug (i := i) (by rw [S.tc.nm]; exact S.tc.nd) (by rw [S.tc.nm]; exact ixB_ok h1) hl.1 pe_can (ipCan_ok X _) hl.2) ?_
  have g0 : GS X.K (XB B X) W D G0 H0 G (lift (ev (φn B n) B.κ (.v i) ρ) ρ fun x => lift (ev (φn B n) B.κ e ρ) ρ fun y => lift (augP op x y) ρ fun p => .nx (ρ.set i (.shr p))) := g
  have ev_v : ∃ q, ρ[i]? = some (.shr q) ∧ ev (φn B n) B.κ (.v i) ρ = .ok q := by
    cases hp : ρ[i]? with
    | none =>
      have e : ev (φn B n) B.κ (.v i) ρ = .bad := by simp [ev, hp]
      rw [e] at g0; exact g0.elim
    | some s =>
      cases s with
      | shr q => exact ⟨q, rfl, by simp [ev, hp]⟩
      | un => have e : ev (φn B n) B.κ (.v i) ρ = .bad := by simp [ev, hp]
              rw [e] at g0; exact g0.elim
      | own xs => have e : ev (φn B n) B.κ (.v i) ρ = .bad := by simp [ev, hp]
                  rw [e] at g0; exact g0.elim
  obtain ⟨q, hq, eq⟩ := ev_v
  rw [eq] at g0
  obtain ⟨u, hu, ru⟩ := I.shr hq
  refine ⟨u, hu, ?_⟩
  have g1 : GS X.K (XB B X) W D G0 H0 G (lift (ev (φn B n) B.κ e ρ) ρ fun y => lift (augP op q y) ρ fun p => .nx (ρ.set i (.shr p))) := g0
  refine Se.e false sc v h4 X W S.ec G0 H0 G H ρ σ _ I ((g1.lift I).imp fun q2 _ k G1 H1 w e1 r1 => ?_)
  have I1 := I.grow e1
  cases q with
  | int a =>
    cases q2 with
    | int b =>
      cases ru
      cases r1
      have k : GS X.K (XB B X) W D G0 H0 G (lift (binP op (.int a) (.int b)) ρ fun p => .nx (ρ.set i (.shr p))) := k
      refine ip_ok (XI := XB B X) (W := W) (σ := σ) op hop I1.sub ?_
      have k2 := GS.lift (GS.move k e1.gs) I1
      exact GX.ge (G := G1) (H := H1) (k2.imp fun p _ k3 G2 H2 w2 e2 r2 => k3 G2 H2 _ ((I1.grow e2).setShr r2) e2.gs) (Ext.refl I1.sub)
    | _ => exact k.elim
  | _ => cases q2 <;> exact k.elim
def rGetL : V → V → Hp → VK → Prop := fun o i H Q => ∃ p xs k v, o = .ref p ∧ i = .int k ∧ H p = some (.lst xs) ∧ L2.atI xs k = some v ∧ Q v H
theorem get_list {X : Cx} : PGet X rGetL := by
  intro pins s σ H o i ov iv Q I ro ri h
  obtain ⟨p, xs, k, z, rfl, rfl, hp, he, q⟩ := h
  cases ro
  obtain ⟨t, rfl⟩ := ri
  obtain ⟨its, r, pl, hz⟩ := I.list (.inl (.inl hp))
  obtain ⟨j, h1, h2, h3, h4, h5⟩ := atI_get he
  obtain ⟨w, ew, rw'⟩ := r.get h2
  have hl := r.length
  have hn := line63
  have fin : EP X pins σ Q w s := ⟨z, H, I, rw', q⟩
  by_cases h0 : 0 ≤ k
  · have hj : k.toNat = j := by
      rw [seqIndex_of h0 h5] at h1
      exact Option.some.inj h1
    exact wpAny_getItem_list pl.isList h0 (by omega) (by rw [hj]; simpa using ew) fin
  · have hj : (k + (its.toArray.size : Int)).toNat = j := by
      rw [seqIndex_neg (by omega) h4] at h1
      rw [List.size_toArray, ← hl]
      exact Option.some.inj h1
    exact wpAny_getItem_list_neg pl.isList (by omega) (by rw [List.size_toArray]; omega) (by omega) (by rw [hj]; simpa using ew) fin
theorem ss_saux (i : Nat) (op : Bop) {ix e : C} (Sx : Sd B n N ix) (Se : Sd B n N e) : SS B n N (.saux i ix op e) := by
  intro sc st hc X W S G0 H0 G H ρ σ D I g
  obtain ⟨x, p0, j, p1, o, v, pos, rfl, h1, h2, h3, h3', h4, hop⟩ : ∃ x p0 j p1 o v pos, st = .AugAssign (.Subscript (.Name x p0) j p1) o v pos ∧ ckVar N sc i x = true ∧ (ck B N ix).e false sc j = true ∧ notSlice j = true ∧ bopB op o = true ∧ (ck B N e).e false sc v = true ∧ (op = .add ∨ op = .sub) := by
    have hc : sAux N i (ck B N ix) op (ck B N e) sc st = true := hc
    unfold sAux at hc
    split at hc
    · simp only [Bool.and_eq_true] at hc
      refine ⟨_, _, _, _, _, _, _, rfl, hc.1.1.1.1.1, hc.1.1.1.1.2, hc.1.1.1.2, hc.1.1.2, hc.1.2, ?_⟩
      have h := hc.2
      cases op <;> first | exact .inl rfl | exact .inr rfl | cases h
    · cases hc
  have h3'' := bopB_ok h3'
  subst h3''
  have ha : ∀ ov iv new, augStore j ov iv new = (do holding [new, ov, iv] (setItem ov iv new); release [new, ov, iv] []; pure .next) := fun ov iv new => by
    cases j <;> first | rfl | cases h3
  refine ps_can' (ps_augS pe_can pe_can get_list pe_can (ipCan_ok X _) set_list ha) ?_
  have g0 : GS X.K (XB B X) W D G0 H0 G (lift (ownAt ρ i) ρ fun xs => lift (ev (φn B n) B.κ ix ρ) ρ fun j => lift (ixP (.lst xs) j) ρ fun x => lift (ev (φn B n) B.κ e ρ) ρ fun y => lift (augP op x y) ρ fun p => match j with
    | .int n => (match ixN xs.length n with | some m => .nx (ρ.set i (.own (xs.set m p))) | none => .bad)
    | _ => .bad) := g
  obtain ⟨xs, hi, k⟩ := ownAt_ok g0
  obtain ⟨a, vs, ha', ga, h0, hh, rr⟩ := I.own hi
  refine name_ok S.ec h1 ha' ?_
  refine Sx.e false sc j h2 X W S.ec G0 H0 G H ρ σ _ I ((k.lift I).imp fun q2 _ k2 G2 H2 w e2 r2 => ?_)
  have I2 := I.grow e2
  cases q2 with
  | int m =>
    cases r2
    obtain ⟨a2, ws, ha2, _, _, hh2, rr2⟩ := I2.own hi
    rw [ha'] at ha2; cases ha2
    cases hz : L2.atI xs m with
    | none =>
      have ee : ixP (.lst xs) (.int m) = .bad := by
        show (match L2.atI xs m with | some p => Res.ok p | none => .bad) = _
        rw [hz]
      rw [ee] at k2
      exact k2.elim
    | some z =>
      have ee : ixP (.lst xs) (.int m) = .ok z := by
        show (match L2.atI xs m with | some p => Res.ok p | none => .bad) = _
        rw [hz]
      rw [ee] at k2
      obtain ⟨zv, hzv, rz⟩ := Reps.atI rr2 hz
      refine ⟨a, ws, m, zv, rfl, rfl, hh2, hzv, ?_⟩
      have k3 := GS.move (show GS X.K (XB B X) W D G0 H0 G (lift (ev (φn B n) B.κ e ρ) ρ fun y => lift (augP op z y) ρ fun p => (match ixN xs.length m with | some m => .nx (ρ.set i (.own (xs.set m p))) | none => .bad)) from k2) e2.gs
      refine Se.e false sc v h4 X W S.ec G0 H0 G2 H2 ρ σ _ I2 ((k3.lift I2).imp fun q3 _ k4 G3 H3 w3 e3 r3 => ?_)
      have I3 := I2.grow e3
      cases z with
      | int b =>
        cases q3 with
        | int c =>
          cases rz
          cases r3
          have k5 : GS X.K (XB B X) W D G0 H0 G2 (lift (binP op (.int b) (.int c)) ρ fun p => (match ixN xs.length m with | some m => .nx (ρ.set i (.own (xs.set m p))) | none => .bad)) := k4
          refine ip_ok (XI := XB B X) (W := W) (σ := σ) op hop I3.sub ?_
          have k6 := GS.lift (GS.move k5 e3.gs) I3
          refine GX.ge (G := G3) (H := H3) (k6.imp fun p _ k7 G4 H4 w4 e4 r4 => ?_) (Ext.refl I3.sub)
          have I4 := I3.grow e4
          cases hm : ixN xs.length m with
          | none => rw [hm] at k7; exact k7.elim
          | some m' =>
            rw [hm] at k7
            obtain ⟨a4, us, ha4, _, _, hh4, rr4⟩ := I4.own hi
            rw [ha'] at ha4; cases ha4
            refine ⟨a, us, m, m', rfl, rfl, hh4, by rw [rr4.length]; exact hm, ?_⟩
            exact k7 G4 _ σ (I4.write hi ha' (Reps.set r4 m' rr4)) e4.gs
        | _ => exact k4.elim
      | _ => cases q3 <;> exact k4.elim
  | _ => exact k2.elim
theorem ss_sexp {e : C} (Se : Sd B n N e) : SS B n N (.sexp e) := by
  intro sc st hc X W S G0 H0 G H ρ σ D I g
  obtain ⟨v, pos, rfl, h1, h2⟩ : ∃ v pos, st = .Expr v pos ∧ (ck B N e).e false sc v = true ∧ notComp v = true := by
    have hc : sExp (ck B N e) sc st = true := hc
    unfold sExp at hc
    split at hc
    · simp only [Bool.and_eq_true] at hc
      exact ⟨_, _, rfl, hc.1, hc.2⟩
    · cases hc
  refine ps_can' (ps_expr pe_can (sw_nc h2 _ _ _)) ?_
  have g0 : GS X.K (XB B X) W D G0 H0 G (lift (ev (φn B n) B.κ e ρ) ρ fun _ => .nx ρ) := g
  exact Se.e false sc v h1 X W S.ec G0 H0 G H ρ σ _ I ((g0.lift I).imp fun q _ k G1 H1 w e1 r1 => k G1 H1 σ (I.grow e1) e1.gs)
theorem ss_sif {c a b : C} (Sc : Sd B n N c) (Sa : SBk B n N a) (Sb : SBk B n N b) : SS B n N (.sif c a b) := by
  intro sc st hc X W S G0 H0 G H ρ σ D I g
  obtain ⟨t, x, y, pos, rfl, h1, h2, h3⟩ : ∃ t x y pos, st = .If t x y pos ∧ (ck B N c).t sc t = true ∧ (cks B N a).b sc x = true ∧ (cks B N b).b sc y = true := by
    have hc : sIf (ck B N c) (cks B N a) (cks B N b) sc st = true := hc
    unfold sIf at hc
    split at hc
    · obtain ⟨h1, h2, h3⟩ := and3 hc
      exact ⟨_, _, _, _, rfl, h1, h2, h3⟩
    · cases hc
  refine ps_can' (ps_if pt_can pss_can pss_can) ?_
  have g0 : GS X.K (XB B X) W D G0 H0 G (lift ((ev (φn B n) B.κ c ρ).bind truP) ρ fun t => if t then evs B n a ρ else evs B n b ρ) := g
  refine Sc.t sc t h1 X W S.ec G0 H0 G H ρ σ _ I ((g0.lift I).imp fun b' _ k G1 H1 e1 => ?_)
  have I1 := I.grow e1
  cases b' with
  | true =>
    refine iteT ?_
    exact Sa sc x h2 X W S G0 H0 G1 H1 ρ σ D I1 (GS.move k e1.gs)
  | false =>
    refine iteF ?_
    exact Sb sc y h3 X W S G0 H0 G1 H1 ρ σ D I1 (GS.move k e1.gs)
theorem ss_sret {e : C} (Se : Sd B n N e) : SS B n N (.sret e) := by
  intro sc st hc X W S G0 H0 G H ρ σ D I g
  obtain ⟨v, pos, rfl, h1⟩ : ∃ v pos, st = .Return (some v) pos ∧ (ck B N e).e false sc v = true := by
    have hc : sRet (ck B N e) sc st = true := hc
    unfold sRet at hc
    split at hc
    · exact ⟨_, _, rfl, hc⟩
    · cases hc
  refine ps_can' (ps_ret pe_can) ?_
  have g0 : GS X.K (XB B X) W D G0 H0 G (lift (ev (φn B n) B.κ e ρ) ρ fun p => .ret (.shr p)) := g
  exact Se.e false sc v h1 X W S.ec G0 H0 G H ρ σ _ I ((g0.lift I).imp fun q _ k G1 H1 w e1 r1 => k G1 H1 w (I.ext.trans e1) r1)
theorem ss_sref {e : C} (hck : cks B N (.sref e) = mkS (sRet (ck B N e))) (Sf : SF B n N e) : SS B n N (.sref e) := by
  intro sc st hc X W S G0 H0 G H ρ σ D I g
  rw [hck] at hc
  obtain ⟨v, pos, rfl, h1⟩ : ∃ v pos, st = .Return (some v) pos ∧ (ck B N e).e false sc v = true := by
    have hc : sRet (ck B N e) sc st = true := hc
    unfold sRet at hc
    split at hc
    · exact ⟨_, _, rfl, hc⟩
    · cases hc
  refine ps_can' (ps_ret pe_can) ?_
  have g0 : GS X.K (XB B X) W D G0 H0 G (lift ((ev (φn B n) B.κ e ρ).bind lstOf) ρ fun xs => .ret (.own xs)) := g
  refine Sf sc v h1 X W S.ec G0 H0 G H ρ σ _ I ((g0.lift I).bind.imp fun q _ k => ?_)
  cases q with
  | lst xs => exact ⟨xs, rfl, fun G1 H1 a vs e1 ha ga hh rr => k G1 H1 a vs (I.ext.trans e1) (I.ext.hs.free ha) ga hh rr⟩
  | _ => exact k.elim
theorem ss_sreo (i : Nat) : SS B n N (.sreo i) := by
  intro sc st hc X W S G0 H0 G H ρ σ D I g
  obtain ⟨x, p, pos, rfl, h1⟩ : ∃ x p pos, st = .Return (some (.Name x p)) pos ∧ ckVar N sc i x = true := by
    have hc : sReo N i sc st = true := hc
    unfold sReo at hc
    split at hc
    · exact ⟨_, _, _, rfl, hc⟩
    · cases hc
  refine ps_can' (ps_ret pe_can) ?_
  have g0 : GS X.K (XB B X) W D G0 H0 G (lift (ownAt ρ i) ρ fun xs => .ret (.own xs)) := g
  obtain ⟨xs, hi, k⟩ := ownAt_ok g0
  obtain ⟨a, vs, ha, ga, h0, hh, rr⟩ := I.own hi
  exact name_ok S.ec h1 ha (k G H a vs I.ext h0 ga hh rr)
theorem ss_srai (c : Nat) (es : C) : SS B n N (.srai c es) := by
  intro sc st hc X W S G0 H0 G H ρ σ D I g
  have hc : sRai B c es sc st = true := hc
  unfold sRai at hc
  split at hc
  · simp only [Bool.and_eq_true] at hc
    obtain ⟨g1, g2, g3⟩ := glB_ok hc.2
    have hx := nmB_ok hc.1
    obtain ⟨Ca, m1, XCa⟩ := S.ec.wo.xcl c _ hx
    refine ps_can' (ps_raise S.ec.calm S.ec.takes (pmk_own PySem.F.excBase_ValueError XCa.ex m1 XCa.kp (raises_own XCa.sub XCa.ty) (S.ec.gl g1) g2)) ?_
    have g0 : GS X.K (XB B X) W D G0 H0 G (.exc c none ρ) := g
    exact g0 G H σ (.ref Ca) none I (Same.refl _) ⟨_, Ca, hx, m1, rfl, rfl⟩
  · cases hc
theorem ss_sbrk : SS B n N .sbrk := by
  intro sc st hc X W S G0 H0 G H ρ σ D I g
  cases st <;> first | exact ps_can' ps_break (g G H σ I (Same.refl _)) | cases hc
theorem ss_scnt : SS B n N .scnt := by
  intro sc st hc X W S G0 H0 G H ρ σ D I g
  cases st <;> first | exact ps_can' ps_continue (g G H σ I (Same.refl _)) | cases hc
theorem sb_snil : SBk B n N .snil := by
  intro sc sts hc X W S G0 H0 G H ρ σ D I g
  cases sts with
  | nil => exact pss_can' pss_nil (g G H σ I (Same.refl _))
  | cons s r => cases hc
theorem sb_scons {s ss : C} (h1 : isFrz s = false → SS B n N s) (h2 : SBk B n N ss) : SBk B n N (.scons s ss) := by
  intro sc sts hc X W S G0 H0 G H ρ σ D I g
  have hc : bCons (cks B N s) (cks B N ss) (isFrz s) sc sts = true := hc
  have g0 : GS X.K (XB B X) W D G0 H0 G (match evs B n s ρ with | .nx ρ' => evs B n ss ρ' | o => o) := g
  cases hf : isFrz s with
  | true =>
    rw [hf] at hc
    have hc : (cks B N ss).b sc sts = true := by
      cases sts <;> exact hc
    cases s with
    | sfrz i =>
      have e : evs B n (.sfrz i) ρ = (match ρ[i]? with | some (.own xs) => .nx (ρ.set i (.shr (.lst xs))) | some (.shr p) => .nx ρ | _ => .bad) := rfl
      rw [e] at g0
      cases hp : ρ[i]? with
      | none => rw [hp] at g0; exact g0.elim
      | some sl =>
        rw [hp] at g0
        cases sl with
        | un => exact g0.elim
        | shr p => exact h2 sc sts hc X W S G0 H0 G H ρ σ D I g0
        | own xs =>
          obtain ⟨G', hI, hS⟩ := I.freeze2 hp
          exact h2 sc sts hc X W S G0 H0 G' H _ σ D hI (GS.move g0 hS)
    | _ => cases hf
  | false =>
    rw [hf] at hc
    cases sts with
    | nil => cases hc
    | cons st r =>
      have hc : ((cks B N s).s sc st && (cks B N ss).b sc r) = true := hc
      simp only [Bool.and_eq_true] at hc
      refine pss_can' (pss_cons ps_can pss_can) ?_
      refine h1 hf sc st hc.1 X W S G0 H0 G H ρ σ _ I ?_
      cases eo : evs B n s ρ with
      | nx ρ' =>
        rw [eo] at g0
        exact fun G' H' σ' I' sm => h2 sc r hc.2 X W S G0 H0 G' H' ρ' σ' D I' (GS.move g0 sm)
      | bk ρ' => rw [eo] at g0; exact g0
      | ct ρ' => rw [eo] at g0; exact g0
      | ret rv => rw [eo] at g0; cases rv <;> exact g0
      | exc c p ρ' => rw [eo] at g0; exact g0
      | bad => rw [eo] at g0; exact g0
/-- x.pop(j) -/
theorem ss_spop (i : Nat) {e : C} (Se : Sd B n N e) : SS B n N (.spop i e) := by
  intro sc st hc X W S G0 H0 G H ρ σ D I g
  obtain ⟨x, p0, ap, v, p, pos, rfl, h1, h2, h3, h4⟩ := sApp_ok hc
  have g0 : GS X.K (XB B X) W D G0 H0 G (lift (ownAt ρ i) ρ fun xs => lift (ev (φn B n) B.κ e ρ) ρ fun j => match j with
    | .int n => (match ixN xs.length n with | some m => if smallI n then .nx (ρ.set i (.own (xs.eraseIdx m))) else .bad | none => .bad)
    | _ => .bad) := g
  obtain ⟨xs, hi, g1⟩ := ownAt_ok g0
  refine app_expr S.ec h1 h3 h4 PySem.F.slot_list_pop PySem.F.type_list_pop mt_popAt I hi fun a vs ha hh => ?_
  refine Se.e false sc v h2 X W S.ec G0 H0 G H ρ σ _ I ((g1.lift I).imp fun q _ k G1 H1 u e1 r1 => ?_)
  have I1 := I.grow e1
  cases q with
  | int j =>
    cases r1
    have k : GS X.K (XB B X) W D G0 H0 G (match ixN xs.length j with | some m => if smallI j then .nx (ρ.set i (.own (xs.eraseIdx m))) else .bad | none => .bad) := k
    split at k
    · rename_i m hm
      split at k
      · rename_i hsm
        obtain ⟨a', ws, ha', _, _, hh', rr'⟩ := I1.own hi
        rw [ha] at ha'; cases ha'
        obtain ⟨z1, z2, _, _⟩ := ixN_seq hm
        unfold smallI at hsm
        simp only [Bool.and_eq_true, decide_eq_true_eq] at hsm
        have hml : m < ws.length := by rw [rr'.length]; exact z2
        refine ⟨a, ws, j, m, ws[m], rfl, rfl, hh', by omega, by omega, by rw [rr'.length]; exact z1, List.getElem?_eq_getElem hml, ?_⟩
        exact k G1 _ σ (I1.write hi ha (rr'.eraseIdx m)) e1.gs
      · exact k.elim
    · exact k.elim
  | _ => exact k.elim
end
end Z
end
section
namespace Z
open PySem PySem.Spec PyProof.Rows L2
section
variable {B : Tb} {n : Nat} {N : List Str}
theorem ss_sfor (tg : C) {it body : C} (Si : Sd B n N it) (Sb : SBk B n N body) : SS B n N (.sfor tg it body) := by
  intro sc st hc X W S G0 H0 G H ρ σ D I g
  obtain ⟨t, i, x, pos, rfl, h1, h2, h3, h4⟩ : ∃ t i x pos, st = .For t i x [] pos ∧ ckG N sc tg t = true ∧ (ck B N it).i false (isTupE t) sc i = true ∧ notSet i = true ∧ (cks B N body).b sc x = true := by
    have hc : sFor N tg (ck B N it) (cks B N body) sc st = true := hc
    unfold sFor at hc
    split at hc
    · simp only [Bool.and_eq_true] at hc
      exact ⟨_, _, _, _, rfl, hc.1.1.1, hc.1.1.2, hc.1.2, hc.2⟩
    · cases hc
  refine ps_can' (ps_for S.own S.ec.calm pi_can pg_can pss_can (fun y => notSet_folded h3 X.env y)) ?_
  generalize hf : (fun (y : PV) (ρ' : List Slot) => lift (asgP tg y ρ') ρ' fun ρ'' => evs B n body ρ'') = f
  have g0 : GS X.K (XB B X) W D G0 H0 G (lift ((ev (φn B n) B.κ it ρ).bind lstOf) ρ fun xs => forL f xs ρ) := by
    rw [← hf]; exact g
  refine Si.i false sc t i h2 X W S.ec G0 H0 G H ρ σ _ I ((g0.lift I).bind.imp fun l _ k => ?_)
  cases l with
  | lst xs =>
    have k : GS X.K (XB B X) W D G0 H0 G (forL f xs ρ) := k
    refine ⟨xs, rfl, fun G1 H1 J e1 hJ hz => ?_⟩
    refine ⟨fun j m σ' H' => ∃ ρ' G', m = xs.length - j ∧ j ≤ xs.length ∧ SI X.K G0 H0 G' H' ρ' σ' ∧ Same G1 G' ∧ GS X.K (XB B X) W D G0 H0 G' (forL f (xs.drop j) ρ'),
      ⟨xs.length, ρ, G1, rfl, Nat.zero_le _, I.grow e1, Same.refl _, GS.move k e1.gs⟩, fun j m σ' H' hW => ?_⟩
    obtain ⟨ρ', G', rfl, hj, I', s1, k'⟩ := hW
    have hJj := hJ j G' H' s1 I'.sub
    by_cases hlt : j < xs.length
    · obtain ⟨y, hy⟩ : ∃ y, xs[j]? = some y := ⟨xs[j], List.getElem?_eq_getElem hlt⟩
      obtain ⟨go, yl⟩ := hJj.1 y hy
      have hdrop : xs.drop j = y :: xs.drop (j + 1) := by
        rw [List.drop_eq_getElem_cons hlt]
        rw [List.getElem?_eq_getElem hlt] at hy
        cases hy; rfl
      rw [hdrop] at k'
      refine .inr ⟨go, fun σ2 H2 => ∃ ρ2 G2, SI X.K G0 H0 G2 H2 ρ2 σ2 ∧ Same G1 G2 ∧ GS X.K (XB B X) W D G0 H0 G2 (forL f (xs.drop (j + 1)) ρ2), fun σ2 H2 hN => ?_, fun v H2 hyl => ?_⟩
      · obtain ⟨ρ2, G2, q1, q2, q3⟩ := hN
        exact ⟨xs.length - (j + 1), by omega, ρ2, G2, rfl, by omega, q1, q2, q3⟩
      · obtain ⟨G2, e2, rv⟩ := yl v H2 hyl
        have I2 := I'.grow e2
        have s2 : Same G1 G2 := s1.trans e2.gs
        have k2 : GS X.K (XB B X) W D G0 H0 G2 (match f y ρ' with | .nx ρ'' => forL f (xs.drop (j + 1)) ρ'' | .ct ρ'' => forL f (xs.drop (j + 1)) ρ'' | .bk ρ'' => .nx ρ'' | o => o) := GS.move k' e2.gs
        have efy : f y ρ' = lift (asgP tg y ρ') ρ' fun ρ'' => evs B n body ρ'' := by rw [← hf]
        rw [efy] at k2
        cases ea : asgP tg y ρ' with
        | ok ρ2 =>
          rw [ea] at k2
          refine (tgt_both (G0 := G0) (H0 := H0) (G := G2) (H := H2) S.tc tg).1 t h1 y v ρ' ρ2 σ' _ ea I2 rv fun σ3 I3 _ _ => ?_
          refine Sb sc x h4 X W S G0 H0 G2 H2 ρ2 σ3 _ I3 ?_
          have k2 : GS X.K (XB B X) W D G0 H0 G2 (match evs B n body ρ2 with | .nx ρ'' => forL f (xs.drop (j + 1)) ρ'' | .ct ρ'' => forL f (xs.drop (j + 1)) ρ'' | .bk ρ'' => .nx ρ'' | o => o) := k2
          cases eo : evs B n body ρ2 with
          | nx ρ3 => rw [eo] at k2; exact fun G3 H3 σ4 I4 s4 => ⟨ρ3, G3, I4, s2.trans s4, GS.move k2 s4⟩
          | ct ρ3 => rw [eo] at k2; exact fun G3 H3 σ4 I4 s4 => ⟨ρ3, G3, I4, s2.trans s4, GS.move k2 s4⟩
          | bk ρ3 => rw [eo] at k2; exact fun G3 H3 σ4 I4 s4 => k2 G3 H3 σ4 I4 s4
          | ret rv => rw [eo] at k2; cases rv <;> exact k2
          | exc c p ρ3 => rw [eo] at k2; exact k2
          | bad => rw [eo] at k2; exact k2
        | exc c o => exact absurd ea (asgP_exc tg y ρ')
        | bad => rw [ea] at k2; exact k2.elim
    · have hj' : j = xs.length := by omega
      refine .inl ⟨hJj.2 (by omega), ?_⟩
      rw [hj', List.drop_length] at k'
      exact k' G' H' σ' I' (Same.refl _)
  | _ => exact k.elim
theorem ss_swh {c body : C} (Sc : Sd B n N c) (Sb : SBk B n N body) : SS B n N (.swh c body) := by
  intro sc st hc X W S G0 H0 G H ρ σ D I g
  obtain ⟨t, x, pos, rfl, h1, h2⟩ : ∃ t x pos, st = .While t x [] pos ∧ (ck B N c).t sc t = true ∧ (cks B N body).b sc x = true := by
    have hc : sWh (ck B N c) (cks B N body) sc st = true := hc
    unfold sWh at hc
    split at hc
    · simp only [Bool.and_eq_true] at hc
      exact ⟨_, _, _, rfl, hc.1, hc.2⟩
    · cases hc
  refine ps_can' (ps_while S.own pt_can pss_can) ?_
  have g0 : GS X.K (XB B X) W D G0 H0 G (whL (fun ρ' => (ev (φn B n) B.κ c ρ').bind truP) (fun ρ' => evs B n body ρ') B.wf ρ) := g
  refine ⟨fun m σ' H' => ∃ ρ' G', SI X.K G0 H0 G' H' ρ' σ' ∧ GS X.K (XB B X) W D G0 H0 G' (whL (fun ρ' => (ev (φn B n) B.κ c ρ').bind truP) (fun ρ' => evs B n body ρ') m ρ'), ⟨B.wf, ρ, G, I, g0⟩, fun m σ' H' hW => ?_⟩
  obtain ⟨ρ', G', I', k⟩ := hW
  cases m with
  | zero => exact k.elim
  | succ m =>
    have k : GS X.K (XB B X) W D G0 H0 G' (match (ev (φn B n) B.κ c ρ').bind truP with
      | .ok true => (match evs B n body ρ' with
        | .nx ρ2 => whL (fun ρ' => (ev (φn B n) B.κ c ρ').bind truP) (fun ρ' => evs B n body ρ') m ρ2
        | .ct ρ2 => whL (fun ρ' => (ev (φn B n) B.κ c ρ').bind truP) (fun ρ' => evs B n body ρ') m ρ2
        | .bk ρ2 => .nx ρ2
        | o => o)
      | .ok false => .nx ρ'
      | .exc c p => .exc c p ρ'
      | .bad => .bad) := k
    refine Sc.t sc t h1 X W S.ec G0 H0 G' H' ρ' σ' _ I' ?_
    cases ec : (ev (φn B n) B.κ c ρ').bind truP with
    | ok b =>
      rw [ec] at k
      intro G2 H2 e2
      have I2 := I'.grow e2
      cases b with
      | false => exact iteF (k G2 H2 σ' I2 e2.gs)
      | true =>
        refine iteT ⟨fun σ3 H3 => ∃ ρ3 G3, SI X.K G0 H0 G3 H3 ρ3 σ3 ∧ GS X.K (XB B X) W D G0 H0 G3 (whL (fun ρ' => (ev (φn B n) B.κ c ρ').bind truP) (fun ρ' => evs B n body ρ') m ρ3), fun σ3 H3 hN => ⟨m, Nat.lt_succ_self _, hN⟩, ?_⟩
        refine Sb sc x h2 X W S G0 H0 G2 H2 ρ' σ' _ I2 ?_
        have k2 : GS X.K (XB B X) W D G0 H0 G2 (match evs B n body ρ' with
          | .nx ρ2 => whL (fun ρ' => (ev (φn B n) B.κ c ρ').bind truP) (fun ρ' => evs B n body ρ') m ρ2
          | .ct ρ2 => whL (fun ρ' => (ev (φn B n) B.κ c ρ').bind truP) (fun ρ' => evs B n body ρ') m ρ2
          | .bk ρ2 => .nx ρ2
          | o => o) := GS.move k e2.gs
        cases eo : evs B n body ρ' with
        | nx ρ3 => rw [eo] at k2; exact fun G3 H3 σ4 I4 s4 => ⟨ρ3, G3, I4, GS.move k2 s4⟩
        | ct ρ3 => rw [eo] at k2; exact fun G3 H3 σ4 I4 s4 => ⟨ρ3, G3, I4, GS.move k2 s4⟩
        | bk ρ3 => rw [eo] at k2; exact fun G3 H3 σ4 I4 s4 => k2 G3 H3 σ4 I4 s4
        | ret rv => rw [eo] at k2; cases rv <;> exact k2
        | exc c p ρ3 => rw [eo] at k2; exact k2
        | bad => rw [eo] at k2; exact k2
    | exc c' p =>
      rw [ec] at k
      exact fun G2 H2 cls d e2 xx => k G2 H2 σ' cls d (I'.grow e2) e2.gs xx
    | bad => rw [ec] at k; exact k
/-! ### errors that are caught -/
section
variable {X : Cx} {a : Addr} {oe : Obj} {pn : List (Addr × Obj)} {sc : Scope} {W : WX}
theorem suiteSc : (X.suite a ((a, oe) :: pn)).env = X.env := rfl
/-- an expression of an except clause, as a value and as a test -/
def NmAt (X : Cx) (ie : Option Str) (a : Addr) (σ : L2.St) : Prop := ∀ ne : Str, ie = some ne → ∃ i : Nat, X.N[i]? = some ne ∧ Vis X.env.scope ne ∧ (ne == ("__debug__" : Str)) = false ∧ (ne == ("__classdict__" : Str)) = false ∧ σ[i]? = some (some (V.ref a))
theorem evX_ok {Ca : Addr} {ie : Option Str} {c0 : Nat} {x0 : Str} {q0 : Option PV} {d0 : Option Addr} (hq : q0 = none → d0 = none) (E : EC B n N sc X W) (hx0 : B.xnm c0 = some x0) (hm0 : X.mg x0 = some (.ref Ca)) (XCa : XC X.K Ca)
    (hz : Zc (.ref Ca) d0 oe) (hfl : ∃ vs, oe.data = .fields vs) (c : C) :
    (∀ (e : Expr), ckX B ie c sc e = true → ∀ (G H : Hp) (σ : L2.St) (q : PV) (Q : VK), Same G H → NmAt X ie a σ → evX B.cx c0 q0 c = .ok q →
      (∀ G' H' v, Ext G H G' H' → Rep X.K G' v q → Q v H') → tcE (X.suite a ((a, oe) :: pn)) e σ H Q) ∧
    (noIfe c = true → ∀ (e : Expr), ckX B ie c sc e = true → ∀ (G H : Hp) (σ : L2.St) (q : PV) (b : Bool) (Q : Bool → Hp → Prop), Same G H → NmAt X ie a σ → evX B.cx c0 q0 c = .ok q → truP q = .ok b →
      (∀ G' H', Ext G H G' H' → Q b H') → tcT (X.suite a ((a, oe) :: pn)) e σ H Q) := by
  have plainB : ∀ {c' : C} (e : Expr), plainT e = true → (∀ (G H : Hp) (σ : L2.St) (q : PV) (Q : VK), Same G H → NmAt X ie a σ → evX B.cx c0 q0 c' = .ok q → (∀ G' H' v, Ext G H G' H' → Rep X.K G' v q → Q v H') → tcE (X.suite a ((a, oe) :: pn)) e σ H Q) →
      ∀ (G H : Hp) (σ : L2.St) (q : PV) (b : Bool) (Q : Bool → Hp → Prop), Same G H → NmAt X ie a σ → evX B.cx c0 q0 c' = .ok q → truP q = .ok b → (∀ G' H', Ext G H G' H' → Q b H') → tcT (X.suite a ((a, oe) :: pn)) e σ H Q := fun e hp h G H σ q b Q s hs he hb k => by
    refine pt_can' (pt_truth (X := X.suite a ((a, oe) :: pn)) pe_can (fun wh => plainT_ok hp _ wh)) ?_
    exact h G H σ q _ s hs he fun G1 H1 v ex r => ⟨b, tru_rep (X := X) ex.gh (.inl r) hb, k G1 H1 ex⟩
  induction c with
  | k p =>
    have h1 : ∀ (e : Expr), ckX B ie (.k p) sc e = true → ∀ (G H : Hp) (σ : L2.St) (q : PV) (Q : VK), Same G H → NmAt X ie a σ → evX B.cx c0 q0 (.k p) = .ok q → (∀ G' H' v, Ext G H G' H' → Rep X.K G' v q → Q v H') → tcE (X.suite a ((a, oe) :: pn)) e σ H Q := by
      intro e hc G H σ q Q s hs he k
      cases e with
      | Constant cc j pos => cases he; exact ckK_ok hc fun v r => k G H v (Ext.refl s) r
      | _ => cases hc
    refine ⟨h1, fun _ e hc => plainB e ?_ (h1 e hc)⟩
    cases e <;> first | rfl | cases hc
  | isx d =>
    have h1 : ∀ (e : Expr), ckX B ie (.isx d) sc e = true → plainT e = true ∧ ∀ (G H : Hp) (σ : L2.St) (q : PV) (Q : VK), Same G H → NmAt X ie a σ → evX B.cx c0 q0 (.isx d) = .ok q → (∀ G' H' v, Ext G H G' H' → Rep X.K G' v q → Q v H') → tcE (X.suite a ((a, oe) :: pn)) e σ H Q := by
      intro e hc
      obtain ⟨x, px, y, py, z, pz, pos, rfl, hk⟩ : ∃ x px y py z pz pos, e = .Call (.Name x px) [.Name y py, .Name z pz] [] pos ∧ (sEq "isinstance" x && glB sc x && ckNm ie y && nmB (B.xnm d) z && glB sc z) = true := by
        unfold ckX at hc
        split at hc <;> first | contradiction | skip
        all_goals first | exact ⟨_, _, _, _, _, _, _, rfl, hc⟩ | (rename_i hh; cases hh; exact ⟨_, _, _, _, _, _, _, rfl, hc⟩) | cases hc
      refine ⟨rfl, fun G H σ q Q s hs he k => ?_⟩
      simp only [Bool.and_eq_true] at hk
      obtain ⟨⟨⟨⟨h1, h2⟩, h3⟩, h4⟩, h5⟩ := hk
      have e1 := sEq_ok h1
      subst e1
      obtain ⟨g1, g2, g3⟩ := glB_ok h2
      obtain ⟨k1, k2, k3⟩ := glB_ok h5
      obtain ⟨Cb, m1, _⟩ := E.wo.xcl d z (nmB_ok h4)
      have hcx := (E.wo.xcx c0 d x0 z Ca Cb hx0 (nmB_ok h4) hm0 m1).2
      have hne : ie = some y := by
        unfold ckNm at h3
        split at h3
        · rw [sEq_ok h3]
        · cases h3
      obtain ⟨i, hie, hv, hd1, hd2, hsi⟩ := hs y hne
      cases q0 with
      | some q1 => cases he
      | none =>
        have hd0 := hq rfl
        subst hd0
        cases he
        refine pe_can' (pe_callB (call_isE XCa.is hz hfl) (E.gl g1) (E.blt (by decide +kernel)) boot_isinstance (pa_cons (pe_var (i := i) hie hv hd1 hd2) (pa_cons (pe_glob (v := .ref Cb) (E.gl k1) m1 rfl k2) pa_nil)) g3 g2 rfl rfl) ?_
        exact ⟨.ref a, hsi, .ref Cb, .ref Cb, _, rfl, fun u r => r, hcx, k G H _ (Ext.refl s) (.bl _)⟩
    exact ⟨fun e hc => (h1 e hc).2, fun _ e hc => plainB e (h1 e hc).1 (h1 e hc).2⟩
  | nt b ih =>
    refine ⟨fun e hc G H σ q Q s hs he k => ?_, fun hn e hc G H σ q bb Q s hs he hb k => ?_⟩
    · cases e with
      | UnaryOp op x pos =>
        cases op with
        | Not =>
          have he : ((evX B.cx c0 q0 b).bind fun x => (truP x).bind fun t => .ok (.bl (!t))) = .ok q := he
          obtain ⟨p, e1, he⟩ := bind_ok he
          obtain ⟨t, e2, he⟩ := bind_ok he
          cases he
          refine pe_can' (pe_notT pe_can) ?_
          exact ih.1 x hc G H σ p _ s hs e1 fun G1 H1 v ex r => ⟨t, tru_rep (X := X) ex.gh (.inl r) e2, k G1 H1 _ ex (.bl _)⟩
        | _ => cases hc
      | _ => cases hc
    · cases e with
      | UnaryOp op x pos =>
        cases op with
        | Not =>
          have he : ((evX B.cx c0 q0 b).bind fun x => (truP x).bind fun t => .ok (.bl (!t))) = .ok q := he
          obtain ⟨p, e1, he⟩ := bind_ok he
          obtain ⟨t, e2, he⟩ := bind_ok he
          cases he
          cases hb
          refine pt_can' (pt_not pt_can) ?_
          exact ih.2 hn x hc G H σ p t _ s hs e1 e2 k
        | _ => cases hc
      | _ => cases hc
  | an b1 b2 ih1 ih2 =>
    have key : ∀ e, ckX B ie (.an b1 b2) sc e = true → ∃ x y pos, e = .BoolOp .And [x, y] pos ∧ ckX B ie b1 sc x = true ∧ ckX B ie b2 sc y = true := fun e hc => by
      cases e with
      | BoolOp op vs pos =>
        cases op with
        | And =>
          match vs, hc with
          | [x, y], hc =>
            have hc : (ckX B ie b1 sc x && ckX B ie b2 sc y) = true := hc
            simp only [Bool.and_eq_true] at hc
            exact ⟨x, y, pos, rfl, hc.1, hc.2⟩
          | [], hc => cases hc
          | [_], hc => cases hc
          | _ :: _ :: _ :: _, hc => cases hc
        | Or => cases hc
      | _ => cases hc
    refine ⟨fun e hc G H σ q Q s hs he k => ?_, fun hn e hc G H σ q bb Q s hs he hb k => ?_⟩
    · obtain ⟨x, y, pos, rfl, h1, h2⟩ := key e hc
      have he : ((evX B.cx c0 q0 b1).bind fun x => (truP x).bind fun t => if t then evX B.cx c0 q0 b2 else .ok x) = .ok q := he
      obtain ⟨p, e1, he⟩ := bind_ok he
      obtain ⟨t, e2, he⟩ := bind_ok he
      refine pe_can' (pe_andT pe_can (pe_one pe_can)) ?_
      refine ih1.1 x h1 G H σ p _ s hs e1 fun G1 H1 v ex r => ⟨t, tru_rep (X := X) ex.gh (.inl r) e2, ?_⟩
      cases t with
      | true => exact iteT (ih2.1 y h2 G1 H1 σ q _ ex.gh hs he fun G2 H2 w e3 r3 => k G2 H2 w (ex.trans e3) r3)
      | false => cases he; exact iteF (k G1 H1 v ex r)
    · obtain ⟨x, y, pos, rfl, h1, h2⟩ := key e hc
      have hn : (noIfe b1 && noIfe b2) = true := hn
      simp only [Bool.and_eq_true] at hn
      have he : ((evX B.cx c0 q0 b1).bind fun x => (truP x).bind fun t => if t then evX B.cx c0 q0 b2 else .ok x) = .ok q := he
      obtain ⟨p, e1, he⟩ := bind_ok he
      obtain ⟨t, e2, he⟩ := bind_ok he
      refine tcT_of_W (pw_can' (pw_and pt_can (pw_and1 pt_can)) ?_)
      refine ih1.2 hn.1 x h1 G H σ p t _ s hs e1 e2 fun G1 H1 ex => ?_
      cases t with
      | true => exact iteT (ih2.2 hn.2 y h2 G1 H1 σ q bb _ ex.gh hs he hb fun G2 H2 e3 => k G2 H2 (ex.trans e3))
      | false =>
        cases he
        rw [e2] at hb
        cases hb
        exact iteF (k G1 H1 ex)
  | ife d b1 b2 ihd ih1 ih2 =>
    refine ⟨fun e hc G H σ q Q s hs he k => ?_, fun hn => by cases hn⟩
    cases e with
    | IfExp t x y pos =>
      have hc : (ckX B ie d sc t && ckX B ie b1 sc x && ckX B ie b2 sc y && noIfe d) = true := hc
      simp only [Bool.and_eq_true] at hc
      obtain ⟨⟨⟨h0, h1⟩, h2⟩, h3⟩ := hc
      have he : ((evX B.cx c0 q0 d).bind fun x => (truP x).bind fun t => if t then evX B.cx c0 q0 b1 else evX B.cx c0 q0 b2) = .ok q := he
      obtain ⟨p, e1, he⟩ := bind_ok he
      obtain ⟨tb, e2, he⟩ := bind_ok he
      refine pe_can' (pe_ifExp pt_can pe_can pe_can) ?_
      refine ihd.2 h3 t h0 G H σ p tb _ s hs e1 e2 fun G1 H1 ex => ?_
      cases tb with
      | true => exact iteT (ih1.1 x h1 G1 H1 σ q _ ex.gh hs he fun G2 H2 w e3 r3 => k G2 H2 w (ex.trans e3) r3)
      | false => exact iteF (ih2.1 y h2 G1 H1 σ q _ ex.gh hs he fun G2 H2 w e3 r3 => k G2 H2 w (ex.trans e3) r3)
    | _ => cases hc
  | _ => exact ⟨fun e hc => (by cases e <;> cases hc), fun _ e hc => (by cases e <;> cases hc)⟩
end
/-- the context of a try's body -/
theorem SC.tr {sc : Scope} {X : Cx} {W W' : WX} (S : SC B n N sc X W) (pn : List (Addr × Obj)) (xe : Value → Shared → Prop) (tk : Takes (X.tr pn xe) W') (po : PassesOwn (model X.prog X.w) X.A X.env xe) : SC B n N sc (X.tr pn xe) W' where
  ec := ⟨S.ec.scope, S.ec.nm, S.ec.nd, S.ec.calm, tk, S.ec.room, S.ec.wo⟩
  tc := ⟨S.tc.nm, S.tc.nd, S.tc.calm, S.tc.loc⟩
  own := po
  stk := S.stk
  frm := S.frm
  fn := S.fn
theorem suite_ok {sc : Scope} {X : Cx} {W : WX} (S : SC B n N sc X W) {c : Nat} {oi : Option Nat} {ne : Option Str} {x0 : Str} {Ca a : Addr} {oe : Obj} {pn : List (Addr × Obj)} {suite : C} {s0 : Stmt} {q0 : Option PV} {d0 : Option Addr} (hq : q0 = none → d0 = none)
    (hoi : ∀ i, oi = some i → ∃ nm, ne = some nm) {σs : L2.St} (hnm : NmAt X ne a σs)
    (xn : B.xnm c = some x0) (xm : X.mg x0 = some (.ref Ca)) (XC0 : XC X.K Ca) (hz : Zc (.ref Ca) d0 oe) (hf : ∃ vs, oe.data = .fields vs) (h8 : ckSu B N ne suite sc s0 = true) {G0 H0 G G' H' : Hp} {ρ' ρs : List Slot} {D D' : Ends} (I' : SI X.K G0 H0 G' H' ρs σs) (sm : Same G G')
    (hrt : D'.rt = D.rt) (hρs : ∀ i, oi = some i → ρs = ρ'.set i .un ∧ ∀ σ' H', D.nx (σ'.set i none) H' → D'.nx σ' H')
    (g2 : GS X.K (XB B X) W D G0 H0 G (suite0 B.cx c q0 oi suite ρ')) :
    tcB (X.suite a ((a, oe) :: pn)) [s0] D' σs H' := by
  have E := S.ec
  unfold ckSu at h8
  split at h8
  · -- return e
    rename_i e v pos
    have g2 : GS X.K (XB B X) W D G0 H0 G (match evX B.cx c q0 e with | .ok q => .ret (.shr q) | _ => .bad) := g2
    cases ev : evX B.cx c q0 e with
    | ok q =>
      rw [ev] at g2
      refine pss_can' (pss_one (ps_ret pe_can)) ?_
      exact (evX_ok hq E xn xm XC0 hz hf e).1 v h8 G' H' _ q _ I'.sub hnm ev fun G2 H2 w e2 r2 => (by rw [hrt]; exact g2 G2 H2 w (I'.ext.trans e2) r2)
    | exc c' o => rw [ev] at g2; exact g2.elim
    | bad => rw [ev] at g2; exact g2.elim
  · -- found.append(e)
    rename_i j e y p0 m ap v p pos2
    simp only [Bool.and_eq_true] at h8
    obtain ⟨⟨⟨⟨k1, k2⟩, k3⟩, k4⟩, k5⟩ := h8
    have k2' := sEq_ok k2
    subst k2'
    cases oi with
    | none => exact g2.elim
    | some i =>
      obtain ⟨hρ, hnx⟩ := hρs i rfl
      subst hρ
      have g2 : GS X.K (XB B X) W D G0 H0 G (match evX B.cx c q0 e with
        | .ok q => lift (ownAt ρ' j) ρ' fun xs => if fits (xs.length + 1) && !(i == j) then .nx ((ρ'.set j (.own (xs ++ [q]))).set i .un) else .bad
        | _ => .bad) := g2
      cases ev : evX B.cx c q0 e with
      | ok q =>
        rw [ev] at g2
        obtain ⟨xs, hi, g3⟩ := ownAt_ok g2
        split at g3
        · rename_i hf2
          simp only [Bool.and_eq_true, Bool.not_eq_true'] at hf2
          have hij : i ≠ j := fun e => by subst e; simp at hf2
          have hi2 : (ρ'.set i Slot.un)[j]? = some (.own xs) := by rw [get_set_ne hij]; exact hi
          obtain ⟨b1, vs, hb1, gb, h0, hh, rr⟩ := I'.own hi2
          refine pss_can' (pss_one (ps_expr (pe_bm PySem.F.plainAttrs_list PySem.F.slot_list_append PySem.F.type_list_append mt_append pe_can (pa_cons pe_can pa_nil (star_of k4)) rfl (by rw [star_of k4]; rfl) k5 (star_of k4) rfl) rfl)) ?_
          have nm : tcE (X.suite a ((a, oe) :: pn)) (.Name y p0) σs H' fun x H1 => x = .ref b1 ∧ H1 = H' := by
            unfold ckVar at k1
            simp only [Bool.and_eq_true, Bool.not_eq_true'] at k1
            obtain ⟨⟨⟨z1, z2⟩, z3⟩, z4⟩ := k1
            exact pe_can' (pe_var (X := X.suite a ((a, oe) :: pn)) (i := j) (by show X.N[j]? = _; rw [E.nm]; exact ixB_ok z1) (E.vis (visB_ok z2)) z3 z4) ⟨_, hb1, rfl, rfl⟩
          refine tcE_imp nm fun x H1 pins s J hx => ?_
          obtain ⟨rfl, rfl⟩ := hx
          refine ⟨.inl ⟨rfl, vs, .inl (.inl hh)⟩, ?_⟩
          refine (evX_ok hq E xn xm XC0 hz hf e).1 v k3 G' _ _ q _ I'.sub hnm ev fun G2 H2 w e2 r2 => ?_
          have I3 := I'.grow e2
          obtain ⟨b2, ws, hb2, _, _, hh2, rr2⟩ := I3.own hi2
          rw [hb1] at hb2; cases hb2
          refine ⟨b1, ws, w, rfl, rfl, hh2, by rw [rr2.length]; exact fits_le hf2.1, ?_⟩
          have I4 := (I3.write hi2 hb1 (rr2.append (.cons r2 .nil))).setUn (i := i) (o := none)
          have eρ : ((ρ'.set i Slot.un).set j (.own (xs ++ [q]))).set i .un = (ρ'.set j (.own (xs ++ [q]))).set i .un := by
            have e5 : (ρ'.set i Slot.un).set j (.own (xs ++ [q])) = (ρ'.set j (.own (xs ++ [q]))).set i Slot.un := List.set_comm _ _ hij
            rw [e5, List.set_set]
          rw [eρ] at I4
          exact hnx _ _ (g3 G2 _ _ I4 (sm.trans e2.gs))
        · exact g3.elim
      | exc c' o => rw [ev] at g2; exact g2.elim
      | bad => rw [ev] at g2; exact g2.elim
  · exact g2.elim
  · cases h8
/-! several except clauses, with names or without -/
abbrev HT1 := Value × Option Nat × (Addr → Value → Option Addr → TS)
def endN (D : Ends) : Option Nat → Ends
  | none => D
  | some i => { nx := fun σ' H' => D.nx (σ'.set i none) H', rt := D.rt, bk := fun σ' H' => D.bk (σ'.set i none) H', ct := fun σ' H' => D.ct (σ'.set i none) H' }
def stN (σ : L2.St) (a : Addr) : Option Nat → L2.St
  | none => σ
  | some i => σ.set i (some (.ref a))
def wGen (K : PySem.W.Frag) (Wo : WX) (D : Ends) : List HT1 → WX
  | [] => Wo
  | (c, oi, ts) :: r => fun cls d σ H => ∃ b, PySem.W.exmOne K cls c = some b ∧ (b = true → ∀ a, H a = none → ts a cls d (endN D oi) (stN σ a oi) H) ∧ (b = false → wGen K Wo D r cls d σ H)
def nameOk (X : Cx) (oi : Option Nat) (ne : Option Str) : Prop := match oi, ne with
  | none, none => True
  | some i, some n => X.N[i]? = some n ∧ X.env.kindOf n = some .local
  | _, _ => False
inductive HdsG (X : Cx) : List ExceptHandler → List HT1 → Prop
  | nil : HdsG X [] []
  | cons {x : Str} {c : Value} {oi : Option Nat} {ne : Option Str} {ts : Addr → Value → Option Addr → TS} {s0 : Stmt} {np pos' : Pos} {hds : List ExceptHandler} {l : List HT1} (hc : Names X x c) (hn : nameOk X oi ne)
      (hsu : ∀ (a : Addr) (oe : Obj) (cls : Value) (d : Option Addr) (pn : List (Addr × Obj)), Zc cls d oe → (∃ vs, oe.data = .fields vs) → PSs (X.suite a ((a, oe) :: pn)) [s0] (ts a cls d)) (r : HdsG X hds l) :
      HdsG X (.ExceptHandler (some (.Name x np)) ne [s0] pos' :: hds) ((c, oi, ts) :: l)
theorem ps_try_gen {X : Cx} {body : List Stmt} {h₀ : ExceptHandler} {hds : List ExceptHandler} {l : List HT1} {pos : Pos} {tb : WX → TS} {Wo : WX} (hs : X.stack = X.env :: X.outer) (hf : X.env.frame = some X.env.locals) (hN : X.N.Nodup) (tk : Takes X Wo)
    (hb : ∀ (W : WX) (pn : List (Addr × Obj)) (xe : Value → Shared → Prop), Takes (X.tr pn xe) W → PassesOwn (model X.prog X.w) X.A X.env xe → PSs (X.tr pn xe) body (tb W))
    (hh : HdsG X (h₀ :: hds) l) : PS X (.Try body (h₀ :: hds) [] [] pos) (fun D σ H => tb (wGen X.K Wo D l) D σ H) := by
  refine ⟨fun pins s σ H D I h => ?_⟩
  have okI := I.ok
  have hfr : X.A.frames = some (X.env :: X.outer) := by rw [okI.frames, hs]
  refine wpAny_Try_except (wpAny_mono ((hb (wGen X.K Wo D l) (X.pn ++ pins) (fun e s1 => wpAny (model X.prog X.w) X.A (noteFrame e X.env) (fun _ s2 => wpAny (model X.prog X.w) X.A (setFlight e none) (fun _ s3 =>
    wpAny (model X.prog X.w) X.A (handleBy e X.env (h₀ :: hds)) (SP X pins D) X.xe s3) X.xe s2) X.xe s1) (fun u s' xx => ?_) PassesOwn.looking).run [] s σ H D (I.toTry _) h) (fun f s1 hsp => ?_) (fun e s1 he => he))
  · obtain ⟨a, Bs, sI, pins', σ', H', cls, d, rfl, J', nb, up, sky, na, os, ag, wz⟩ := xx
    have J : Inv X pins σ' H' sI := J'.ofTry okI
    have sky' : Sky Bs (X.env :: X.outer) a (Zc cls d) X.env.locals s'.heap := (by rw [← hs]; exact sky)
    show wpAny (model X.prog X.w) X.A (noteFrame (.ref a) X.env) _ _ _
    refine Sky.land Zc.steady hfr hf sky' fun h3 fl3 up3 => ?_
    have J3 : Inv X pins σ' H' { s' with heap := h3 } := J.landed nb fl3.1 (up.trans up3) os ag
    obtain ⟨oe3, vs3, he3, hz3, hd3⟩ := fl3.there
    have notFr : ∀ {hp : Heap} {o : Obj} {vs : Array Value}, hp.FunFrames Bs (X.env :: X.outer) → hp.get? a = some o → o.data = .fields vs → a ∉ frs (X.env :: X.outer) := fun {hp o vs} ff e dd hm => by
      obtain ⟨_, o', e', hnf⟩ := ff.mem hm
      have z := e.symm.trans e'
      cases z
      exact hnf _ dd
    have nfr := notFr fl3.2.2.1 he3 hd3
    have nL : a ≠ X.env.locals := (fun z => nfr (List.mem_filterMap.mpr ⟨X.env, List.mem_cons_self, by rw [hf, z]⟩))
    have nF : a ∉ X.fs := (fun hm => by
      obtain ⟨e, he, q⟩ := List.mem_filterMap.mp hm
      exact nfr (List.mem_filterMap.mpr ⟨e, List.mem_cons_of_mem _ he, q⟩))
    have S3 := J3.suite he3 hd3 na nL nF
    have go : ∀ {hds' : List ExceptHandler} {l' : List HT1}, HdsG X hds' l' → wGen X.K Wo D l' cls d σ' H' → wpAny (model X.prog X.w) X.A (handleBy (.ref a) X.env hds') (SP X pins D) X.xe { s' with heap := h3 } := by
      intro hds' l' hk
      induction hk with
      | nil =>
        intro wz
        refine wpAny_handleBy_nil ?_
        obtain ⟨k1, k2, k3, oe, vs, T, oT, ts', he, hz, hd, h1, hr⟩ := id fl3
        unfold PySem.passOn
        refine wpAny_bind (wpAny_field he hd h1 ?_)
        rw [if_neg (show ¬ ((Value.ref T == Value.none) = true) from (by simp))]
        have fin' : wpAny (model X.prog X.w) X.A (setFlight (.ref a) X.env.frame) (fun _ s4 => wpAny (model X.prog X.w) X.A (throw (.ref a) : Sem Flow) (SP X pins D) X.xe s4) X.xe { s' with heap := h3 } := by
          rw [hf]
          exact HandSPX.setFlight_upZ fl3 fun h4 hh4 up4 => wpAny_throw (tk _ _ ⟨a, Bs, sI, pins, σ', H', cls, d, rfl, J, nb, (up.trans up3).trans up4, .inr (.inr (by rw [hs]; exact hh4)), na, os, ag, wz⟩)
        first | exact wpAny_bind (wpAny_pure (wpAny_bind fin')) | exact wpAny_bind fin'
      | @cons x c oi ne ts s0 np pos' hds2 l2 hc hn hsu r ih =>
        intro wz
        obtain ⟨b, hb1, hyes, hno⟩ := wz
        refine wpAny_handleBy_cons (codeAny_handlers_test ?_) (by intro q; cases q)
        have LT : PySem.W.Looks (model X.prog X.w) h3 (typeOf (.ref a)) cls := (fun A Q E s k q => wpAny_typeOf_ref (k _ _ he3) (by rw [hz3.1]; exact q))
        have LM := PySem.W.exm_one (M := model X.prog X.w) (J3.kIn) LT hb1
        have tst : ∀ {Q : Value → Shared → Prop} {E : Value → Shared → Prop}, Q c { s' with heap := h3 } → wpAny (model X.prog X.w) (X.A.mark (some (.ref a))) (eval (.Name x np) X.env) Q E { s' with heap := h3 } := fun {Q E} q => by
          obtain ⟨hg, hdbg, hm | ⟨hm, hv, hnn⟩⟩ := hc
          · exact ld_glob (X := X.suite a ((a, oe3) :: (X.pn ++ pins))) S3 hg hm q hdbg
          · exact ld_blt (X := X.suite a ((a, oe3) :: (X.pn ++ pins))) S3 hg hm hv q hnn hdbg
        refine tst (LM.here ?_)
        cases b with
        | false => exact ih (hno rfl)
        | true =>
          cases oi with
          | none =>
            cases ne with
            | some n1 => exact hn.elim
            | none =>
              refine codeAny_handlers_suite (HandSPX.lands_againZ fl3 fun h4 fl4 up4 => ?_)
              have J4 : Inv X pins σ' H' { s' with heap := h4 } := J.landed nb fl4.1 ((up.trans up3).trans up4) os ag
              obtain ⟨oe4, vs4, he4, hz4, hd4⟩ := fl4.there
              have S4 := J4.suite he4 hd4 na nL nF
              refine wpAny_mono ((hsu a oe4 cls d (X.pn ++ pins) hz4 ⟨_, hd4⟩).run [] _ _ H' _ S4 (hyes rfl a na)) (fun f s6 hsp => ?_) (fun _ _ z => False.elim z)
              cases f with
              | ret u =>
                obtain ⟨v6, σ6, H6, S6, r6, q6⟩ := hsp
                exact ⟨_, _, _, S6.unsuite okI, r6, q6⟩
              | _ =>
                obtain ⟨σ6, H6, S6, q6⟩ := hsp
                exact ⟨_, _, S6.unsuite okI, q6⟩
          | some i =>
            cases ne with
            | none => exact hn.elim
            | some n1 =>
              obtain ⟨hi, hln⟩ := hn
              refine codeAny_handlers_suite_as (HandSPX.lands_againZ fl3 fun h4 fl4 up4 => ?_)
              have J4 : Inv X pins σ' H' { s' with heap := h4 } := J.landed nb fl4.1 ((up.trans up3).trans up4) os ag
              obtain ⟨oe4, vs4, he4, hz4, hd4⟩ := fl4.there
              have S4 := J4.suite he4 hd4 na nL nF
              refine store_ok (X := X.suite a ((a, oe4) :: (X.pn ++ pins))) (v := .ref a) S4 hN hi (.inl hln) rfl (fun s5 S5 => ?_) (.inr hln)
              refine wpAny_mono ((hsu a oe4 cls d (X.pn ++ pins) hz4 ⟨_, hd4⟩).run [] s5 _ H' _ S5 (hyes rfl a na)) (fun f s6 hsp => ?_) (fun _ _ z => False.elim z)
              have end' : ∀ {σ6 : L2.St} {H6 : Hp} {Q : Shared → Prop}, Inv (X.suite a ((a, oe4) :: (X.pn ++ pins))) [] σ6 H6 s6 → (∀ s7, Inv X pins (σ6.set i none) H6 s7 → Q s7) →
                  wpAny (model X.prog X.w) X.A (do bindName X.env n1 .none; unbindBehindTheSuite X.env n1 pos') (fun _ s7 => Q s7) X.xe s6 := (fun {σ6 H6 Q} S6 hq => gone_ok (S6.unsuite okI) hN hi hln hq)
              cases f with
              | ret u =>
                obtain ⟨v6, σ6, H6, S6, r6, q6⟩ := hsp
                exact end' S6 fun s7 J7 => ⟨_, _, _, J7, r6, q6⟩
              | _ =>
                obtain ⟨σ6, H6, S6, q6⟩ := hsp
                exact end' S6 fun s7 J7 => ⟨_, _, J7, q6⟩
    exact go hh wz
  · cases f with
    | next =>
      obtain ⟨σ', H', J', q⟩ := hsp
      exact wpAny_execs_nil ⟨σ', H', J'.ofTry okI, q⟩
    | ret u =>
      obtain ⟨v, σ', H', J', r, q⟩ := hsp
      exact ⟨v, σ', H', J'.ofTry okI, r, q⟩
    | _ =>
      obtain ⟨σ', H', J', q⟩ := hsp
      exact ⟨σ', H', J'.ofTry okI, q⟩
theorem hcN {N : List Str} {oi : Option Nat} {ne : Option Str} {sc : Scope} (h : ckNe N oi ne sc = true) : (oi = none ∧ ne = none) ∨ ∃ i n, oi = some i ∧ ne = some n ∧ ixB N i n = true ∧ sc.names.lookup n = some .local ∧ (n == ("__debug__" : Str)) = false ∧ (n == ("__classdict__" : Str)) = false := by
  unfold ckNe at h
  split at h
  · exact .inl ⟨rfl, rfl⟩
  · simp only [Bool.and_eq_true, Bool.not_eq_true'] at h
    obtain ⟨⟨⟨q1, q2⟩, q3⟩, q4⟩ := h
    exact .inr ⟨_, _, rfl, rfl, q1, locK q2, q3, q4⟩
  · cases h
/-- the clauses' wishes, as told by the terms -/
def tsOf (X : Cx) (s0 : Stmt) : Addr → Value → Option Addr → TS := fun a cls d D σ H => ∀ oe pn, Zc cls d oe → (∃ vs, oe.data = .fields vs) → tcB (X.suite a ((a, oe) :: pn)) [s0] D σ H
theorem hands_ok {sc : Scope} {X : Cx} {W : WX} (S : SC B n N sc X W) : ∀ (hs : C) (hds : List ExceptHandler), ckH B N sc hs hds = true → ∃ l, HdsG X hds l ∧
    ∀ (D : Ends) (G0 H0 G G' H' : Hp) (c : Nat) (p : Option PV) (ρ' : List Slot) (σ' : L2.St) (cl : Value) (d : Option Addr), SI X.K G0 H0 G' H' ρ' σ' → Same G G' → XB B X c p cl d G' H' → GS X.K (XB B X) W D G0 H0 G (handX B.cx c p hs ρ') → wGen X.K W D l cl d σ' H' := by
  have E := S.ec
  intro hs
  induction hs with
  | hn =>
    intro hds hc
    cases hds with
    | nil => exact ⟨[], .nil, fun D G0 H0 G G' H' c p ρ' σ' cl d I' sm xx g => g G' H' σ' cl d I' sm xx⟩
    | cons h r => cases hc
  | hc cls oi s r _ ihr =>
    intro hds hc
    obtain ⟨x, np, ne, s0, pos', hds2, rfl, h1, h2, h3, h4, h5⟩ : ∃ x np ne s0 pos' hds2, hds = .ExceptHandler (some (.Name x np)) ne [s0] pos' :: hds2 ∧ nmB (B.xnm cls) x = true ∧ glB sc x = true ∧ ckNe N oi ne sc = true ∧ ckSu B N ne s sc s0 = true ∧ ckH B N sc r hds2 = true := by
      unfold ckH at hc
      split at hc
      · rename_i z; cases z
      · rename_i z
        cases z
        simp only [Bool.and_eq_true] at hc
        exact ⟨_, _, _, _, _, _, rfl, hc.1.1.1.1, hc.1.1.1.2, hc.1.1.2, hc.1.2, hc.2⟩
      · cases hc
    obtain ⟨g1, g2, g3⟩ := glB_ok h2
    obtain ⟨Cc, m1, XCc⟩ := E.wo.xcl cls x (nmB_ok h1)
    obtain ⟨l, hl, hw⟩ := ihr hds2 h5
    refine ⟨(.ref Cc, oi, tsOf X s0) :: l, .cons ⟨E.gl g1, g2, .inl m1⟩ ?_ (fun a oe cls d pn hz hf => ⟨fun pins s σ H D J h => h oe pn hz hf pins s J⟩) hl, ?_⟩
    · rcases hcN h3 with ⟨rfl, rfl⟩ | ⟨i, n1, rfl, rfl, k1, k2, k3, k4⟩
      · trivial
      · exact ⟨by rw [E.nm]; exact ixB_ok k1, by show X.env.scope.names.lookup n1 = _; rw [E.scope]; exact k2⟩
    · intro D G0 H0 G G' H' c p ρ' σ' cl d I' sm xx g
      have xx0 := xx
      obtain ⟨x0, C0, xn, xm, rfl, xp⟩ := xx
      have hcx := (E.wo.xcx c cls x0 x C0 Cc xn (nmB_ok h1) xm m1).1
      obtain ⟨C0', xm', XC0⟩ := E.wo.xcl c x0 xn
      have e00 : C0' = C0 := by
        have := xm'.symm.trans xm
        cases this; rfl
      subst e00
      have g1 : GS X.K (XB B X) W D G0 H0 G (if B.cx c cls then suiteX B.cx c p oi s ρ' else handX B.cx c p r ρ') := g
      refine ⟨B.cx c cls, hcx, fun hb a ha oe pn' hz hf => ?_, fun hb => ?_⟩
      · rw [hb] at g1
        have g2 : GS X.K (XB B X) W D G0 H0 G (if okI' oi ρ'.length then suite0 B.cx c p oi s ρ' else .bad) := g1
        have hq : p = none → d = none := fun hp => by subst hp; exact xp
        cases hlt : okI' oi ρ'.length with
        | false => rw [hlt] at g2; exact g2.elim
        | true =>
          rw [hlt] at g2
          have g2 : GS X.K (XB B X) W D G0 H0 G (suite0 B.cx c p oi s ρ') := g2
          rcases hcN h3 with ⟨rfl, rfl⟩ | ⟨i, n1, rfl, rfl, k1, k2, k3, k4⟩
          · exact suite_ok (oi := none) (ne := none) S hq (fun i e => nomatch e) (σs := σ') (fun ne e => nomatch e) xn xm XC0 hz hf h4 I' sm rfl (fun i e => nomatch e) g2
          · have hilt : i < σ'.length := by rw [I'.len]; exact Nat.le_of_ble_eq_true hlt
            refine suite_ok (D := D) (oi := some i) (ne := some n1) S hq (fun i _ => ⟨n1, rfl⟩) (σs := σ'.set i (some (.ref a))) (fun ne e => ?_) xn xm XC0 hz hf h4 (ρs := ρ'.set i .un) I'.setUn sm rfl (fun j e => ?_) g2
            · cases e
              exact ⟨i, by rw [E.nm]; exact ixB_ok k1, .inl (by rw [E.scope]; exact k2), k3, k4, by rw [List.getElem?_set_self hilt]⟩
            · cases e
              exact ⟨rfl, fun σ' H' h => h⟩
      · rw [hb] at g1
        exact hw D G0 H0 G G' H' c p ρ' σ' _ d I' sm xx0 g1
  | _ =>
    intro hds hc
    cases hds <;> cases hc
theorem ss_stry {b : C} (hs : C) (Sb : SBk B n N b) : SS B n N (.stry b hs) := by
  intro sc st hc X W S G0 H0 G H ρ σ D I g
  obtain ⟨body, h0, hr, pos, rfl, h1, h2⟩ : ∃ body h0 hr pos, st = .Try body (h0 :: hr) [] [] pos ∧ (cks B N b).b sc body = true ∧ ckH B N sc hs (h0 :: hr) = true := by
    have hc : sTry B N (cks B N b) hs sc st = true := hc
    unfold sTry at hc
    split at hc
    · simp only [Bool.and_eq_true] at hc
      exact ⟨_, _, _, _, rfl, hc.1, hc.2⟩
    · cases hc
  have E := S.ec
  obtain ⟨l, hl, hw⟩ := hands_ok S hs (h0 :: hr) h2
  refine ps_can' (ps_try_gen (tb := fun W' => fun D σ H => ∀ pn xe, Takes (X.tr pn xe) W' → PassesOwn (model X.prog X.w) X.A X.env xe → tcB (X.tr pn xe) body D σ H)
    S.stk S.frm (by rw [E.nm]; exact E.nd) E.takes (fun W' pn xe tk po => ⟨fun pins s σ H D J h => h pn xe tk po pins s J⟩) hl) ?_
  intro pn xe tk po
  refine Sb sc body h1 _ _ (S.tr pn xe tk po) G0 H0 G H ρ σ D I ?_
  have g0 : GS X.K (XB B X) W D G0 H0 G (match evs B n b ρ with | .exc c p ρ' => handX B.cx c p hs ρ' | o => o) := g
  show GS X.K (XB B X) (wGen X.K W D l) D G0 H0 G (evs B n b ρ)
  cases eo : evs B n b ρ with
  | nx ρ' => rw [eo] at g0; exact g0
  | bk ρ' => rw [eo] at g0; exact g0
  | ct ρ' => rw [eo] at g0; exact g0
  | ret rv => rw [eo] at g0; cases rv <;> exact g0
  | bad => rw [eo] at g0; exact g0
  | exc c p ρ' =>
    rw [eo] at g0
    exact fun G' H' σ' cl d I' sm xx => hw D G0 H0 G G' H' c p ρ' σ' cl d I' sm xx g0
end
end Z
end
section
/-! ### enumerate of a tuple -/
namespace Z
open PySem PySem.Spec PyProof.Rows L2
theorem meets_enum1 {v : Value} {o : Obj} {Hh : Heap → Prop} (Bg : Begins v o Hh) :
    Meets (Builtin.«enumerate.__new__» ⟨[.type "enumerate", v], []⟩) (fun _ R s => Hh s.heap ∧ R (.ok (.ret (.ref (s.heap.push o).objs.size))) { s with heap := (s.heap.push o).push { cls := .type "enumerate", data := .fields #[.none, .bool false, .ref s.heap.objs.size, rawInt 0, .none, .none] } }) :=
  .of_wp fun prog w A R s h => by
    obtain ⟨hp, g, d, tk, os⟩ := s
    obtain ⟨h1, h⟩ := h
    have hsub := sub_enumerate
    have qq : ∀ {A' : Around} {E : Value → Shared → Prop} {Q : Value → Shared → Prop}, Q (.ref hp.objs.size) ⟨hp.push o, g, d, tk, os⟩ → wpAny (model prog w) A' (pyIter v) Q E ⟨hp, g, d, tk, os⟩ := fun q => Bg.iter prog w _ _ ⟨hp, g, d, tk, os⟩ _ h1 q
    wp_walk using qq
    refine wpAny_stack_any fun st => wpAny_pure ?_
    split
    · rename_i c _ _ _ _ _
      cases (c == Value.type "enumerate") <;> (wp_walk using qq; exact ⟨_, rfl, h⟩)
    · wp_walk using qq
      exact ⟨_, rfl, h⟩
theorem call_enum1 {prog : Program} {w : World} {A : Around} {E : Value → Shared → Prop} {s : Shared} {v : Value} {o : Obj} {Hh : Heap → Prop} {Q : Value → Shared → Prop} (Bg : Begins v o Hh) (h1 : Hh s.heap)
    (h : ∀ h', IsEnum h' (s.heap.objs.size + 1) s.heap.objs.size 0 .none → h'.get? s.heap.objs.size = some o → h'.objs.size = s.heap.objs.size + 2 → (∀ b o, s.heap.get? b = some o → h'.get? b = some o) → Q (.ref (s.heap.objs.size + 1)) { s with heap := h' }) :
    wpAny (model prog w) A (call (.type "enumerate") [v]) Q E s := by
  refine callType_new F.called_enumerate (by decide) (F.typeCall_enumerate_1 _) (F.newCall_enumerate_1 _) (fun obj => F.args_object_init_2 obj _) F.entry_enumerate_new (meets_enum1 Bg) ⟨h1, ?_⟩
  have hz : (s.heap.push o).objs.size = s.heap.objs.size + 1 := (Heap.size_push ..)
  show _ ∧ _
  rw [hz]
  have he : IsEnum ((s.heap.push o).push { cls := .type "enumerate", data := .fields #[.none, .bool false, .ref s.heap.objs.size, rawInt 0, .none, .none] }) (s.heap.objs.size + 1) s.heap.objs.size 0 .none := by
    have z := Heap.get?_push_size (s.heap.push o) (o := { cls := .type "enumerate", data := .fields #[.none, .bool false, .ref s.heap.objs.size, rawInt 0, .none, .none] }) rfl
    rw [hz] at z
    exact z
  exact ⟨⟨_, he, rfl⟩, h _ he (Heap.get?_push_of_some _ (Heap.get?_push_size _ Bg.free)) (by rw [Heap.size_push, hz]) fun b o x => Heap.get?_push_of_some _ (Heap.get?_push_of_some _ x)⟩
/-- the tuple at a, each item in a new pair -/
def IteT (K : PySem.W.Frag) (a : Addr) : It :=
  ⟨fun i H => ∃ (xs : List V) (x : V), SqT K H a xs ∧ xs[i]? = some x, fun i H v H' => ∃ T x, v = .ref T ∧ H T = none ∧ H' = upd H T (.tup [.int (i : Nat), x]) ∧ ∀ xs, SqT K H a xs → xs[i]? = some x, fun i H => ∃ xs : List V, SqT K H a xs ∧ xs.length ≤ i⟩
theorem enumT_end {prog : Program} {w : World} {A : Around} {E : Value → Shared → Prop} {s : Shared} {e it l : Addr} {i : Nat} {c : Int} {items : Array Value} {old : Value} {Q : Option Value → Shared → Prop} (hh : A.handled = none) (he : IsEnum s.heap e it c old) (hit : s.heap.IsTupleIter it l i) (hl : s.heap.IsTuple l items) (hx : items[i]? = none)
    (hQ : ∀ h', Heap.ExtBut it s.heap h' → Q none { s with heap := h' }) : wpAny (model prog w) A (pyNext (.ref e)) Q E s := by
  have hT : s.TypeIs (.ref e) "enumerate" := (⟨_, he, rfl⟩)
  unfold pyNext
  refine wpAny_bind (wpAny_attempt (wpAny_callSpecial?_slot (name := Str.ofString "__next__") hT F.slot_enumerate_next (wpAny_call_entry F.slot_enumerate_next hT F.entry_enumerate_next ?_ (F.args_enumerate_next_1 _))))
  show wpAny _ _ (field (.ref e) 2 >>= _) _ _ _
  refine wpAny_bind (wpAny_field he rfl (x := .ref it) rfl (wpAny_bind (wpAny_nextOf_tuple_end hh hit hl hx fun h' x he' hx' => ?_)))
  obtain ⟨o, ho, hc⟩ := hx'
  exact wpAny_bind (wpAny_isInstance (T := "StopIteration") (b := true) ⟨o, ho, hc⟩ isSubtype_stop (wpAny_pure (hQ _ he')))
theorem turn_enumT {P : Program} {w : World} {K : PySem.W.Frag} {elts : List Expr} {kk : Nat} {tpos : Pos} (a e it : Addr) (hea : e ≠ a) (hia : a ≠ it) :
    Turn P w K (.Tuple elts kk tpos) (IteT K a) [e, it] e (fun i h => (∃ old, IsEnum h e it ((i : Nat) : Int) old) ∧ h.IsTupleIter it a i ∧ e ≠ it) where
  mem := by simp
  obj := fun i h st b hb => by
    obtain ⟨⟨old, he⟩, ⟨o, ho, hc, hd⟩, _⟩ := st
    have q : b = e ∨ b = it := by simpa using hb
    rcases q with rfl | rfl
    · exact ⟨_, he, fun v q => nomatch q⟩
    · exact ⟨o, ho, fun v q => by rw [hd] at q; cases q⟩
  keep := fun i h h' st k => let ⟨⟨old, he⟩, hi, hne⟩ := st; ⟨⟨old, k e (by simp) _ he⟩, hi.at fun o q => k it (by simp) o q, hne⟩
  item := by
    intro X hP hw hK hc i pins s σ H E I hf st hg
    subst hP hw hK
    obtain ⟨⟨old, he⟩, hit, hne⟩ := st
    obtain ⟨xs, x, hq, hx⟩ := hg
    obtain ⟨its, rv, p, hz⟩ := I.tuple hq
    obtain ⟨u, hu, ru⟩ := rv.get hx
    have hel : e < s.heap.objs.size := Heap.lt_size he
    have hil : it < s.heap.objs.size := by obtain ⟨_, q, _⟩ := hit; exact Heap.lt_size q
    have hil2 : i < its.toArray.size := by
      have := (List.getElem?_eq_some_iff.mp hu).1
      simpa using this
    refine wpAny_pyNext_enum_itemD (Draws.tuple (A := X.A.in1) (show X.A.in1.handled = none from I.ok.hd hc) it a hia its.toArray) he ⟨hit, p⟩ hil2 hne (by simp [hne, hea]) fun y h' tk hy ho hst hT hsz hk => ?_
    have hy : its.toArray[i]? = some y := hy
    have ey : y = u := by
      have z : its.toArray[i]? = some u := by simpa using hu
      rw [hy] at z; cases z; rfl
    subst ey
    refine ⟨_, rfl, wpAny_letOwnedTupleGo_enum (s := { s with heap := h', toks := tk + 1 }) ho fun h'' he' sb => ?_⟩
    have hT2 : h''.get? s.heap.objs.size = some { cls := .type "tuple", data := .seq #[.int i tk, y] } := (sb.2 _ (Nat.ne_of_gt hel)).trans hT
    have new : ObjOk X.prog X.w (upd H s.heap.objs.size (.tup [.int (i : Nat), x])) h'' s.heap.objs.size (.tup [.int (i : Nat), x]) := (⟨by show 2 ≤ sizeLine; decide, [.int i tk, y], .cons ⟨_, rfl⟩ (.cons ru .nil), ⟨_, hT2, rfl, _, rfl⟩⟩)
    have I1 : Inv X pins σ (upd H s.heap.objs.size (.tup [.int (i : Nat), x])) { s with heap := h'', toks := tk + 1 } :=
      I.turnedNew (t' := tk + 1) (ch := [e, it]) (fun b ob hb q => (sb.2 b (fun z => hb (by simp [z]))).trans (hk b ob (fun z => hb (by simp [z])) (fun z => hb (by simp [z])) q)) hf (Nat.le_refl _) new
    refine ⟨.ref s.heap.objs.size, _, I1, rfl, ⟨_, x, rfl, I.hok.fresh (Nat.le_refl _), rfl, fun ys hy => by rw [I.tuple_inj hy hq]; exact hx⟩, ⟨⟨y, ?_⟩, hst.1.at fun o q => (sb.2 it (Ne.symm hne)).trans q, hne⟩, fun b hb => ?_⟩
    · have e1 : ((i + 1 : Nat) : Int) = (i : Int) + 1 := by omega
      rw [e1]
      exact he'
    · have hlt : b < s.heap.objs.size := by
        have q : b = e ∨ b = it := by simpa using hb
        rcases q with rfl | rfl
        · exact hel
        · exact hil
      rw [upd_ne (Nat.ne_of_lt hlt)]
      exact (hf b hb).1
  done := by
    intro X hP hw hK hc i pins s σ H E I hf st hg
    subst hP hw hK
    obtain ⟨⟨old, he⟩, hit, hne⟩ := st
    obtain ⟨xs, hq, hx⟩ := hg
    obtain ⟨its, rv, p, hz⟩ := I.tuple hq
    obtain ⟨f0, f1, f2, f3, f4, f5⟩ := hf it (by simp)
    have hl := rv.length
    exact enumT_end (I.ok.hd hc) he hit p (by simp; omega) fun h' eb => ⟨rfl, I.turned (t' := s.toks) (fun b o hb q => eb b o hb q) f0 f1 f3 f4 f5⟩
  self := fun A i s Q E st h => let ⟨⟨_, he⟩, _⟩ := st; wpAny_pyIter_enum he h
def iEnumA (K : PySem.W.Frag) (ta : TA) : TI := fun σ H R => ta σ H fun vs H1 => ∃ a xs, vs = [.ref a] ∧ ((SqL K H1 a xs ∧ R (Ite K a) H1) ∨ (SqT K H1 a xs ∧ R (IteT K a) H1))
theorem pi_enumA {X : Cx} {e : Expr} {ta : TA} {p pos tpos : Pos} {elts : List Expr} {kk : Nat} (hg : Gl X "enumerate") (hm : X.mg "enumerate" = none) (ha : PA X [e] ta) (hs : starEach [e] X.env = [(false, eval e X.env)]) :
    PI X (.Tuple elts kk tpos) (.Call (.Name "enumerate" p) [e] [] pos) (iEnumA X.K ta) := by
  refine ⟨fun pins s σ H R I h => ?_⟩
  refine Call_ (ld_blt I hg hm boot_enumerate (PyProof.Rows.callWith_type1 (thn (ha.run pos pins s σ H _ I h) fun us s1 ⟨vs, H1, I1, r1, q1⟩ => ?_) hs rfl))
  obtain ⟨a, xs, rfl, q1⟩ := q1
  cases r1 with
  | cons r rr =>
    cases rr
    cases r
    have fp : ∀ b, b = s1.heap.objs.size + 1 ∨ b = s1.heap.objs.size → s1.heap.objs.size ≤ b := fun b hb => by
      rcases hb with z | z
      · rw [z]; exact Nat.le_add_right _ _
      · rw [z]; exact Nat.le_refl _
    rcases q1 with ⟨hq, q⟩ | ⟨hq, q⟩
    · obtain ⟨its, rv, p', hz⟩ := I1.list hq
      refine call_enumerate_list p'.isList fun h' he hit hsz hk => wpAny_pyIter_enum he ?_
      have I2 : Inv X pins σ H1 { s1 with heap := h' } := (I1.kept (t' := s1.toks) hk)
      exact ⟨s1.heap.objs.size + 1, [s1.heap.objs.size + 1, s1.heap.objs.size], _, _, H1, rfl, I2, turn_enum a (s1.heap.objs.size + 1) s1.heap.objs.size, ⟨⟨.none, he⟩, hit, Nat.succ_ne_self _⟩, fun b hb => I1.fpOk (fp b (by simpa using hb)) (I1.hok.fresh (fp b (by simpa using hb))), q⟩
    · obtain ⟨its, rv, p', hz⟩ := I1.tuple hq
      have hal : a < s1.heap.objs.size := by obtain ⟨o, ho, _⟩ := p'; exact Heap.lt_size ho
      refine call_enum1 (begins_tuple a its.toArray) p' fun h' he hob hsz hk => wpAny_pyIter_enum he ?_
      have I2 : Inv X pins σ H1 { s1 with heap := h' } := (I1.kept (t' := s1.toks) hk)
      have hit : h'.IsTupleIter s1.heap.objs.size a 0 := ⟨_, hob, rfl, rfl⟩
      exact ⟨s1.heap.objs.size + 1, [s1.heap.objs.size + 1, s1.heap.objs.size], _, _, H1, rfl, I2, turn_enumT a (s1.heap.objs.size + 1) s1.heap.objs.size (Nat.ne_of_gt (Nat.lt_succ_of_lt hal)) (Nat.ne_of_lt hal), ⟨⟨.none, he⟩, hit, Nat.succ_ne_self _⟩, fun b hb => I1.fpOk (fp b (by simpa using hb)) (I1.hok.fresh (fp b (by simpa using hb))), q⟩
theorem itet_ok {Cn : Hp → Hp → Prop} {K : PySem.W.Frag} {a : Addr} {vs : List V} {xs : List PV} (h : ∀ G H, Cn G H → Same G H → SqT K H a vs ∧ Reps K G vs xs) : ItP Cn K (IteT K a) (enuL 0 xs) := fun i G H c s => by
  obtain ⟨hs, r⟩ := h G H c s
  refine ⟨fun p hp => ?_, fun hl => ⟨vs, hs, by rw [r.length]; rw [enuL_len] at hl; exact hl⟩⟩
  rw [enuL_get, Option.map_eq_some_iff] at hp
  obtain ⟨x, hx, rfl⟩ := hp
  obtain ⟨v, hv, rv⟩ := r.get hx
  refine ⟨⟨vs, v, hs, hv⟩, fun u H' hy => ?_⟩
  obtain ⟨T, z, rfl, hT, rfl, hf⟩ := hy
  have e := hf vs hs
  rw [hv] at e; cases e
  refine ⟨upd G T (.tup [.int (i : Nat), v]), Ext.new s hT, ?_⟩
  have gT : G T = none := s.free hT
  refine .tup (.inl (.inl upd_same)) (.cons ?_ (.cons (rv.mono (same_upd gT)) .nil))
  rw [Nat.zero_add]
  exact .int _
end Z
end
section
namespace Z
open PySem PySem.Spec PyProof.Rows L2
section
variable {B : Tb} {n : Nat} {N : List Str}
theorem sd_enu {a : C} (Sa : Sd B n N a) : Sd B n N (.enu a) := by
  refine Sd.mkIter rfl fun rd sc tg e hc X W E G0 H0 G H ρ σ R I g => ?_
  obtain ⟨f, p, x, pos, rfl, hk⟩ : ∃ f p x pos, e = .Call (.Name f p) [x] [] pos ∧ (isTupE tg && sEq "enumerate" f && glB sc f && (ck B N a).e rd sc x && notStar x) = true := by
    have hc : iEnu (ck B N a) rd (isTupE tg) sc e = true := hc
    unfold iEnu at hc
    split at hc
    · exact ⟨_, _, _, _, rfl, hc⟩
    · cases hc
  simp only [Bool.and_eq_true] at hk
  obtain ⟨⟨⟨⟨h0, h1⟩, h2⟩, h3⟩, h4⟩ := hk
  have h1' := sEq_ok h1
  subst h1'
  obtain ⟨es, kk, tp, rfl⟩ := isTup_of h0
  obtain ⟨g1, g2, g3⟩ := glB_ok h2
  have g0 : GX (XB B X) W G H σ (okI rd X.K G H R) ((ev (φn B n) B.κ a ρ).bind enuP) := g
  refine tcI_imp (R := fun J H' => ∃ G' xs, Ext G H G' H' ∧ okI rd X.K G H R (.lst (enuL 0 xs)) ∧ ((∃ a vs, J = Ite X.K a ∧ H' a = some (.lst vs) ∧ vs.length = xs.length ∧ ∀ G2 H2, cnd rd G' H' G2 H2 → Same G2 H2 → SqL X.K H2 a vs ∧ Reps X.K G2 vs xs) ∨
      (∃ a vs, J = IteT X.K a ∧ SqT X.K H' a vs ∧ vs.length = xs.length ∧ ∀ G2 H2, cnd rd G' H' G2 H2 → Same G2 H2 → SqT X.K H2 a vs ∧ Reps X.K G2 vs xs)))
    (pi_can' (pi_enumA (E.gl g1) (E.blt (by decide +kernel)) (pa_cons pe_can pa_nil (star_of h4)) (star_of h4)) ?_) fun J H' pins s J' hR => ?_
  · refine Sa.e rd sc x h3 X W E G0 H0 G H ρ σ _ I (g0.bind.imp fun p _ k G1 H1 v e1 r1 => ?_)
    cases p with
    | lst xs =>
      obtain ⟨b, vs, rfl, hb, hl, hw⟩ := cndL (I.grow e1).sub r1
      exact ⟨b, vs, rfl, .inl ⟨.inl (.inl hb), G1, xs, e1, k, .inl ⟨b, vs, rfl, hb, hl, hw⟩⟩⟩
    | tup xs =>
      obtain ⟨b, vs, rfl, hb, hl, hw⟩ := cndT (I.grow e1).sub r1
      exact ⟨b, vs, rfl, .inr ⟨hb, G1, xs, e1, k, .inr ⟨b, vs, rfl, hb, hl, hw⟩⟩⟩
    | _ => exact k.elim
  · obtain ⟨G', xs, ex, ⟨zs, ez, k⟩, hR⟩ := hR
    cases ez
    rcases hR with ⟨b, vs, rfl, hb, hl, hw⟩ | ⟨b, vs, rfl, hb, hl, hw⟩
    · obtain ⟨hz, _⟩ := J'.lstM hb
      exact k G' H' _ ex (ite_ok hw) (by rw [enuL_len]; omega)
    · obtain ⟨_, _, _, hz⟩ := J'.tuple hb
      exact k G' H' _ ex (itet_ok hw) (by rw [enuL_len]; omega)
theorem tl_applied {prog : Program} {w : World} {A : Around} {E : Value → Shared → Prop} {s : Shared} {sl : Addr} {vl vu vs : Value} {m : Nat} {Q : Int × Int × Nat → Shared → Prop} (hs : s.heap.IsSliceOf sl vl vu vs) (pl : IsPart vl none) (pu : IsPart vu (some 0)) (ps : IsPart vs (some (-1)))
    (h : Q ((m : Int) - 1, -1, m - 1) s) : wpAny (model prog w) A (Builtin.Slice.sliceApplied (.ref sl) (pure (m : Int))) Q E s := by
  obtain ⟨os, hos, hcs, hds⟩ := id hs
  unfold Builtin.Slice.sliceApplied Builtin.Slice.sliceFields
  refine wpAny_bind (wpAny_bind (wpAny_field hos hds (x := vl) rfl (wpAny_bind (wpAny_field hos hds (x := vu) rfl (wpAny_bind (wpAny_field hos hds (x := vs) rfl (wpAny_pure ?_)))))))
  refine wpAny_bind (HT.slicePart_ ps ?_)
  show wpAny _ _ (if ((-1 : Int) == 0) = true then _ else _) _ _ s
  rw [if_neg (by decide)]
  refine wpAny_bind (HT.slicePart_ pl (wpAny_bind (HT.slicePart_ pu (wpAny_bind (wpAny_pure ?_)))))
  have e1 : Builtin.Slice.sliceAdjust none (some 0) (-1) (m : Int) = ((m : Int) - 1, min 0 ((m : Int) - 1)) := rfl
  show wpAny _ _ (match Builtin.Slice.sliceAdjust none (some 0) (-1) (m : Int) with | (lo, hi) => pure (lo, (-1 : Int), Builtin.Slice.slicePlaces lo hi (-1))) _ _ s
  rw [e1]
  show wpAny _ _ (pure ((m : Int) - 1, (-1 : Int), Builtin.Slice.slicePlaces ((m : Int) - 1) (min 0 ((m : Int) - 1)) (-1))) _ _ s
  have e2 : Builtin.Slice.slicePlaces ((m : Int) - 1) (min 0 ((m : Int) - 1)) (-1) = m - 1 := by
    unfold Builtin.Slice.slicePlaces
    rw [if_neg (by decide)]
    show (if (m : Int) - 1 > min 0 ((m : Int) - 1) then ((m : Int) - 1 - min 0 ((m : Int) - 1) - 1) / 1 + 1 else 0).toNat = m - 1
    rw [Int.ediv_one]
    split <;> omega
  rw [e2]
  exact wpAny_pure h
theorem tl_pick (xs : Array Value) : ((List.range (xs.size - 1)).filterMap fun (k : Nat) => xs[((xs.size : Int) - 1 + (k : Int) * (-1)).toNat]?).toArray = xs.toList.tail.reverse.toArray := by
  congr 1
  obtain ⟨l⟩ := xs
  cases l with
  | nil => rfl
  | cons a l =>
    show ((List.range l.length).filterMap fun (k : Nat) => (a :: l).toArray[((((a :: l).length : Nat) : Int) - 1 + (k : Int) * (-1)).toNat]?) = l.reverse
    have e : ∀ k : Nat, k ∈ List.range l.length → (a :: l).toArray[((((a :: l).length : Nat) : Int) - 1 + (k : Int) * (-1)).toNat]? = l.reverse[k]? := fun k hk => by
      have hk' : k < l.length := List.mem_range.mp hk
      have i1 : ((((a :: l).length : Nat) : Int) - 1 + (k : Int) * (-1)).toNat = (l.length - 1 - k) + 1 := by
        rw [List.length_cons]; omega
      rw [i1, List.getElem?_reverse hk', List.getElem?_toArray, List.getElem?_cons_succ]
    have fc : ∀ (ks : List Nat) (f g : Nat → Option Value), (∀ k ∈ ks, f k = g k) → ks.filterMap f = ks.filterMap g := fun ks f g h => by
      induction ks with
      | nil => rfl
      | cons k ks ih =>
        rw [List.filterMap_cons, List.filterMap_cons, h k (List.mem_cons_self ..), ih fun j hj => h j (List.mem_cons_of_mem _ hj)]
    rw [fc _ _ _ e]
    have z : ∀ (ys : List Value), (List.range ys.length).filterMap (fun k => ys[k]?) = ys := fun ys => by
      induction ys with
      | nil => rfl
      | cons y ys ih =>
        rw [List.length_cons, List.range_succ_eq_map, List.filterMap_cons, List.filterMap_map]
        exact congrArg (y :: ·) ih
    have := z l.reverse
    rwa [List.length_reverse] at this
theorem getItem_tl {prog : Program} {w : World} {A : Around} {E : Value → Shared → Prop} {s : Shared} {t sl : Addr} {items : Array Value} {vl vu vs : Value} {Q : Value → Shared → Prop} (ht : IsTup s.heap t items) (hs : s.heap.IsSliceOf sl vl vu vs) (pl : IsPart vl none) (pu : IsPart vu (some 0)) (ps : IsPart vs (some (-1)))
    (h : Q (.ref s.heap.objs.size) { s with heap := s.heap.push { cls := .type "tuple", data := .seq items.toList.tail.reverse.toArray } }) (hsz : items.size ≤ sizeLine) : wpAny (model prog w) A (getItem (.ref t) (.ref sl)) Q E s := by
  have htake : sizeOk (.seq items.toList.tail.reverse.toArray) := by
    show items.toList.tail.reverse.toArray.size ≤ sizeLine
    rw [List.size_toArray, List.length_reverse, List.length_tail, Array.length_toList]
    omega
  obtain ⟨os, hos, hcs, hds⟩ := id hs
  have hTs : s.TypeIs (.ref sl) "slice" := ⟨os, hos, hcs⟩
  unfold getItem
  try with_reducible refine wpAny_holding ?_
  first | refine wpAny_bind (wpAny_pure ?_) | skip
  refine wpAny_bind (wpAny_sequenceKey ht.typeIs (by decide) ?_)
  refine wpAny_bind (wpAny_callSpecial?_slot (name := Str.ofString "__getitem__") ht.typeIs PyProof.Rows.slot_tuple_getitem
    (wpAny_call_entry PyProof.Rows.slot_tuple_getitem ht.typeIs entry_tuple_getitem ?_ (args_tuple_getitem _ _)))
  show wpAny _ _ (Builtin.Tuple.tupleItemsOf (.ref t) >>= _) _ _ s
  refine wpAny_bind (tupleItemsOf_ ht ?_)
  refine wpAny_bind (wpAny_typeOf hTs ?_)
  rw [if_pos (by decide)]
  refine wpAny_bind (tl_applied hs pl pu ps ?_)
  have hno : ¬ (((items.size : Int) - 1 == 0 && (-1 : Int) == 1 && (items.size - 1) == items.size) = true) := by
    intro q
    rw [Bool.and_eq_true, Bool.and_eq_true] at q
    exact absurd (eq_of_beq q.1.2) (by decide)
  show wpAny _ _ (if ((items.size : Int) - 1 == 0 && (-1 : Int) == 1 && (items.size - 1) == items.size) = true then _ else _) _ _ s
  rw [if_neg hno, tl_pick]
  first
    | exact wpAny_bind (m := Builtin.Tuple.tupleExact _) (wpAny_newObj_type (wpAny_pure ⟨_, rfl, wpAny_pure h⟩) htake)
    | exact wpAny_bind (m := Builtin.Tuple.tupleExact _) (wpAny_newObj_type (wpAny_bind (wpAny_pure (wpAny_pure ⟨_, rfl, wpAny_pure h⟩))) htake)
    | exact wpAny_bind (wpAny_bind (m := Builtin.Tuple.tupleExact _) (wpAny_newObj_type (wpAny_pure (wpAny_pure ⟨_, rfl, wpAny_pure h⟩)) htake))
    | exact wpAny_bind (wpAny_bind (m := Builtin.Tuple.tupleExact _) (wpAny_newObj_type (wpAny_pure ⟨_, rfl, wpAny_pure h⟩) htake))
def tTlT (K : PySem.W.Frag) (te : TE) : TE := fun σ H Q => te σ H fun x H1 => ∃ a xs, x = .ref a ∧ SqT K H1 a xs ∧ ∀ p, H1 p = none → Q (.ref p) (upd H1 p (.tup xs.tail.reverse))
theorem vals_tail {vs : List V} {us : List Value} (r : Vals vs us) : Vals vs.tail us.tail := by
  cases r with
  | nil => exact .nil
  | cons _ t => exact t
theorem pe_tlT {X : Cx} {e : Expr} {te : TE} {k0 k : Nat} {p0 p1 p2 p3 pos : Pos} (he : PE X e te) : PE X (.Subscript e (.Slice none (some (.Constant (.int 0) k0 p0)) (some (.UnaryOp .USub (.Constant (.int 1) k p1) p2)) p3) pos) (tTlT X.K te) := by
  refine ⟨fun pins s σ H Q I h => ?_⟩
  refine Subscript_ (thn (he.run pins s σ H _ I h) fun v s1 ⟨x, H1, I1, r1, q1⟩ => ?_)
  obtain ⟨a, xs, ex, hx, q⟩ := q1
  subst ex
  cases r1
  have hst : PO X (some (.UnaryOp .USub (.Constant (.int 1) k p1) p2)) (tPart (tUn (rU fun i => .int (-i)) (tC (.int 1)))) := po_some (pe_un un_neg pe_int)
  have hz0 : PO X (some (.Constant (.int 0) k0 p0)) (tPart (tC (.int 0))) := po_some pe_int
  refine wpAny_Slice (thn (po_none.run pins s1 σ H1 (fun o H2 => o = none ∧ H2 = H1) I1 ⟨rfl, rfl⟩) fun vl s2 ⟨l, H2, I2, pl, el, e2⟩ => ?_)
  subst el e2
  refine thn (hz0.run pins s2 σ H2 (fun o H3 => o = some 0 ∧ H3 = H2) I2 ⟨0, rfl, rfl, rfl⟩) fun vu s3 ⟨u, H3, I3, pu, eu, e3⟩ => ?_
  subst eu e3
  refine thn (hst.run pins s3 σ H3 (fun o H4 => o = some (-1) ∧ H4 = H3) I3 ⟨1, rfl, -1, rfl, rfl, rfl⟩) fun vs s4 ⟨o, H4, I4, ps, eo, e4⟩ => ?_
  subst eo e4
  have I5 : Inv X pins σ H4 { s4 with heap := s4.heap.push { cls := .type "slice", data := .fields #[vl, vu, vs] } } := I4.kept (t' := s4.toks) fun b ob q => Heap.get?_push_of_some _ q
  obtain ⟨its, r, ht, hz⟩ := I5.tuple hx
  have hlen := r.length
  show wpAny (model X.prog X.w) X.A (subscriptTail e (.Slice none (some (.Constant (.int 0) k0 p0)) (some (.UnaryOp .USub (.Constant (.int 1) k p1) p2)) p3) (.ref a) (.ref s4.heap.objs.size)) (EP X pins σ Q) X.xe { s4 with heap := s4.heap.push { cls := .type "slice", data := .fields #[vl, vu, vs] } }
  refine tail_any (ops := [.ref a, .ref s4.heap.objs.size]) ht.typeIs (PyProof.Rows.slot_tuple_getitem.lookup) ?_ (by with_unfolding_all rfl)
  refine getItem_tl ht (Heap.IsSliceOf.new _ vl vu vs) pl pu ps ?_ (by rw [List.size_toArray]; omega)
  refine ⟨.ref _, _, I5.laid (t' := s4.toks) (o := .tup xs.tail.reverse) (fun b ob q => Heap.get?_push_of_some _ q) (Nat.le_refl _) ?_, rfl, q _ (I5.hok.fresh (Nat.le_refl _))⟩
  refine ⟨by rw [List.length_reverse, List.length_tail]; omega, its.tail.reverse, (vals_tail r).reverse, ?_⟩
  exact IsTup.new _ _
theorem sd_tl {a : C} (Sa : Sd B n N a) : Sd B n N (.tl a) := by
  refine Sd.mk1 rfl (fun z => nomatch z) (SE.all ?_ (fun rd sc e h => h))
  intro sc e hc X W E G0 H0 G H ρ σ Q I g
  obtain ⟨x, k0, p0, k1, p1, p2, p3, pos, rfl, hx⟩ : ∃ x k0 p0 k1 p1 p2 p3 pos, e = .Subscript x (.Slice none (some (.Constant (.int 0) k0 p0)) (some (.UnaryOp .USub (.Constant (.int 1) k1 p1) p2)) p3) pos ∧ (ck B N a).e true sc x = true := by
    have hc : eTl (ck B N a) false sc e = true := hc
    unfold eTl at hc
    split at hc
    · exact ⟨_, _, _, _, _, _, _, _, rfl, hc⟩
    · cases hc
  have g0 : GX (XB B X) W G H σ (okE false X.K G H Q) ((ev (φn B n) B.κ a ρ).bind tlP) := g
  refine pe_can' (pe_tlT pe_can) (Sa.e true sc x hx X W E G0 H0 G H ρ σ _ I (g0.bind.imp fun p _ k G1 H1 v e1 r1 => ?_))
  have I1 := I.grow e1
  cases p with
  | tup ps =>
    rcases r1 with r1 | r1
    · cases r1 with
      | tup ht rs =>
        rename_i vs
        refine ⟨_, vs, rfl, Same.tup I1.sub ht, fun p hp => ?_⟩
        have ex := Ext.new (o := .tup vs.tail.reverse) I1.sub hp
        have rt : Reps X.K G1 vs.tail ps.tail := by
          have z := Reps.drop 1 rs
          rwa [List.drop_one, List.drop_one] at z
        exact k _ _ _ (e1.trans ex) (.tup (.inl (.inl (upd_same ..))) (rt.reverse.mono ex.gs))
    · obtain ⟨_, _, _, _, z, _⟩ := r1
      cases z
  | _ => exact k.elim
theorem strs_of {K : PySem.W.Frag} {G : Hp} : ∀ {xs : List PV} {ys : List (List Nat)} {vs : List V}, strsP xs = some ys → Reps K G vs xs → vs = (ys.map SX.S).map V.str ∧ ∀ y ∈ ys, ∀ c ∈ y, c < 1114112
  | [], ys, vs, h, r => by
    cases h
    cases r
    exact ⟨rfl, fun y hy => absurd hy List.not_mem_nil⟩
  | .str x :: xs, ys, vs, h, r => by
    have h' : (strsP xs).map (x :: ·) = some ys := h
    cases e : strsP xs with
    | none => rw [e] at h'; cases h'
    | some zs =>
      rw [e] at h'
      cases h'
      cases r with
      | cons r1 rs =>
        obtain ⟨h1, h2⟩ := strs_of e rs
        cases r1 with
        | str _ hc _ =>
          refine ⟨by rw [h1]; rfl, fun y hy => ?_⟩
          rcases List.mem_cons.mp hy with rfl | hy
          · exact hc
          · exact h2 y hy
  | .non :: _, _, _, h, _ => by cases h
  | .bl _ :: _, _, _, h, _ => by cases h
  | .int _ :: _, _, _, h, _ => by cases h
  | .tup _ :: _, _, _, h, _ => by cases h
  | .lst _ :: _, _, _, h, _ => by cases h
  | .scr _ :: _, _, _, h, _ => by cases h
theorem join_mem {s : List Nat} {c : Nat} : ∀ {ys : List (List Nat)}, c ∈ TL.joinL s ys → c ∈ s ∨ ∃ y ∈ ys, c ∈ y
  | [], h => by cases h
  | [p], h => .inr ⟨p, List.mem_cons_self .., h⟩
  | p :: q :: r, h => by
    have h' : c ∈ p ++ (s ++ TL.joinL s (q :: r)) := h
    rw [List.mem_append, List.mem_append] at h'
    rcases h' with h' | h' | h'
    · exact .inr ⟨p, List.mem_cons_self .., h'⟩
    · exact .inl h'
    · rcases join_mem h' with h' | ⟨y, hy, hc⟩
      · exact .inl h'
      · exact .inr ⟨y, List.mem_cons_of_mem _ hy, hc⟩
theorem join_len {s : List Nat} : ∀ {ys : List (List Nat)}, (TL.joinL s ys).length ≤ (ys.map (·.length)).sum + ys.length * s.length
  | [] => Nat.zero_le _
  | [p] => by
    show p.length ≤ (p.length + 0) + 1 * s.length
    omega
  | p :: q :: r => by
    have := join_len (s := s) (ys := q :: r)
    show (p ++ (s ++ TL.joinL s (q :: r))).length ≤ (p.length + ((q :: r).map (·.length)).sum) + ((q :: r).length + 1) * s.length
    rw [List.length_append, List.length_append, Nat.succ_mul]
    omega
theorem sd_join {o a : C} (So : Sd B n N o) (Sa : Sd B n N a) : Sd B n N (.mt .join o a) := by
  refine Sd.mk1 rfl (fun z => nomatch z) (SE.all ?_ (fun rd sc e h => h))
  intro sc e hc X W E G0 H0 G H ρ σ Q I g
  obtain ⟨x, ap, y, p, rfl, h1, h2, h3, h4, h5⟩ : ∃ x ap y p, e = .Call (.Attribute x "join" ap) [y] [] p ∧ (ck B N o).e false sc x = true ∧ (ck B N a).e true sc y = true ∧ notStar y = true ∧ plainBase x = true ∧ (ap.endLine == p.line) = true := by
    have hc : eMt .join (ck B N o) (ck B N a) false sc e = true := hc
    unfold eMt at hc
    split at hc
    · simp only [Bool.and_eq_true] at hc
      have e0 := sEq_ok hc.1.1.1.1.1
      subst e0
      exact ⟨_, _, _, _, rfl, hc.1.1.1.1.2, hc.1.1.1.2, hc.1.1.2, hc.1.2, hc.2⟩
    · cases hc
  have g0 : GX (XB B X) W G H σ (okE false X.K G H Q) ((ev (φn B n) B.κ o ρ).bind fun x => (strR x).bind fun x => (ev (φn B n) B.κ a ρ).bind fun y => mtP .join x y) := g
  refine pe_can' (pe_join pe_can pe_can (star_of h3) (plainBase_ok h4) h5) ?_
  refine So.e false sc x h1 X W E G0 H0 G H ρ σ _ I (g0.bind.imp fun p1 _ k G1 H1 v e1 r1 => ?_)
  have I1 := I.grow e1
  cases p1 with
  | str s =>
    have k' : GX (XB B X) W G1 H1 σ (okE false X.K G1 H1 Q) ((ev (φn B n) B.κ a ρ).bind fun y => mtP .join (.str s) y) := GX.move (r := (ev (φn B n) B.κ a ρ).bind fun y => mtP .join (.str s) y) k e1 fun q kq G' H' w e' r' => kq G' H' w (e1.trans e') r'
    cases r1 with
    | str _ hs hl =>
      refine ⟨⟨_, rfl⟩, Sa.e true sc y h2 X W E G0 H0 G1 H1 ρ σ _ I1 (k'.bind.imp fun p2 _ k2 G2 H2 w e2 r2 => ?_)⟩
      cases p2 with
      | lst xs =>
        have k2 : GX (XB B X) W G1 H1 σ (okE false X.K G1 H1 Q) (match strsP xs with
          | some ys => if fits ((ys.map (·.length)).sum + ys.length * s.length) then .ok (.str (TL.joinL s ys)) else .bad
          | none => .bad) := k2
        cases ey : strsP xs with
        | none => rw [ey] at k2; exact k2.elim
        | some ys =>
          rw [ey] at k2
          cases hf : fits ((ys.map (·.length)).sum + ys.length * s.length) with
          | false =>
            simp only [hf] at k2
            exact k2.elim
          | true =>
            simp only [hf, if_true] at k2
            obtain ⟨b, vs, rfl, hb, rr⟩ := RepX.lst r2 (I1.grow e2).sub
            obtain ⟨z1, z2⟩ := strs_of ey rr
            subst z1
            have hz := fits_le hf
            refine ⟨SX.S s, b, ys.map SX.S, rfl, rfl, .inl (.inl (.inl hb)), ?_, ?_⟩
            · rw [SX.lens, List.length_map, SX.S_len]
              exact hz
            · rw [SX.join_S]
              refine k2 G2 H2 _ e2 (.str _ (fun c hc => ?_) (Nat.le_trans join_len hz))
              rcases join_mem hc with hc | ⟨y, hy, hc⟩
              · exact hs c hc
              · exact z2 y hy c hc
      | _ => exact k2.elim
  | _ => exact k.elim
theorem cntP_eq (c : Nat) (x : List Nat) : PySem.Txt.count ⟨x.toArray⟩ ⟨#[c]⟩ = cntP c x := by
  have k : ∀ l : List Nat, PyProof.Rows.cnt c l = cntP c l := fun l => by
    induction l with
    | nil => exact PyProof.Rows.cnt_nil c
    | cons n r ih => rw [PyProof.Rows.cnt_cons, ih]; rfl
  rw [← k]
  exact PyProof.Rows.count_is _ c
theorem sd_count {o a : C} (So : Sd B n N o) (Sa : Sd B n N a) : Sd B n N (.mt .count o a) := by
  refine Sd.mk1 rfl (fun z => nomatch z) (SE.all ?_ (fun rd sc e h => h))
  intro sc e hc X W E G0 H0 G H ρ σ Q I g
  obtain ⟨x, ap, y, p, rfl, h1, h2, h3, h4, h5⟩ : ∃ x ap y p, e = .Call (.Attribute x "count" ap) [y] [] p ∧ (ck B N o).e false sc x = true ∧ (ck B N a).e true sc y = true ∧ notStar y = true ∧ plainBase x = true ∧ (ap.endLine == p.line) = true := by
    have hc : eMt .count (ck B N o) (ck B N a) false sc e = true := hc
    unfold eMt at hc
    split at hc
    · simp only [Bool.and_eq_true] at hc
      have e0 := sEq_ok hc.1.1.1.1.1
      subst e0
      exact ⟨_, _, _, _, rfl, hc.1.1.1.1.2, hc.1.1.1.2, hc.1.1.2, hc.1.2, hc.2⟩
    · cases hc
  have g0 : GX (XB B X) W G H σ (okE false X.K G H Q) ((ev (φn B n) B.κ o ρ).bind fun x => (strR x).bind fun x => (ev (φn B n) B.κ a ρ).bind fun y => mtP .count x y) := g
  refine pe_can' (pe_m1 F.slot_str_count F.type_str_count mt_count pe_can pe_can (star_of h3) (plainBase_ok h4) h5) ?_
  refine So.e false sc x h1 X W E G0 H0 G H ρ σ _ I (g0.bind.imp fun p1 _ k G1 H1 v e1 r1 => ?_)
  have I1 := I.grow e1
  cases p1 with
  | str s =>
    have k' : GX (XB B X) W G1 H1 σ (okE false X.K G1 H1 Q) ((ev (φn B n) B.κ a ρ).bind fun y => mtP .count (.str s) y) := GX.move (r := (ev (φn B n) B.κ a ρ).bind fun y => mtP .count (.str s) y) k e1 fun q kq G' H' w e' r' => kq G' H' w (e1.trans e') r'
    cases r1 with
    | str _ hs hl =>
      refine ⟨⟨_, rfl⟩, Sa.e true sc y h2 X W E G0 H0 G1 H1 ρ σ _ I1 (k'.bind.imp fun p2 _ k2 G2 H2 w e2 r2 => ?_)⟩
      cases p2 with
      | str z =>
        match z, k2, r2 with
        | [], k2, r2 => exact k2.elim
        | [c], k2, r2 =>
          have k2 : GX (XB B X) W G1 H1 σ (okE false X.K G1 H1 Q) (.ok (.int (cntP c s))) := k2
          obtain ⟨rfl, _⟩ := RepX.str r2
          refine ⟨_, _, rfl, rfl, ?_⟩
          have e := cntP_eq c s
          rw [e]
          exact k2 G2 H2 _ e2 (.int _)
        | _ :: _ :: _, k2, r2 => exact k2.elim
      | _ => exact k2.elim
  | _ => exact k.elim
theorem sd_mt (m : Mt) {o a : C} (So : Sd B n N o) (Sa : Sd B n N a) : Sd B n N (.mt m o a) := by
  cases m
  · exact sd_join So Sa
  · exact sd_count So Sa
def trsOf (X : Cx) : List (Option Expr) → List Expr → List (TE × TE)
  | some k :: ks, v :: vs => (tcE X k, tcE X v) :: trsOf X ks vs
  | _, _ => []
theorem intE_ok {i : Int} {k : Expr} (h : intE i k = true) {X : Cx} {H : Hp} {σ : L2.St} {Q : VK} (q : Q (.int i) H) : tcE X k σ H Q := by
  unfold intE at h
  split at h
  · have h := of_decide_eq_true h
    subst h
    refine ckK_ok (p := .int i) (c := .int i) (G := H) (show ckK (.int i) (.int i) = true from decide_eq_true rfl) fun v r => ?_
    cases r
    exact q
  · have h := of_decide_eq_true h
    subst h
    refine pe_can' (pe_un un_neg pe_can) ?_
    rename_i j _ _ _
    refine ckK_ok (p := .int j) (c := .int j) (G := H) (show ckK (.int j) (.int j) = true from decide_eq_true rfl) fun v r => ?_
    cases r
    exact ⟨j, rfl, q⟩
  · cases h
theorem pk_len : ∀ {kvs : List (Int × List Nat)} {ks : List (Option Expr)} {vs : List Expr}, pkB kvs ks vs = true → ks.length = kvs.length ∧ vs.length = kvs.length ∧ ks.all (·.isSome) = true
  | [], [], [], _ => ⟨rfl, rfl, rfl⟩
  | (i, s) :: r, some k :: ks, .Constant c _ _ :: vs, h => by
    have h : (intE i k && ckK (.str s) c && pkB r ks vs) = true := h
    simp only [Bool.and_eq_true] at h
    obtain ⟨a, b, c⟩ := pk_len h.2
    exact ⟨by rw [List.length_cons, List.length_cons, a], by rw [List.length_cons, List.length_cons, b], by rw [List.all_cons, c]; rfl⟩
  | [], _ :: _, _, h => by cases h
  | [], [], _ :: _, h => by cases h
  | _ :: _, [], _, h => by cases h
  | _ :: _, none :: _, _, h => by cases h
  | _ :: _, some _ :: _, [], h => by cases h
theorem pk_pps {X : Cx} {pos : Pos} : ∀ {ks : List (Option Expr)} {vs : List Expr}, ks.length = vs.length → ks.all (·.isSome) = true → PPs X pos ks vs (trsOf X ks vs)
  | [], [], _, _ => pps_nil
  | some k :: ks, v :: vs, h, h2 => pps_cons pe_can pe_can (pk_pps (by simpa using h) (by simpa using h2))
  | none :: _, _, _, h2 => by simp at h2
  | _ :: _, [], h, _ => by simp at h
  | [], _ :: _, h, _ => by simp at h
def kvV (kvs : List (Int × List Nat)) : List (Key × V) := kvs.map fun kv => (.inl kv.1, strV kv.2)
theorem pk_pairs {X : Cx} {σ : L2.St} : ∀ {kvs : List (Int × List Nat)} {ks : List (Option Expr)} {vs : List Expr} {H : Hp} {Q : List (V × V) → Hp → Prop}, pkB kvs ks vs = true → Q ((kvV kvs).map fun kv => (kV kv.1, kv.2)) H → tPairs (trsOf X ks vs) σ H Q
  | [], [], [], H, Q, _, q => q
  | (i, s) :: r, some k :: ks, .Constant c _ _ :: vs, H, Q, h, q => by
    have h : (intE i k && ckK (.str s) c && pkB r ks vs) = true := h
    simp only [Bool.and_eq_true] at h
    refine intE_ok h.1.1 (ckK_ok (p := .str s) (G := H) h.1.2 fun v rv => ?_)
    cases rv
    exact pk_pairs h.2 q
  | [], _ :: _, _, _, _, h, _ => by cases h
  | [], [], _ :: _, _, _, h, _ => by cases h
  | _ :: _, [], _, _, _, h, _ => by cases h
  | _ :: _, none :: _, _, _, _, h, _ => by cases h
  | _ :: _, some _ :: _, [], _, _, h, _ => by cases h
theorem merge_app : ∀ (kvs : List (Int × List Nat)) (acc : List (Key × V)), (kvs.map (·.1)).Nodup → (∀ kv ∈ kvs, valV acc (.inl kv.1) = none) → mergeK acc (kvV kvs) = acc ++ kvV kvs
  | [], acc, _, _ => (List.append_nil _).symm
  | kv :: r, acc, h, h2 => by
    have h' := List.nodup_cons.mp h
    have e := putK_new (strV kv.2) (h2 kv (List.mem_cons_self ..))
    show mergeK (putK acc (.inl kv.1) (strV kv.2)) (kvV r) = _
    rw [e, merge_app r _ h'.2 fun x hx => ?_, List.append_assoc]
    · rfl
    · rw [valV_snoc _ _ _ _ (h2 kv (List.mem_cons_self ..)), if_neg (fun z => ?_)]
      · exact h2 x (List.mem_cons_of_mem _ hx)
      · have z : x.1 = kv.1 := Sum.inl.inj z
        refine h'.1 ?_
        show kv.1 ∈ r.map (·.1)
        rw [← z]
        exact List.mem_map_of_mem hx
theorem val_find (i : Int) : ∀ kvs : List (Int × List Nat), valV (kvV kvs) (.inl i) = (kvs.find? fun kv => decide (kv.1 = i)).map fun kv => strV kv.2
  | [] => rfl
  | kv :: r => by
    rw [List.find?_cons]
    by_cases e : kv.1 = i
    · rw [decide_eq_true e]
      exact valV_pos (by show Sum.inl kv.1 = _; rw [e])
    · rw [decide_eq_false e]
      have : valV (kvV (kv :: r)) (.inl i) = valV (kvV r) (.inl i) := valV_neg (fun z => e (Sum.inl.inj z))
      rw [this]
      exact val_find i r
theorem pk_str : ∀ {kvs : List (Int × List Nat)} {ks : List (Option Expr)} {vs : List Expr} {kv : Int × List Nat}, pkB kvs ks vs = true → kv ∈ kvs → (∀ c ∈ kv.2, c < 1114112) ∧ kv.2.length ≤ sizeLine
  | (i, s) :: r, some k :: ks, .Constant c _ _ :: vs, kv, h, hm => by
    have h : (intE i k && ckK (.str s) c && pkB r ks vs) = true := h
    simp only [Bool.and_eq_true] at h
    rcases List.mem_cons.mp hm with rfl | hm
    · have q := h.1.2
      cases c with
      | str z =>
        have q : (decide (z = ⟨s.toArray⟩) && (s.all fun c => Nat.blt c 1114112) && fits s.length) = true := q
        simp only [Bool.and_eq_true] at q
        exact ⟨fun c hc => Nat.le_of_ble_eq_true (List.all_eq_true.mp q.1.2 c hc), fits_le q.2⟩
      | _ => cases q
    · exact pk_str h.2 hm
  | [], _, _, _, _, hm => by cases hm
  | _ :: _, [], _, _, h, _ => by cases h
  | _ :: _, none :: _, _, _, h, _ => by cases h
  | _ :: _, some _ :: _, [], _, h, _ => by cases h
theorem sd_pick (kvs : List (Int × List Nat)) {a : C} (Sa : Sd B n N a) : Sd B n N (.pick kvs a) := by
  refine Sd.mk1 rfl (fun z => nomatch z) (SE.all ?_ fun _ _ _ h => h)
  intro sc e hc X W E G0 H0 G H ρ σ Q I g
  have hc : ePick kvs (ck B N a) false sc e = true := hc
  unfold ePick at hc
  split at hc
  · rename_i ks vs _ y _ _
    simp only [Bool.and_eq_true, decide_eq_true_eq] at hc
    obtain ⟨⟨⟨⟨⟨h1, h2⟩, h3⟩, h4⟩, h5⟩, h6⟩ := hc
    obtain ⟨l1, l2, l3⟩ := pk_len h1
    have h0 : ks ≠ [] := fun z => by
      subst z
      cases kvs with
      | nil => cases h6
      | cons _ _ => cases l1
    have hk : kvs.length ≤ 15 := Nat.le_of_ble_eq_true h5
    have u1 : X.A.units + 1 < cLine := by have := units65 E.room; omega
    refine pe_can' (pe_dget u1 (pe_disp (pk_pps (by rw [l1, l2]) l3) l3 (by rw [l1, l2]) h0 (by rw [l1]; exact hk)) pe_can (fun ov iv => notSlice_ok h3 ov iv)) ?_
    intro p hp
    refine pk_pairs h1 ⟨upd_same .., kvV kvs, rfl, by unfold kvV; rw [List.length_map]; exact hk, ?_⟩
    have em : mergeK [] (kvV kvs) = kvV kvs := merge_app kvs [] h4 fun _ _ => rfl
    have eu : upd (upd H p (.dK [])) p (.dK (mergeK [] (kvV kvs))) = upd H p (.dK (kvV kvs)) := by
      rw [em]
      funext b
      by_cases hb : b = p
      · subst hb; rw [upd_same, upd_same]
      · rw [upd_ne hb, upd_ne hb, upd_ne hb]
    rw [eu]
    have ex : Ext G H (upd G p (.dK (kvV kvs))) (upd H p (.dK (kvV kvs))) := Ext.new I.sub hp
    have I1 := I.grow ex
    have g0 : GX (XB B X) W G H σ (okE false X.K G H Q) ((ev (φn B n) B.κ a ρ).bind fun x => pickP kvs x) := g
    have g1 := GX.move (r := (ev (φn B n) B.κ a ρ).bind fun x => pickP kvs x) g0 ex fun q kq G' H' w e' r' => kq G' H' w (ex.trans e') r'
    refine Sa.e false sc y h2 X W E G0 H0 _ _ ρ σ _ I1 (g1.bind.imp fun q _ k G2 H2 v e2 r2 => ?_)
    cases q with
    | int i =>
      have r2 : v = .int i := RepX.int (RB.x r2)
      subst r2
      have k : GX (XB B X) W (upd G p (.dK (kvV kvs))) (upd H p (.dK (kvV kvs))) σ (okE false X.K (upd G p (.dK (kvV kvs))) (upd H p (.dK (kvV kvs))) Q) (match kvs.find? fun kv => decide (kv.1 = i) with | some kv => .ok (.str kv.2) | none => .bad) := k
      have vf := val_find i kvs
      cases ef : kvs.find? fun kv => decide (kv.1 = i) with
      | none => rw [ef] at k; exact k.elim
      | some kv =>
        rw [ef] at k vf
        have hd : H2 p = some (.dK (kvV kvs)) := e2.hs _ _ (upd_same ..)
        have dg := DGet.k (k := .inl i) hd
        rw [vf] at dg
        obtain ⟨q1, q2⟩ := pk_str h1 (List.mem_of_find?_eq_some ef)
        exact ⟨p, strV kv.2, rfl, dg, k G2 H2 _ e2 (.str _ q1 q2)⟩
    | _ => exact k.elim
  · cases hc
theorem sd_jk : Sd B n N .jk where
  e := fun rd sc e _ X W _ G0 H0 G H ρ σ Q _ g => False.elim g
  b := fun op sc x r pos _ X W _ G0 H0 G H ρ σ Q _ g => False.elim g
  t := fun sc e _ X W _ G0 H0 G H ρ σ Q _ g => False.elim g
  tb := fun op sc x r pos _ X W _ G0 H0 G H ρ σ Q _ g => False.elim g
  a := fun rd sc es hc => by cases hc
  o := fun sc o _ X W _ G0 H0 G H ρ σ Q _ g => False.elim g
  i := fun rd sc tg e _ X W _ G0 H0 G H ρ σ R _ g => False.elim g
theorem sd_all (c : C) : Sd B n N c := by
  induction c with
  | v i => exact sd_v i
  | rd i => exact sd_rd i
  | k p => exact sd_k p
  | g i => exact sd_g i
  | bin op a b ha hb => exact sd_bin op ha hb
  | neg a ha => exact sd_neg ha
  | nt a ha => exact sd_nt ha
  | cmp op a b ha hb => exact sd_cmp op ha hb
  | chn op op' a b c ha hb hc => exact sd_chn op op' ha hb hc
  | an a b ha hb => exact sd_an ha hb
  | or a b ha hb => exact sd_or ha hb
  | ife c a b hc ha hb => exact sd_ife hc ha hb
  | tup es h => exact sd_tup h
  | dsp es h => exact sd_dsp h
  | nil => exact sd_nil
  | cons a as ha hs => exact sd_cons ha hs
  | ix a i ha hi => exact sd_ix ha hi
  | sl a lo hi ha hl hh => exact sd_sl ha hl hh
  | nop => exact sd_nop
  | tl a ha => exact sd_tl ha
  | call f es h => exact sd_call f h
  | bi b es h => exact sd_bi b h
  | isi t e h => exact sd_isi t h
  | mt m o e ho he => exact sd_mt m ho he
  | pick kvs e he => exact sd_pick kvs he
  | comp vs tg it cn el _ hi hc he => exact sd_comp vs tg hi hc he
  | seq e h => exact sd_seq h
  | rng1 a h => exact sd_rng1 h
  | rng2 a b ha hb => exact sd_rng2 ha hb
  | rng3 a b c ha hb hc => exact sd_rng3 ha hb hc
  | enu e h => exact sd_enu h
  | zip a b ha hb => exact sd_zip ha hb
  | jk => exact sd_jk
  | _ => exact sd_none rfl (fun z => nomatch z)
theorem ss_no {c : C} (h : cks B N c = mkS sNo) : SS B n N c ∧ SBk B n N c := ⟨fun sc st hc => (by rw [h] at hc; cases hc), fun sc sts hc => (by rw [h] at hc; cases hc)⟩
theorem sb_no {c : C} {s : Scope → Stmt → Bool} (h : cks B N c = mkS s) : SBk B n N c := fun sc sts hc => by rw [h] at hc; cases hc
theorem sf_all {e : C} (h : frC e = true) : SF B n N e := by
  cases e with
  | dsp es => exact sf_dsp (sd_all es)
  | comp vs tg it cn el => exact sf_comp vs tg (sd_all it) (sd_all cn) (sd_all el)
  | bin op a b => cases op <;> first | exact sf_bin (sd_all a) (sd_all b) | cases h
  | sl a lo hi => exact sf_sl (sd_all a) (sd_all lo) (sd_all hi)
  | bi b es => cases b <;> first | exact sf_list (sd_all es) | cases h
  | _ => cases h
theorem cons_all {e : C} (vs : List Nat) (tg it cn el : C) (_ : e = .comp vs tg it cn el) : Sd B n N it ∧ Sd B n N cn ∧ Sd B n N el := ⟨sd_all it, sd_all cn, sd_all el⟩
theorem sown_all (i : Nat) (e : C) : SS B n N (.sown i e) := by
  cases hk : frC e || isCallC e with
  | false => exact (ss_no (by show (bif frC e || isCallC e then _ else _) = _; rw [hk]; rfl)).1
  | true =>
    by_cases hc : isCallC e = true
    · cases e with
      | call f es => exact ss_sown_call i f (sd_all es)
      | _ => cases hc
    · have hf : frC e = true := by
        rw [Bool.or_eq_true] at hk
        rcases hk with h | h
        · exact h
        · exact absurd h hc
      exact ss_sown i (by show (bif frC e || isCallC e then _ else _) = _; rw [hk]; rfl) (fun _ => sf_all hf) (fun f es h => hc (by rw [h]; rfl)) cons_all
theorem sref_all (e : C) : SS B n N (.sref e) := by
  cases hk : frC e with
  | false => exact (ss_no (by show (bif frC e then _ else _) = _; rw [hk]; rfl)).1
  | true => exact ss_sref (by show (bif frC e then _ else _) = _; rw [hk]; rfl) (sf_all hk)
theorem sasg_all (tg e : C) : SS B n N (.sasg tg e) := by
  cases tg with
  | tt ts => cases e with
    | tup es => exact ss_sasg_tup (sd_all (.tup es)) (sd_all es)
    | _ => exact ss_sasg_plain (sd_all _) rfl
  | _ => exact ss_sasg_plain (sd_all _) rfl
theorem ss_all (c : C) : SS B n N c ∧ SBk B n N c := by
  induction c with
  | sset i e _ => exact ⟨ss_sset i (sd_all e) cons_all, sb_no rfl⟩
  | sown i e _ => exact ⟨sown_all i e, fun sc sts hc => (by
      have : (cks B N (.sown i e)).b sc sts = false := by
        show (bif frC e || isCallC e then mkS _ else mkS _ : CkS).b sc sts = false
        cases frC e || isCallC e <;> rfl
      rw [this] at hc; cases hc)⟩
  | sref e _ => exact ⟨sref_all e, fun sc sts hc => (by
      have : (cks B N (.sref e)).b sc sts = false := by
        show (bif frC e then mkS _ else mkS _ : CkS).b sc sts = false
        cases frC e <;> rfl
      rw [this] at hc; cases hc)⟩
  | sasg tg e _ _ => exact ⟨sasg_all tg e, fun sc sts hc => (by
      cases tg with
      | tt ts => cases e <;> cases hc
      | _ => cases hc)⟩
  | sapp i e _ => exact ⟨ss_sapp i (sd_all e), sb_no rfl⟩
  | sext i e _ => exact ⟨ss_sext i (sd_all e), sb_no rfl⟩
  | sput i ix e _ _ => exact ⟨ss_sput i (sd_all ix) (sd_all e), sb_no rfl⟩
  | saug i op e _ => exact ⟨ss_saug i op (sd_all e), sb_no rfl⟩
  | saux i ix op e _ _ => exact ⟨ss_saux i op (sd_all ix) (sd_all e), sb_no rfl⟩
  | sexp e _ => exact ⟨ss_sexp (sd_all e), sb_no rfl⟩
  | sif c a b _ ha hb => exact ⟨ss_sif (sd_all c) ha.2 hb.2, sb_no rfl⟩
  | sfor tg it body _ _ hb => exact ⟨ss_sfor tg (sd_all it) hb.2, sb_no rfl⟩
  | swh c body _ hb => exact ⟨ss_swh (sd_all c) hb.2, sb_no rfl⟩
  | sret e _ => exact ⟨ss_sret (sd_all e), sb_no rfl⟩
  | sreo i => exact ⟨ss_sreo i, sb_no rfl⟩
  | srai c es _ => exact ⟨ss_srai c es, sb_no rfl⟩
  | stry b hs hb _ => exact ⟨ss_stry hs hb.2, sb_no rfl⟩
  | spop i ix _ => exact ⟨ss_spop i (sd_all ix), sb_no rfl⟩
  | jk => exact ⟨fun sc st _ X W _ G0 H0 G H ρ σ D _ g => False.elim g, fun sc st _ X W _ G0 H0 G H ρ σ D _ g => False.elim g⟩
  | sbrk => exact ⟨ss_sbrk, sb_no rfl⟩
  | scnt => exact ⟨ss_scnt, sb_no rfl⟩
  | snil => exact ⟨fun sc st hc => (by cases hc), sb_snil⟩
  | scons s ss hs hss => exact ⟨fun sc st hc => (by cases hc), sb_scons (fun _ => hs.1) hss.2⟩
  | _ => exact ss_no rfl
end
end Z
end
section
namespace Z
open PySem PySem.Spec PyProof.Rows L2
/-! ### defs -/
section
variable {K : PySem.W.Frag} {G H : Hp}
theorem start_get {N : List Str} {vs : List V} {ps : List PV} {d : FnD} (hN : N.length = d.ns) (r : Reps K G vs ps) (hl : ps.length = d.np) {i : Nat} {s : Slot} (h : (startS d ps)[i]? = some s) : ∃ o, (start N vs)[i]? = some o ∧ RepSlot K G H H o s ∧ ∀ xs, s ≠ .own xs := by
  have hv : vs.length = ps.length := r.length
  unfold startS at h
  unfold L2.start
  by_cases hi : i < ps.length
  · rw [List.getElem?_append_left (by rw [List.length_map]; exact hi), List.getElem?_map] at h
    rw [List.getElem?_append_left (by rw [List.length_map]; omega), List.getElem?_map]
    cases e : ps[i]? with
    | none => rw [e] at h; cases h
    | some p =>
      rw [e] at h
      cases h
      obtain ⟨v, h1, h2⟩ := r.get e
      rw [h1]
      exact ⟨some v, rfl, ⟨v, rfl, h2⟩, fun xs z => nomatch z⟩
  · rw [List.getElem?_append_right (by rw [List.length_map]; omega)] at h
    rw [List.getElem?_append_right (by rw [List.length_map]; omega)]
    rw [List.getElem?_replicate] at h ⊢
    rw [List.length_map] at h ⊢
    split at h
    · cases h
      rw [if_pos (by omega)]
      exact ⟨none, rfl, trivial, fun xs z => nomatch z⟩
    · cases h
theorem start_si {N : List Str} {vs : List V} {ps : List PV} {d : FnD} (hN : N.length = d.ns) (s : Same G H) (r : Reps K G vs ps) (hl : ps.length = d.np) : SI K G H G H (startS d ps) (start N vs) where
  ext := Ext.refl s
  len := by
    have hv : vs.length = ps.length := r.length
    unfold startS L2.start
    rw [List.length_append, List.length_append, List.length_map, List.length_map, List.length_replicate, List.length_replicate]
    omega
  at_ := fun i s h => by
    obtain ⟨o, h1, h2, _⟩ := start_get (H := H) hN r hl h
    exact ⟨o, h1, h2⟩
  dis := fun i j a xs ys _ h1 _ _ _ => by
    obtain ⟨o, _, _, h3⟩ := start_get (H := H) hN r hl h1
    exact h3 xs rfl
end
/-- a def of the module and its term -/
def FS (B : Tb) (K : PySem.W.Frag) (mg : Str → Option Value) (x : Str) (d : FnD) : Prop := ∃ (fa : Addr) (fd : FuncData) (ps N : List Str) (nm qual : Str) (params : Arguments) (body : List Stmt) (scope : Scope), mg x = some (.ref fa) ∧ FunD K nm qual params body scope [] [] fa fd ∧
  FnScope N ps scope ∧ Binds K fd ps [] ∧ ps.length = d.np ∧ N.length = d.ns ∧ (cks B N d.body).b scope body = true
structure WS (B : Tb) (K : PySem.W.Frag) (mg : Str → Option Value) : Prop where
  fns : ∀ f x d, B.fnm f = some x → B.TT f = some d → FS B K mg x d
  con : ∀ i x p, B.cnm i = some x → B.κ i = some p → ∃ v u, mg x = some u ∧ RelV v u ∧ Rep K (fun _ => none) v p
  blt : ∀ x, x ∈ bltN → mg x = none
  xcl : ∀ c x, B.xnm c = some x → ∃ Ca, mg x = some (.ref Ca) ∧ XC K Ca
  xcx : ∀ c c' x x' Ca Cb, B.xnm c = some x → B.xnm c' = some x' → mg x = some (.ref Ca) → mg x' = some (.ref Cb) → PySem.W.exmOne K (.ref Ca) (.ref Cb) = some (B.cx c c') ∧ PySem.W.kitOne K (.ref Ca) (.ref Cb) = some (B.cx c c')
section
variable {B : Tb} {P : Program} {w : World} {K : PySem.W.Frag} {mg : Str → Option Value} {base : Heap} {n : Nat}
theorem gs_of {XI : Ends1} {G H : Hp} {Q : VK} {E : XK} {o : Out} (h : GF K XI G H (fin o) Q E) : GS K XI (fun cls d _ H => E cls d H) { nx := fun _ H' => Q .non H', rt := Q } G H G o := by
  cases o with
  | nx ρ => exact fun G' H' σ' I _ => h G' H' .non I.ext .non
  | ret r =>
    cases r with
    | shr p => exact fun G' H' v e r => h G' H' v e r
    | own xs => exact fun G' H' a vs e ha ga hh rr => h G' H' a vs e ha ga hh rr
  | bk ρ => exact h.elim
  | ct ρ => exact h.elim
  | exc c p ρ => exact fun G' H' σ' cls d I _ x => h G' H' cls d I.ext x
  | bad => exact h
theorem spF_len {XI : Ends1} {f np : Nat} {ps : List Str} (hp : ps.length = np) (vs : List V) (H : Hp) (Q : VK) (E : XK) (h : spF B K XI n f np vs H Q E) : vs.length = ps.length := by
  obtain ⟨G, qs, _, r, hl, _⟩ := h
  rw [r.length, hl, hp]
theorem fn_ok {f : Nat} {d : FnD} (W0 : Wo B P w K mg base n) {fa : Addr} {fd : FuncData} {ps N : List Str} {nm qual : Str} {params : Arguments} {body : List Stmt} {scope : Scope} (F : FunD K nm qual params body scope [] [] fa fd) (S : FnScope N ps scope) (hp : ps.length = d.np) (hN : N.length = d.ns)
    (hd : B.TT f = some d) (hc : (cks B N d.body).b scope body = true) : FnOk P w K mg base (CX P w) (n + 1 + 5) fa fd ps (spF B K (XIs B K mg) (n + 1) f d.np) := by
  refine FunD.ok (k := n + 5) F S (spF_len hp) fun cdv A outer s H vs Q E hr h => ⟨_, pss_can, ?_⟩
  obtain ⟨G, qs, hs, r, hl, g⟩ := h
  have e1 : callN B.TT B.κ B.cx B.wf (n + 1) f qs = fin (evs B n d.body (startS d qs)) := by
    show (match B.TT f with
      | some d => if Nat.beq qs.length d.np then fin (evS (callN B.TT B.κ B.cx B.wf n) B.κ B.cx B.wf d.body (startS d qs)) else .bad
      | none => .bad) = _
    rw [hd]
    show (if Nat.beq qs.length d.np then _ else _) = _
    rw [if_pos (by rw [hl]; exact Nat.beq_refl _)]
  rw [e1] at g
  refine (ss_all d.body).2 scope body hc _ (fun cls d _ H => E cls d H) ?_ G H G H (startS d qs) _ _ (start_si hN hs r hl) (gs_of g)
  exact
    { ec := { scope := rfl, nm := rfl, nd := S.nd, calm := rfl, takes := takes_of rfl rfl rfl rfl, room := hr, wo := W0 }
      tc := { nm := rfl, nd := S.nd, calm := rfl, loc := fun x h => ⟨h, .inl rfl⟩ }
      own := passes_of rfl
      stk := rfl
      frm := rfl
      fn := S.kind }
theorem wo_all (S : WS B K mg) : ∀ n, Wo B P w K mg base n := by
  intro n
  induction n with
  | zero =>
    refine ⟨fun f x d h1 h2 => ?_, S.con, S.blt, S.xcl, S.xcx⟩
    obtain ⟨fa, fd, ps, N, nm, qual, params, body, scope, hm, F, Sc, hb, hp, hN, hc⟩ := S.fns f x d h1 h2
    refine ⟨fa, fd, ps, hm, F.kp, hb, hp, spF_len hp, fun A outer s H args us vs Q E _ _ _ _ h => ?_⟩
    obtain ⟨G, qs, _, _, _, g⟩ := h
    exact g.elim
  | succ n ih =>
    refine ⟨fun f x d h1 h2 => ?_, S.con, S.blt, S.xcl, S.xcx⟩
    obtain ⟨fa, fd, ps, N, nm, qual, params, body, scope, hm, F, Sc, hb, hp, hN, hc⟩ := S.fns f x d h1 h2
    exact ⟨fa, fd, ps, hm, F.kp, hb, hp, fn_ok ih F Sc hp hN h2 hc⟩
/-- the law's own promise -/
theorem law_sp {f : Nat} {H : Hp} {a : Addr} {ns : List Int} (hS : SqL K H a (ns.map V.int)) (h : callN B.TT B.κ B.cx B.wf n f [.scr ns] = .ok (.shr (.bl true))) : spF B K (XIs B K mg) n f 1 [.ref a] H (fun v _ => v = .bl true) fun _ _ _ => False := by
  refine ⟨H, [.scr ns], Same.refl _, .cons (.scr hS) .nil, rfl, ?_⟩
  rw [h]
  intro G' H' v e r
  cases r
  rfl
end
end Z
end
section
namespace Z
open PySem PySem.Spec PyProof.Rows L2
/-! ### the head: what the top has left, by names -/
/-- a constant of the module -/
def vB (K : PySem.W.Frag) : PV → Value → Bool
  | .non, .none => true
  | .bl b, .bool c => b == c
  | .int i, .int j _ => decide (i = j)
  | .str x, .str y _ => decide (y = ⟨x.toArray⟩) && (x.all fun c => Nat.blt c 1114112) && fits x.length
  | _, _ => false
def tB (K : PySem.W.Frag) : PV → Value → Bool
  | .tup ps, .ref a => (match K.lookup a with
    | some ⟨.type c, _, .seq its _, _⟩ => decide (c = "tuple") && decide (its.size ≤ sizeLine) && tBs ps its.toList
    | _ => false)
  | p, u => vB K p u
where tBs : List PV → List Value → Bool
  | [], [] => true
  | p :: ps, u :: us => vB K p u && tBs ps us
  | _, _ => false
section
variable {K : PySem.W.Frag}
theorem vB_ok {p : PV} {u : Value} (h : vB K p u = true) : ∃ v, RelV v u ∧ Rep K (fun _ => none) v p := by
  unfold vB at h
  split at h
  · exact ⟨.non, rfl, .non⟩
  · have e := eq_of_beq h
    subst e
    exact ⟨.bl _, rfl, .bl _⟩
  · have e := of_decide_eq_true h
    subst e
    exact ⟨.int _, ⟨_, rfl⟩, .int _⟩
  · rename_i x y t
    simp only [Bool.and_eq_true] at h
    obtain ⟨⟨h1, h2⟩, h3⟩ := h
    have e := of_decide_eq_true h1
    subst e
    refine ⟨strV x, ⟨_, rfl⟩, .str x (fun c hc => ?_) (Nat.le_of_ble_eq_true h3)⟩
    exact Nat.le_of_ble_eq_true (List.all_eq_true.mp h2 c hc)
  · cases h
theorem tBs_ok : ∀ {ps : List PV} {us : List Value}, tB.tBs K ps us = true → ∃ vs, Vals vs us ∧ Reps K (fun _ => none) vs ps
  | [], [], _ => ⟨[], .nil, .nil⟩
  | p :: ps, u :: us, h => by
    have h' : (vB K p u && tB.tBs K ps us) = true := h
    rw [Bool.and_eq_true] at h'
    obtain ⟨v, r1, r2⟩ := vB_ok h'.1
    obtain ⟨vs, q1, q2⟩ := tBs_ok h'.2
    exact ⟨v :: vs, .cons r1 q1, .cons r2 q2⟩
  | [], _ :: _, h => by cases h
  | _ :: _, [], h => by cases h
theorem tB_ok {p : PV} {u : Value} (h : tB K p u = true) : ∃ v, RelV v u ∧ Rep K (fun _ => none) v p := by
  unfold tB at h
  split at h
  · rename_i ps a
    split at h
    · rename_i c dd its n sl q
      simp only [Bool.and_eq_true] at h
      obtain ⟨⟨h1, h2⟩, h3⟩ := h
      obtain ⟨vs, r1, r2⟩ := tBs_ok h3
      have e := of_decide_eq_true h1
      subst e
      exact ⟨.ref a, rfl, .tup (.inr ⟨_, its, _, q, rfl, rfl, of_decide_eq_true h2, r1⟩) r2⟩
    · cases h
  · exact vB_ok h
/-- an error class -/
def xcB (K : PySem.W.Frag) (x : Str) : Bool := (He.Fa.glo x).ok K && (He.Fa.exc x).ok K && He.eqO (PySem.W.findIn K (.ref (He.ga K x)) "__getattribute__") (some (some (.builtin "BaseException.__getattribute__"))) && He.eqO (PySem.W.findIn K (.ref (He.ga K x)) "__getattr__") (some none) &&
  PySem.W.hasDictIn K (He.ga K x) && He.eqO (PySem.W.findIn K (.ref (He.ga K x)) "__class__") (some (some (.builtin "object.__class__"))) && He.eqO (PySem.W.specialIn K (.builtin "object.__class__") "__get__") (some (some (.builtin "getset_descriptor.__get__"))) &&
  decide (PySem.W.takesIn K (.builtin "object.__class__") = some true) && decide (PySem.W.mroIn K (He.ga K x) (.type "object") = some true)
theorem xcB_ok {x : Str} (h : xcB K x = true) : (He.Fa.glo x).ok K = true ∧ XC K (He.ga K x) := by
  unfold xcB at h
  simp only [Bool.and_eq_true] at h
  obtain ⟨⟨⟨⟨⟨⟨⟨⟨h0, h1⟩, h2⟩, h3⟩, h4⟩, h5⟩, h6⟩, h7⟩, h8⟩ := h
  obtain ⟨e1, e2, e3, e4⟩ := He.exc_ok h1
  exact ⟨h0, e1, e2, e3, e4, He.eqO_ok h2, He.eqO_ok h3, e3, h4, He.eqO_ok h5, He.eqO_ok h6, of_decide_eq_true h7, of_decide_eq_true h8⟩
def xxB (K : PySem.W.Frag) (x y : Str) (b : Bool) : Bool := decide (PySem.W.exmOne K (.ref (He.ga K x)) (.ref (He.ga K y)) = some b) && decide (PySem.W.kitOne K (.ref (He.ga K x)) (.ref (He.ga K y)) = some b)
end
/-- tables by lists -/
def tbL (Fs : List (Nat × Str × FnD)) (Cs : List (Nat × Str × PV)) (Xs : List (Nat × Str)) (cx : Nat → Nat → Bool) (wf : Nat) : Tb where
  fnm := fun f => (Fs.lookup f).map (·.1)
  cnm := fun f => (Cs.lookup f).map (·.1)
  xnm := fun c => Xs.lookup c
  xfl := fun _ => none
  κ := fun f => (Cs.lookup f).map (·.2)
  cx := cx
  TT := fun f => (Fs.lookup f).map (·.2)
  wf := wf
def moreB (Cs : List (Nat × Str × PV)) (Xs : List (Nat × Str)) (cx : Nat → Nat → Bool) (K : PySem.W.Frag) : Bool :=
  (bltN.all fun x => (He.Fa.free x).ok K) && (Cs.all fun e => match PySem.W.nsIn K mainGlobals e.2.1 with
    | some (some u) => tB K e.2.2 u
    | _ => false) && (Xs.all fun e => xcB K e.2) && Xs.all fun e => Xs.all fun e' => xxB K e.2 e'.2 (cx e.1 e'.1)
theorem lookup_mem {α : Type} {f : Nat} {a : α} : ∀ {l : List (Nat × α)}, l.lookup f = some a → (f, a) ∈ l
  | [], h => by cases h
  | (g, b) :: l, h => by
    rw [List.lookup_cons] at h
    split at h
    · rename_i e
      have e' := eq_of_beq e
      subst e'
      cases h
      exact List.mem_cons_self ..
    · exact List.mem_cons_of_mem _ (lookup_mem h)
section
variable {Fs : List (Nat × Str × FnD)} {Cs : List (Nat × Str × PV)} {Xs : List (Nat × Str)} {cx : Nat → Nat → Bool} {wf : Nat} {K : PySem.W.Frag} {mg : Str → Option Value} {h : Heap}
theorem ws_of (X : K.In h) (G : h.Ns mainGlobals mg) (hf : ∀ e ∈ Fs, FS (tbL Fs Cs Xs cx wf) K mg e.2.1 e.2.2) (hm : moreB Cs Xs cx K = true) : WS (tbL Fs Cs Xs cx wf) K mg := by
  unfold moreB at hm
  simp only [Bool.and_eq_true] at hm
  obtain ⟨⟨⟨m1, m2⟩, m3⟩, m4⟩ := hm
  refine ⟨fun f x d h1 h2 => ?_, fun i x p h1 h2 => ?_, fun x hx => ?_, fun c x h1 => ?_, fun c c' x x' Ca Cb h1 h2 h3 h4 => ?_⟩
  · have h1' : (Fs.lookup f).map (·.1) = some x := h1
    have h2' : (Fs.lookup f).map (·.2) = some d := h2
    cases e : Fs.lookup f with
    | none => rw [e] at h1'; cases h1'
    | some q =>
      rw [e] at h1' h2'
      cases h1'
      cases h2'
      exact hf _ (lookup_mem e)
  · have h1' : (Cs.lookup i).map (·.1) = some x := h1
    have h2' : (Cs.lookup i).map (·.2) = some p := h2
    cases e : Cs.lookup i with
    | none => rw [e] at h1'; cases h1'
    | some q =>
      rw [e] at h1' h2'
      cases h1'
      cases h2'
      have z := List.all_eq_true.mp m2 _ (lookup_mem e)
      simp only at z
      split at z
      · rename_i u hu
        obtain ⟨v, r1, r2⟩ := tB_ok z
        exact ⟨v, u, PySem.W.mg_of X G hu, r1, r2⟩
      · cases z
  · exact He.free_ok X G (List.all_eq_true.mp m1 x hx)
  · obtain ⟨g, xc⟩ := xcB_ok (List.all_eq_true.mp m3 _ (lookup_mem h1))
    exact ⟨_, He.glo_ok X G g, xc⟩
  · obtain ⟨g1, _⟩ := xcB_ok (List.all_eq_true.mp m3 _ (lookup_mem h1))
    obtain ⟨g2, _⟩ := xcB_ok (List.all_eq_true.mp m3 _ (lookup_mem h2))
    have e1 := h3.symm.trans (He.glo_ok X G g1)
    have e2 := h4.symm.trans (He.glo_ok X G g2)
    cases e1
    cases e2
    have z := List.all_eq_true.mp (List.all_eq_true.mp m4 _ (lookup_mem h1)) _ (lookup_mem h2)
    have z' : (decide _ && decide _) = true := z
    rw [Bool.and_eq_true] at z'
    exact ⟨of_decide_eq_true z'.1, of_decide_eq_true z'.2⟩
end
/-- the eye on the top -/
def obsZ (m : Nat) (fa : List He.Fa) (fn : List He.DefD) (more : PySem.W.Frag → Bool) (g : Addr → Option Obj) : Bool × He.AlD := (more (He.frG g (He.asD g m)), He.obsD fa fn (He.frG g (He.asD g m)))
def hookZ (m : Nat) (fa : List He.Fa) (fn : List He.DefD) (more : PySem.W.Frag → Bool) : PySem.W.Hook where
  α := Bool × He.AlD
  obs := fun s => obsZ m fa fn more s.heap.get?
  val := fun _ => (true, He.valD fn)
  says := fun _ h => ∃ K : PySem.W.Frag, K.In h ∧ more K = true ∧ He.SaysD fa fn K
  of := fun _ s e => ⟨_, He.frG_in, congrArg (fun z : Bool × He.AlD => z.1) e, congrArg (fun z : Bool × He.AlD => z.2) e⟩
  keeps := fun _ _ _ q k => by
    obtain ⟨K, hK, c⟩ := q
    exact ⟨K, PySem.W.Frag.In.keeps hK k, c⟩
theorem obsZ_eq {m : Nat} {fa : List He.Fa} {fn : List He.DefD} {more : PySem.W.Frag → Bool} {g : Addr → Option Obj} {s : Shared} (h : ∀ a, g a = s.heap.get? a) : obsZ m fa fn more g = (hookZ m fa fn more).obs s := by
  have e : g = s.heap.get? := funext h
  rw [e]
  rfl
/-- what each way of the world may let out -/
def CXA (P : Program) : CXT := fun o H s E u s' => ∃ w, CX P w o H s E u s'
theorem fn_any {P : Program} {w : World} {K : PySem.W.Frag} {mg : Str → Option Value} {base : Heap} {k : Nat} {f : Addr} {fd : FuncData} {ps : List Str} {sp : Sp} (F : FnOk P w K mg base (CX P w) k f fd ps sp) : FnOk P w K mg base (CXA P) k f fd ps sp :=
  ⟨F.len, fun A outer s H args us vs Q E hr he hb hv hs => codeAny_mono (F.run A outer s H args us vs Q E hr he hb hv hs) fun r s' c => by
    cases r with
    | ok v => cases v <;> exact c
    | error e => exact ⟨w, c⟩⟩
theorem cxa_no {P : Program} (H : Hp) (s : Shared) (e : Value) (s' : Shared) (h : CXA P [] H s (fun _ _ _ => False) e s') : False := by
  obtain ⟨w, a, B, H', cls, d, _, _, _, _, _, _, _, z⟩ := h
  exact z
section
variable {B : Tb} {K : PySem.W.Frag} {mg : Str → Option Value} {h : Heap} {fa : List He.Fa} {fn : List He.DefD}
/-- one def of the text -/
theorem fs_of (X : K.In h) (G : h.Ns mainGlobals mg) (c : He.SaysD fa fn K) {x nm qual : Str} {d : FnD} {ps N : List Str} {params : Arguments} {body : List Stmt} {scope : Scope} (i j : Nat) (hi : fa[i]? = some (.glo x)) (hj : fn[j]? = some ⟨(x, none), nm, qual, params, body, scope, [], []⟩)
    (S : FnScope N ps scope) (hb : ∀ (kV doc pm : Value) (an : Option Addr) (cdv ct : Value) (us : List Value), us.length = ps.length → bindArgs (PySem.W.fnOf nm qual params body scope .none kV doc pm an cdv ct) ⟨us, []⟩ = pure (ps.zip us))
    (hp : ps.length = d.np) (hN : N.length = d.ns) (hc : (cks B N d.body).b scope body = true) : FS B K mg x d := by
  obtain ⟨fd, F⟩ := c.def_ j hj
  exact ⟨_, fd, ps, N, nm, qual, params, body, scope, He.glo_ok X G (c.fact i hi), F, S, F.bindsN hb, hp, hN, hc⟩
/-- the law's own def -/
theorem law_of {P : Program} {w : World} {n f : Nat} {fl : Addr} (X : K.In h) (G : h.Ns mainGlobals mg) (c : He.SaysD fa fn K) {nm qual : Str} {d : FnD} {N : List Str} {params : Arguments} {body : List Stmt} {scope : Scope} (i j : Nat) (hi : fa[i]? = some (.glo ("law" : Str))) (hj : fn[j]? = some ⟨("law", none), nm, qual, params, body, scope, [], []⟩)
    (Sc : FnScope N ["script"] scope) (hb : ∀ (kV doc pm : Value) (an : Option Addr) (cdv ct : Value) (us : List Value), us.length = 1 → bindArgs (PySem.W.fnOf nm qual params body scope .none kV doc pm an cdv ct) ⟨us, []⟩ = pure ([("script" : Str)].zip us))
    (hp : d.np = 1) (hN : N.length = d.ns) (hc : (cks B N d.body).b scope body = true) (S : WS B K mg) (h2 : B.TT f = some d) (hm : mg ("law" : Str) = some (.ref fl)) :
    ∃ fd : FuncData, (∀ (s : Shared) (u : Value), BindsTo s fd ⟨[u], []⟩ [("script", u)]) ∧ ∀ base : Heap, FnOk P w K mg base (CXA P) (n + 1 + 5) fl fd ["script"] (spF B K (XIs B K mg) (n + 1) f 1) := by
  obtain ⟨fd, F⟩ := c.def_ j hj
  have e := hm.symm.trans (He.glo_ok X G (c.fact i hi))
  cases e
  refine ⟨fd, fun s u => F.bindsA (ps := ["script"]) hb s [u] rfl, fun base => ?_⟩
  have z := fn_any (fn_ok (wo_all (P := P) (w := w) (base := base) S n) F Sc (d := d) (by rw [hp]; rfl) hN h2 hc)
  rw [hp] at z
  exact z
end
end Z
end
section
/-! ### reckoning with the small language -/
namespace Z
open L2 (ixN atI)
/-- told by a proof, not by the machine -/
theorem rf {α : Sort u} {a b : α} (h : a = b) : a = b := h
section
variable {φ : Fns} {κ : Cons} {cx : Nat → Nat → Bool} {wf : Nat} {ρ : List Slot}
@[simp] theorem rb_ok {α β : Type} (a : α) (f : α → Res β) : (Res.ok a).bind f = f a := rf rfl
@[simp] theorem rb_exc {α β : Type} (c : Nat) (p : Option PV) (f : α → Res β) : (Res.exc c p : Res α).bind f = .exc c p := rf rfl
@[simp] theorem rb_bad {α β : Type} (f : α → Res β) : (Res.bad : Res α).bind f = .bad := rf rfl
@[simp] theorem lf_ok {α : Type} (a : α) (f : α → Out) : lift (.ok a) ρ f = f a := rf rfl
@[simp] theorem lf_exc {α : Type} (c : Nat) (p : Option PV) (f : α → Out) : lift (.exc c p : Res α) ρ f = .exc c p ρ := rf rfl
@[simp] theorem lf_bad {α : Type} (f : α → Out) : lift (.bad : Res α) ρ f = .bad := rf rfl
@[simp] theorem fin_ret (r : RV) : fin (.ret r) = .ok r := rf rfl
@[simp] theorem fin_nx : fin (.nx ρ) = .ok (.shr .non) := rf rfl
@[simp] theorem fin_exc (c : Nat) (p : Option PV) : fin (.exc c p ρ) = .exc c p := rf rfl
@[simp] theorem pv_shr (p : PV) : (RV.shr p).pv = p := rf rfl
@[simp] theorem pv_own (xs : List PV) : (RV.own xs).pv = .lst xs := rf rfl
@[simp] theorem lo_lst (xs : List PV) : lstOf (.lst xs) = .ok xs := rf rfl
def getV : Option Slot → Res PV
  | some (.shr p) => .ok p
  | _ => .bad
def getR : Option Slot → Res PV
  | some (.shr p) => .ok p
  | some (.own xs) => .ok (.lst xs)
  | _ => .bad
def getO : Option Slot → Res (List PV)
  | some (.own xs) => .ok xs
  | _ => .bad
def getC : Option PV → Res PV
  | some p => .ok p
  | none => .bad
@[simp] theorem getV_shr (p : PV) : getV (some (.shr p)) = .ok p := rf rfl
@[simp] theorem getR_shr (p : PV) : getR (some (.shr p)) = .ok p := rf rfl
@[simp] theorem getR_own (p : List PV) : getR (some (.own p)) = .ok (.lst p) := rf rfl
@[simp] theorem getO_own (p : List PV) : getO (some (.own p)) = .ok p := rf rfl
@[simp] theorem getC_some (p : PV) : getC (some p) = .ok p := rf rfl
@[simp] theorem ev_v (i : Nat) : ev φ κ (.v i) ρ = getV ρ[i]? := by
  show (match ρ[i]? with | some (.shr p) => Res.ok p | _ => .bad) = _
  unfold getV
  rfl
@[simp] theorem ev_rd (i : Nat) : ev φ κ (.rd i) ρ = getR ρ[i]? := by
  show (match ρ[i]? with | some (.shr p) => Res.ok p | some (.own xs) => .ok (.lst xs) | _ => .bad) = _
  unfold getR
  rfl
@[simp] theorem ownAt_eq (i : Nat) : ownAt ρ i = getO ρ[i]? := by
  show (match ρ[i]? with | some (.own xs) => Res.ok xs | _ => .bad) = _
  unfold getO
  rfl
@[simp] theorem ev_k (p : PV) : ev φ κ (.k p) ρ = .ok p := rf rfl
@[simp] theorem ev_g (i : Nat) : ev φ κ (.g i) ρ = getC (κ i) := by
  show (match κ i with | some p => Res.ok p | none => .bad) = _
  unfold getC
  rfl
variable (a b c d e es lo hi tg it cn el s ss body suite : C) (i f cls : Nat)
@[simp] theorem ev_bin (op : Bop) : ev φ κ (.bin op a b) ρ = (ev φ κ a ρ).bind fun x => (ev φ κ b ρ).bind fun y => binP op x y := rf rfl
def negP : PV → Res PV
  | .int i => .ok (.int (-i))
  | _ => .bad
@[simp] theorem negP_int (i : Int) : negP (.int i) = .ok (.int (-i)) := rf rfl
@[simp] theorem ev_neg : ev φ κ (.neg a) ρ = (ev φ κ a ρ).bind negP := by
  show ((ev φ κ a ρ).bind fun x => match x with | .int i => Res.ok (PV.int (-i)) | _ => .bad) = _
  congr 1
@[simp] theorem ev_nt : ev φ κ (.nt a) ρ = (ev φ κ a ρ).bind fun x => (truP x).bind fun t => .ok (.bl (!t)) := rf rfl
@[simp] theorem ev_cmp (op : Cop) : ev φ κ (.cmp op a b) ρ = (ev φ κ a ρ).bind fun x => (ev φ κ b ρ).bind fun y => cmpP op x y := rf rfl
def chnP (r : PV) (k : Unit → Res PV) : Res PV := match r with
  | .bl true => k ()
  | .bl false => .ok (.bl false)
  | _ => .bad
@[simp] theorem chnP_bl (t : Bool) (k : Unit → Res PV) : chnP (.bl t) k = if t then k () else .ok (.bl false) := by cases t <;> rfl
@[simp] theorem ev_chn (op op' : Cop) : ev φ κ (.chn op op' a b c) ρ = (ev φ κ a ρ).bind fun x => (ev φ κ b ρ).bind fun y => (cmpP op x y).bind fun r => chnP r fun _ => (ev φ κ c ρ).bind fun z => cmpP op' y z := by
  show ((ev φ κ a ρ).bind fun x => (ev φ κ b ρ).bind fun y => (cmpP op x y).bind fun r => match r with
    | .bl true => (ev φ κ c ρ).bind fun z => cmpP op' y z
    | .bl false => .ok (.bl false)
    | _ => .bad) = _
  congr 1
@[simp] theorem ev_an : ev φ κ (.an a b) ρ = (ev φ κ a ρ).bind fun x => (truP x).bind fun t => if t then ev φ κ b ρ else .ok x := rf rfl
@[simp] theorem ev_or : ev φ κ (.or a b) ρ = (ev φ κ a ρ).bind fun x => (truP x).bind fun t => if t then .ok x else ev φ κ b ρ := rf rfl
@[simp] theorem ev_ife : ev φ κ (.ife c a b) ρ = (ev φ κ c ρ).bind fun x => (truP x).bind fun t => if t then ev φ κ a ρ else ev φ κ b ρ := rf rfl
@[simp] theorem ev_tup : ev φ κ (.tup es) ρ = (ev φ κ es ρ).bind fun l => (lstOf l).bind fun xs => .ok (.tup xs) := rf rfl
@[simp] theorem ev_dsp : ev φ κ (.dsp es) ρ = (ev φ κ es ρ).bind fun l => (lstOf l).bind fun xs => .ok (.lst xs) := rf rfl
@[simp] theorem ev_nil : ev φ κ .nil ρ = .ok (.lst []) := rf rfl
@[simp] theorem ev_cons : ev φ κ (.cons a b) ρ = (ev φ κ a ρ).bind fun x => (ev φ κ b ρ).bind fun l => (lstOf l).bind fun xs => .ok (.lst (x :: xs)) := rf rfl
@[simp] theorem ev_ix : ev φ κ (.ix a b) ρ = (ev φ κ a ρ).bind fun x => (ev φ κ b ρ).bind fun y => ixP x y := rf rfl
@[simp] theorem ev_sl : ev φ κ (.sl a lo hi) ρ = (ev φ κ a ρ).bind fun x => (partC lo (ev φ κ lo ρ)).bind fun l => (partC hi (ev φ κ hi ρ)).bind fun h => slV x l h := rf rfl
@[simp] theorem part_nop (r : Res PV) : partC .nop r = .ok none := rf rfl
@[simp] theorem part_k (p : PV) (r : Res PV) : partC (.k p) r = r.bind intP := rf rfl
@[simp] theorem part_v (i : Nat) (r : Res PV) : partC (.v i) r = r.bind intP := rf rfl
@[simp] theorem part_bin (op : Bop) (r : Res PV) : partC (.bin op a b) r = r.bind intP := rf rfl
@[simp] theorem part_neg (r : Res PV) : partC (.neg a) r = r.bind intP := rf rfl
@[simp] theorem intP_int (i : Int) : intP (.int i) = .ok (some i) := rf rfl
@[simp] theorem ev_tl : ev φ κ (.tl a) ρ = (ev φ κ a ρ).bind tlP := rf rfl
@[simp] theorem tlP_tup (xs : List PV) : tlP (.tup xs) = .ok (.tup xs.tail.reverse) := rf rfl
@[simp] theorem ev_mt (m : Mt) : ev φ κ (.mt m a b) ρ = (ev φ κ a ρ).bind fun x => (strR x).bind fun x => (ev φ κ b ρ).bind fun y => mtP m x y := rf rfl
@[simp] theorem ev_pick (kvs : List (Int × List Nat)) : ev φ κ (.pick kvs e) ρ = (ev φ κ e ρ).bind fun x => pickP kvs x := rf rfl
@[simp] theorem strR_str (x : List Nat) : strR (.str x) = .ok (.str x) := rf rfl
@[simp] theorem ev_call : ev φ κ (.call f es) ρ = (ev φ κ es ρ).bind fun l => (lstOf l).bind fun xs => (φ f xs).bind fun r => .ok r.pv := rf rfl
@[simp] theorem ev_bi (t : Bi) : ev φ κ (.bi t es) ρ = (ev φ κ es ρ).bind fun l => (lstOf l).bind fun xs => biP t xs := rf rfl
@[simp] theorem ev_isi (t : Ty) : ev φ κ (.isi t e) ρ = (ev φ κ e ρ).bind fun x => .ok (.bl (isiP t x)) := rf rfl
def stepC (φ : Fns) (κ : Cons) (vs : List Nat) (tg cn el : C) (ρ : List Slot) (x : PV) : Res (Option PV) := (asgP tg x (wipeS ρ vs)).bind fun ρ' => (ev φ κ cn ρ').bind fun c => (truP c).bind fun t => if t then (ev φ κ el ρ').bind fun y => .ok (some y) else .ok none
@[simp] theorem ev_comp (vs : List Nat) : ev φ κ (.comp vs tg it cn el) ρ = (ev φ κ it ρ).bind fun l => (lstOf l).bind fun xs => (compL (stepC φ κ vs tg cn el ρ) xs).bind fun ys => .ok (.lst ys) := rf rfl
@[simp] theorem ev_seq : ev φ κ (.seq e) ρ = (ev φ κ e ρ).bind itemsP := rf rfl
@[simp] theorem ev_rng1 : ev φ κ (.rng1 a) ρ = (ev φ κ a ρ).bind fun x => rngP (.int 0) x := rf rfl
@[simp] theorem ev_rng2 : ev φ κ (.rng2 a b) ρ = (ev φ κ a ρ).bind fun x => (ev φ κ b ρ).bind fun y => rngP x y := rf rfl
@[simp] theorem ev_rng3 : ev φ κ (.rng3 a b c) ρ = (ev φ κ a ρ).bind fun x => (ev φ κ b ρ).bind fun y => (ev φ κ c ρ).bind fun z => rng3P x y z := rf rfl
@[simp] theorem ev_enu : ev φ κ (.enu e) ρ = (ev φ κ e ρ).bind enuP := rf rfl
@[simp] theorem ev_zip : ev φ κ (.zip a b) ρ = (ev φ κ a ρ).bind fun x => (ev φ κ b ρ).bind fun y => zipP x y := rf rfl
@[simp] theorem it_tup (xs : List PV) : itemsP (.tup xs) = .ok (.lst xs) := rf rfl
@[simp] theorem it_lst (xs : List PV) : itemsP (.lst xs) = .ok (.lst xs) := rf rfl
@[simp] theorem it_str (x : List Nat) : itemsP (.str x) = .ok (.lst (x.map fun c => .str [c])) := rf rfl
/-! statements -/
@[simp] theorem es_set : evS φ κ cx wf (.sset i e) ρ = lift (ev φ κ e ρ) ρ fun p => .nx (ρ.set i (.shr p)) := rf rfl
def ownR (i : Nat) (ρ : List Slot) : RV → Out
  | .own ys => .nx (ρ.set i (.own ys))
  | .shr _ => .bad
@[simp] theorem ownR_own (ys : List PV) : ownR i ρ (.own ys) = .nx (ρ.set i (.own ys)) := rf rfl
@[simp] theorem es_ownc : evS φ κ cx wf (.sown i (.call f es)) ρ = lift ((ev φ κ es ρ).bind lstOf) ρ fun xs => lift (φ f xs) ρ (ownR i ρ) := by
  show (lift ((ev φ κ es ρ).bind lstOf) ρ fun xs => lift (φ f xs) ρ fun r => match r with
    | .own ys => .nx (ρ.set i (.own ys))
    | .shr _ => .bad) = _
  congr 1
@[simp] theorem es_ownd : evS φ κ cx wf (.sown i (.dsp es)) ρ = lift ((ev φ κ (.dsp es) ρ).bind lstOf) ρ fun xs => .nx (ρ.set i (.own xs)) := rf rfl
@[simp] theorem es_ownl (vs : List Nat) : evS φ κ cx wf (.sown i (.comp vs tg it cn el)) ρ = lift ((ev φ κ (.comp vs tg it cn el) ρ).bind lstOf) ρ fun xs => .nx (ρ.set i (.own xs)) := rf rfl
@[simp] theorem es_ownb (op : Bop) : evS φ κ cx wf (.sown i (.bin op a b)) ρ = lift ((ev φ κ (.bin op a b) ρ).bind lstOf) ρ fun xs => .nx (ρ.set i (.own xs)) := rf rfl
@[simp] theorem es_owns : evS φ κ cx wf (.sown i (.sl a lo hi)) ρ = lift ((ev φ κ (.sl a lo hi) ρ).bind lstOf) ρ fun xs => .nx (ρ.set i (.own xs)) := rf rfl
@[simp] theorem es_owni (t : Bi) : evS φ κ cx wf (.sown i (.bi t es)) ρ = lift ((ev φ κ (.bi t es) ρ).bind lstOf) ρ fun xs => .nx (ρ.set i (.own xs)) := rf rfl
@[simp] theorem es_asg : evS φ κ cx wf (.sasg tg e) ρ = lift (ev φ κ e ρ) ρ fun p => lift (asgP tg p ρ) ρ fun ρ' => .nx ρ' := rf rfl
@[simp] theorem es_app : evS φ κ cx wf (.sapp i e) ρ = lift (ownAt ρ i) ρ fun xs => lift (ev φ κ e ρ) ρ fun p => if fits (xs.length + 1) then .nx (ρ.set i (.own (xs ++ [p]))) else .bad := rf rfl
@[simp] theorem es_ext : evS φ κ cx wf (.sext i e) ρ = lift (ownAt ρ i) ρ fun xs => lift ((ev φ κ e ρ).bind lstOf) ρ fun ys => if fits (xs.length + ys.length) then .nx (ρ.set i (.own (xs ++ ys))) else .bad := rf rfl
def putP (i : Nat) (ρ : List Slot) (xs : List PV) (p : PV) : PV → Out
  | .int n => (match ixN xs.length n with | some m => .nx (ρ.set i (.own (xs.set m p))) | none => .bad)
  | _ => .bad
@[simp] theorem es_put : evS φ κ cx wf (.sput i a e) ρ = lift (ev φ κ e ρ) ρ fun p => lift (ownAt ρ i) ρ fun xs => lift (ev φ κ a ρ) ρ (putP i ρ xs p) := by
  show (lift (ev φ κ e ρ) ρ fun p => lift (ownAt ρ i) ρ fun xs => lift (ev φ κ a ρ) ρ fun j => match j with
    | .int n => (match ixN xs.length n with | some m => .nx (ρ.set i (.own (xs.set m p))) | none => .bad)
    | _ => .bad) = _
  congr 1
@[simp] theorem es_aux (op : Bop) : evS φ κ cx wf (.saux i a op e) ρ = lift (ownAt ρ i) ρ fun xs => lift (ev φ κ a ρ) ρ fun j => lift (ixP (.lst xs) j) ρ fun x => lift (ev φ κ e ρ) ρ fun y => lift (augP op x y) ρ fun p => putP i ρ xs p j := by
  show (lift (ownAt ρ i) ρ fun xs => lift (ev φ κ a ρ) ρ fun j => lift (ixP (.lst xs) j) ρ fun x => lift (ev φ κ e ρ) ρ fun y => lift (augP op x y) ρ fun p => match j with
    | .int n => (match ixN xs.length n with | some m => .nx (ρ.set i (.own (xs.set m p))) | none => .bad)
    | _ => .bad) = _
  congr 1
@[simp] theorem es_aug (op : Bop) : evS φ κ cx wf (.saug i op e) ρ = lift (ev φ κ (.v i) ρ) ρ fun x => lift (ev φ κ e ρ) ρ fun y => lift (augP op x y) ρ fun p => .nx (ρ.set i (.shr p)) := rf rfl
@[simp] theorem es_exp : evS φ κ cx wf (.sexp e) ρ = lift (ev φ κ e ρ) ρ fun _ => .nx ρ := rf rfl
@[simp] theorem es_if : evS φ κ cx wf (.sif c a b) ρ = lift ((ev φ κ c ρ).bind truP) ρ fun t => if t then evS φ κ cx wf a ρ else evS φ κ cx wf b ρ := rf rfl
def stepF (φ : Fns) (κ : Cons) (cx : Nat → Nat → Bool) (wf : Nat) (tg body : C) (x : PV) (ρ : List Slot) : Out := lift (asgP tg x ρ) ρ fun ρ'' => evS φ κ cx wf body ρ''
@[simp] theorem es_for : evS φ κ cx wf (.sfor tg it body) ρ = lift ((ev φ κ it ρ).bind lstOf) ρ fun xs => forL (stepF φ κ cx wf tg body) xs ρ := rf rfl
@[simp] theorem es_wh : evS φ κ cx wf (.swh c body) ρ = whL (fun ρ' => (ev φ κ c ρ').bind truP) (fun ρ' => evS φ κ cx wf body ρ') wf ρ := rf rfl
@[simp] theorem es_ret : evS φ κ cx wf (.sret e) ρ = lift (ev φ κ e ρ) ρ fun p => .ret (.shr p) := rf rfl
@[simp] theorem es_reo : evS φ κ cx wf (.sreo i) ρ = lift (ownAt ρ i) ρ fun xs => .ret (.own xs) := rf rfl
@[simp] theorem es_ref : evS φ κ cx wf (.sref e) ρ = lift ((ev φ κ e ρ).bind lstOf) ρ fun xs => .ret (.own xs) := rf rfl
@[simp] theorem es_rai : evS φ κ cx wf (.srai i .nil) ρ = .exc i none ρ := rf rfl
def tryP (cx : Nat → Nat → Bool) (hs : C) : Out → Out
  | .exc c p ρ' => handX cx c p hs ρ'
  | o => o
@[simp] theorem tryP_exc (hs : C) (j : Nat) (p : Option PV) : tryP cx hs (.exc j p ρ) = handX cx j p hs ρ := rf rfl
@[simp] theorem tryP_nx (hs : C) : tryP cx hs (.nx ρ) = .nx ρ := rf rfl
@[simp] theorem tryP_ret (hs : C) (r : RV) : tryP cx hs (.ret r) = .ret r := rf rfl
@[simp] theorem hand_hn (j : Nat) (p : Option PV) : handX cx j p .hn ρ = .exc j p ρ := rf rfl
@[simp] theorem hand_hc (j : Nat) (p : Option PV) (oi : Option Nat) (r : C) : handX cx j p (.hc cls oi s r) ρ = if cx j cls then suiteX cx j p oi s ρ else handX cx j p r ρ := rf rfl
@[simp] theorem suX (j : Nat) (p : Option PV) (oi : Option Nat) : suiteX cx j p oi s ρ = if okI' oi ρ.length then suite0 cx j p oi s ρ else .bad := rf rfl
@[simp] theorem okI_n (m : Nat) : okI' none m = true := rf rfl
@[simp] theorem okI_s (m k : Nat) : okI' (some k) m = Nat.blt k m := rf rfl
@[simp] theorem es_try (hs : C) : evS φ κ cx wf (.stry body hs) ρ = tryP cx hs (evS φ κ cx wf body ρ) := by
  show (match evS φ κ cx wf body ρ with
    | .exc c p ρ' => handX cx c p hs ρ'
    | o => o) = _
  cases evS φ κ cx wf body ρ <;> rfl
def popP (i : Nat) (ρ : List Slot) (xs : List PV) : PV → Out
  | .int n => (match ixN xs.length n with | some m => if smallI n then .nx (ρ.set i (.own (xs.eraseIdx m))) else .bad | none => .bad)
  | _ => .bad
@[simp] theorem es_pop : evS φ κ cx wf (.spop i e) ρ = lift (ownAt ρ i) ρ fun xs => lift (ev φ κ e ρ) ρ (popP i ρ xs) := by
  show (lift (ownAt ρ i) ρ fun xs => lift (ev φ κ e ρ) ρ fun j => match j with
    | .int n => (match ixN xs.length n with | some m => if smallI n then .nx (ρ.set i (.own (xs.eraseIdx m))) else .bad | none => .bad)
    | _ => .bad) = _
  congr 1
def frzP (i : Nat) (ρ : List Slot) : Option Slot → Out
  | some (.own xs) => .nx (ρ.set i (.shr (.lst xs)))
  | some (.shr p) => .nx ρ
  | _ => .bad
@[simp] theorem frz_own (xs : List PV) : frzP i ρ (some (.own xs)) = .nx (ρ.set i (.shr (.lst xs))) := rf rfl
@[simp] theorem frz_shr (p : PV) : frzP i ρ (some (.shr p)) = .nx ρ := rf rfl
@[simp] theorem es_frz : evS φ κ cx wf (.sfrz i) ρ = frzP i ρ ρ[i]? := by
  show (match ρ[i]? with
    | some (.own xs) => Out.nx (ρ.set i (.shr (.lst xs)))
    | some (.shr p) => .nx ρ
    | _ => .bad) = _
  unfold frzP
  rfl
@[simp] theorem es_brk : evS φ κ cx wf .sbrk ρ = .bk ρ := rf rfl
@[simp] theorem es_cnt : evS φ κ cx wf .scnt ρ = .ct ρ := rf rfl
@[simp] theorem es_nil : evS φ κ cx wf .snil ρ = .nx ρ := rf rfl
def seqP (o : Out) (k : List Slot → Out) : Out := match o with
  | .nx ρ' => k ρ'
  | o => o
@[simp] theorem seq_nx (k : List Slot → Out) : seqP (.nx ρ) k = k ρ := rf rfl
@[simp] theorem seq_ret (r : RV) (k : List Slot → Out) : seqP (.ret r) k = .ret r := rf rfl
@[simp] theorem seq_exc (j : Nat) (p : Option PV) (k : List Slot → Out) : seqP (.exc j p ρ) k = .exc j p ρ := rf rfl
@[simp] theorem seq_bk (k : List Slot → Out) : seqP (.bk ρ) k = .bk ρ := rf rfl
@[simp] theorem seq_ct (k : List Slot → Out) : seqP (.ct ρ) k = .ct ρ := rf rfl
@[simp] theorem seq_bad (k : List Slot → Out) : seqP .bad k = .bad := rf rfl
@[simp] theorem seq_ite (b : Bool) (o o' : Out) (k : List Slot → Out) : seqP (if b then o else o') k = if b then seqP o k else seqP o' k := by cases b <;> rfl
@[simp] theorem es_cons : evS φ κ cx wf (.scons s ss) ρ = seqP (evS φ κ cx wf s ρ) fun ρ' => evS φ κ cx wf ss ρ' := by
  show (match evS φ κ cx wf s ρ with
    | .nx ρ' => evS φ κ cx wf ss ρ'
    | o => o) = _
  cases evS φ κ cx wf s ρ <;> rfl
theorem seq_step {ρ' : List Slot} {R : Res RV} (h1 : evS φ κ cx wf s ρ = .nx ρ') (h2 : fin (evS φ κ cx wf ss ρ') = R) : fin (evS φ κ cx wf (.scons s ss) ρ) = R := by
  rw [es_cons, h1]
  exact h2
theorem seq_out {o : Out} (h1 : evS φ κ cx wf s ρ = o) (h2 : ∀ r, o ≠ .nx r) : evS φ κ cx wf (.scons s ss) ρ = o := by
  rw [es_cons, h1]
  cases o with
  | nx r => exact absurd rfl (h2 r)
  | _ => rfl
/-! loops -/
def nextP (o : Out) (k : List Slot → Out) : Out := match o with
  | .nx ρ' => k ρ'
  | .ct ρ' => k ρ'
  | .bk ρ' => .nx ρ'
  | o => o
@[simp] theorem next_nx (k : List Slot → Out) : nextP (.nx ρ) k = k ρ := rf rfl
@[simp] theorem next_ct (k : List Slot → Out) : nextP (.ct ρ) k = k ρ := rf rfl
@[simp] theorem next_bk (k : List Slot → Out) : nextP (.bk ρ) k = .nx ρ := rf rfl
@[simp] theorem next_ret (r : RV) (k : List Slot → Out) : nextP (.ret r) k = .ret r := rf rfl
@[simp] theorem next_exc (j : Nat) (p : Option PV) (k : List Slot → Out) : nextP (.exc j p ρ) k = .exc j p ρ := rf rfl
@[simp] theorem forL_nil (g : PV → List Slot → Out) : forL g [] ρ = .nx ρ := rf rfl
theorem forL_cons (g : PV → List Slot → Out) (x : PV) (xs : List PV) : forL g (x :: xs) ρ = nextP (g x ρ) (forL g xs) := by
  show (match g x ρ with
    | .nx ρ' => forL g xs ρ'
    | .ct ρ' => forL g xs ρ'
    | .bk ρ' => .nx ρ'
    | o => o) = _
  cases g x ρ <;> rfl
theorem forL_app (g : PV → List Slot → Out) (xs ys : List PV) (ρ' : List Slot) (h : forL g xs ρ = .nx ρ') (hb : ∀ x ∈ xs, ∀ r r', g x r ≠ .bk r') : forL g (xs ++ ys) ρ = forL g ys ρ' := by
  induction xs generalizing ρ with
  | nil => cases h; rfl
  | cons x xs ih =>
    rw [List.cons_append, forL_cons]
    rw [forL_cons] at h
    cases e : g x ρ with
    | nx r =>
      rw [e] at h
      exact ih h fun y hy => hb y (List.mem_cons_of_mem _ hy)
    | ct r =>
      rw [e] at h
      exact ih h fun y hy => hb y (List.mem_cons_of_mem _ hy)
    | bk r => exact absurd e (hb x (List.mem_cons_self ..) ρ r)
    | _ => rw [e] at h; cases h
theorem compL_fm {g : PV → Res (Option PV)} {m : PV → Option PV} : ∀ {xs : List PV}, (∀ x ∈ xs, g x = .ok (m x)) → compL g xs = .ok (xs.filterMap m)
  | [], _ => rfl
  | x :: xs, h => by
    unfold compL
    rw [h x (List.mem_cons_self ..), List.filterMap_cons, compL_fm fun y hy => h y (List.mem_cons_of_mem _ hy)]
    cases m x <;> rfl
theorem compL_map {g : PV → Res (Option PV)} {m : PV → PV} {xs : List PV} (h : ∀ x ∈ xs, g x = .ok (some (m x))) : compL g xs = .ok (xs.map m) := by
  rw [compL_fm (m := fun x => some (m x)) h]
  congr 1
  induction xs with
  | nil => rfl
  | cons x xs ih => rw [List.filterMap_cons, List.map_cons, ih fun y hy => h y (List.mem_cons_of_mem _ hy)]
theorem compL_of {α : Type} {g : PV → Res (Option PV)} {em : α → PV} {m : α → PV} {xs : List α} (h : ∀ x ∈ xs, g (em x) = .ok (some (m x))) : compL g (xs.map em) = .ok (xs.map m) := by
  induction xs with
  | nil => rfl
  | cons x xs ih =>
    rw [List.map_cons]
    unfold compL
    rw [h x (List.mem_cons_self ..), ih fun y hy => h y (List.mem_cons_of_mem _ hy)]
    rfl
theorem upL_eq (a : Int) (n : Nat) : upL a n = (List.range n).map fun (k : Nat) => PV.int (a + (k : Int)) := by
  induction n generalizing a with
  | zero => rfl
  | succ n ih =>
    rw [List.range_succ_eq_map, List.map_cons, List.map_map]
    show PV.int a :: upL (a + 1) n = _
    rw [ih]
    congr 1
    · simp
    · apply List.map_congr_left
      intro k _
      show PV.int (a + 1 + k) = PV.int (a + (k + 1 : Nat))
      congr 1
      omega
/-! asking -/
@[simp] theorem asg_tn (p : PV) : asgP (.tn i) p ρ = .ok (ρ.set i (.shr p)) := rf rfl
@[simp] theorem asg_tt (xs : List PV) : asgP (.tt a) (.tup xs) ρ = asgP a (.tup xs) ρ := rf rfl
@[simp] theorem asg_ttl (xs : List PV) : asgP (.tt a) (.lst xs) ρ = asgP a (.tup xs) ρ := rf rfl
@[simp] theorem asg_nil : asgP .nil (.tup []) ρ = .ok ρ := rf rfl
@[simp] theorem asg_cons (x : PV) (xs : List PV) : asgP (.cons a b) (.tup (x :: xs)) ρ = (asgP a x ρ).bind fun ρ' => asgP b (.tup xs) ρ' := rf rfl
@[simp] theorem wipe_nil : wipeS ρ [] = ρ := rf rfl
@[simp] theorem wipe_cons (j : Nat) (r : List Nat) : wipeS ρ (j :: r) = (wipeS ρ r).set j .un := rf rfl
@[simp] theorem tru_bl (t : Bool) : truP (.bl t) = .ok t := rf rfl
@[simp] theorem tru_lst (xs : List PV) : truP (.lst xs) = .ok (!xs.isEmpty) := rf rfl
@[simp] theorem tru_tup (xs : List PV) : truP (.tup xs) = .ok (!xs.isEmpty) := rf rfl
@[simp] theorem tru_int (j : Int) : truP (.int j) = .ok (j != 0) := rf rfl
theorem callN_eq {f : Nat} {TT : Nat → Option FnD} {n : Nat} {ps : List PV} {fd : FnD} (h : TT f = some fd) (hl : ps.length = fd.np) : callN TT κ cx wf (n + 1) f ps = fin (evS (callN TT κ cx wf n) κ cx wf fd.body (startS fd ps)) := by
  show (match TT f with
    | some fd => if Nat.beq ps.length fd.np then fin (evS (callN TT κ cx wf n) κ cx wf fd.body (startS fd ps)) else .bad
    | none => .bad) = _
  rw [h]
  show (if Nat.beq ps.length fd.np = true then _ else _) = _
  rw [if_pos (by rw [hl]; exact Nat.beq_refl _)]
end
mutual
theorem eqP_refl : ∀ (p : PV) (n : Nat), dep p n = true → eqP p p = true
  | .non, _, _ => rfl
  | .bl b, _, _ => beq_self_eq_true b
  | .int i, _, _ => beq_self_eq_true i
  | .str x, _, _ => beq_self_eq_true x
  | .tup xs, n + 1, h => eqL_refl xs n h
  | .lst xs, n + 1, h => eqL_refl xs n h
  | .tup _, 0, h => by cases h
  | .lst _, 0, h => by cases h
  | .scr _, _, h => by cases h
theorem eqL_refl : ∀ (ps : List PV) (n : Nat), depL ps n = true → eqL ps ps = true
  | [], _, _ => rfl
  | p :: ps, n, h => by
    have h' : (dep p n && depL ps n) = true := h
    rw [Bool.and_eq_true] at h'
    show (eqP p p && eqL ps ps) = true
    rw [eqP_refl p n h'.1, eqL_refl ps n h'.2]
    rfl
end
theorem cmp_eq_self {p : PV} (h : dep p 20 = true) : cmpP .eq p p = .ok (.bl true) := by
  show (if (dep p 20 && dep p 20) = true then Res.ok (PV.bl (eqP p p)) else .bad) = _
  rw [h, eqP_refl p 20 h]
  rfl
theorem cmp_ne_self {p : PV} (h : dep p 20 = true) : cmpP .ne p p = .ok (.bl false) := by
  show (if (dep p 20 && dep p 20) = true then Res.ok (PV.bl (!eqP p p)) else .bad) = _
  rw [h, eqP_refl p 20 h]
  rfl
theorem depL_of {ps : List PV} {n : Nat} (h : ∀ p ∈ ps, dep p n = true) : depL ps n = true := by
  induction ps with
  | nil => rfl
  | cons p ps ih =>
    show (dep p n && depL ps n) = true
    rw [h p (List.mem_cons_self ..), ih fun q hq => h q (List.mem_cons_of_mem _ hq)]
    rfl
/-! numbers -/
@[simp] theorem bin_add (a b : Int) : binP .add (.int a) (.int b) = .ok (.int (a + b)) := rf rfl
@[simp] theorem bin_sub (a b : Int) : binP .sub (.int a) (.int b) = .ok (.int (a - b)) := rf rfl
theorem mulOk_r {a b : Int} (h : b.natAbs < 18446744073709551616) : mulOk a b = true := by
  unfold mulOk
  have : Nat.blt b.natAbs 18446744073709551616 = true := Nat.ble_eq_true_of_le h
  rw [this, Bool.or_true, Bool.true_or]
theorem mulOk_l {a b : Int} (h : a.natAbs < 18446744073709551616) : mulOk a b = true := by
  unfold mulOk
  have : Nat.blt a.natAbs 18446744073709551616 = true := Nat.ble_eq_true_of_le h
  rw [this, Bool.true_or, Bool.true_or]
theorem bin_mul_r {a b : Int} (h : b.natAbs < 18446744073709551616) : binP .mul (.int a) (.int b) = .ok (.int (a * b)) := by
  show (if mulOk a b = true then Res.ok (PV.int (a * b)) else .bad) = _
  rw [mulOk_r h]
  rfl
theorem bin_mul_l {a b : Int} (h : a.natAbs < 18446744073709551616) : binP .mul (.int a) (.int b) = .ok (.int (a * b)) := by
  show (if mulOk a b = true then Res.ok (PV.int (a * b)) else .bad) = _
  rw [mulOk_l h]
  rfl
theorem bin_mod {a b : Int} (h : b ≠ 0) : binP .mod (.int a) (.int b) = .ok (.int (a.fmod b)) := by
  show (if decide (b ≠ 0) = true then Res.ok (PV.int (a.fmod b)) else .bad) = _
  rw [decide_eq_true h]
  rfl
theorem bin_fdvL {a b : Int} (h : b ≠ 0) (h2 : b.natAbs.log2 < 9000) : binP .fdv (.int a) (.int b) = .ok (.int (a.fdiv b)) := by
  show (if divOk b = true then Res.ok (PV.int (a.fdiv b)) else .bad) = _
  have : divOk b = true := by
    unfold divOk
    have q : Nat.blt b.natAbs.log2 9000 = true := Nat.ble_eq_true_of_le h2
    rw [decide_eq_true h, q]
    rfl
  rw [this]
  rfl
theorem log2_small {n k : Nat} (h : n < 2 ^ k) (hk : 0 < k) : n.log2 < k := by
  by_cases hn : n = 0
  · subst hn; simpa using hk
  · exact (Nat.log2_lt hn).mpr h
theorem bin_fdv {a b : Int} (h : b ≠ 0) (h2 : b.natAbs < 1073741824) : binP .fdv (.int a) (.int b) = .ok (.int (a.fdiv b)) :=
  bin_fdvL h (Nat.lt_trans (log2_small (k := 30) h2 (by decide)) (by decide))
@[simp] theorem cmp_lt (a b : Int) : cmpP .lt (.int a) (.int b) = .ok (.bl (decide (a < b))) := rf rfl
@[simp] theorem cmp_le (a b : Int) : cmpP .le (.int a) (.int b) = .ok (.bl (decide (a ≤ b))) := rf rfl
@[simp] theorem cmp_gt (a b : Int) : cmpP .gt (.int a) (.int b) = .ok (.bl (decide (b < a))) := rf rfl
@[simp] theorem cmp_ge (a b : Int) : cmpP .ge (.int a) (.int b) = .ok (.bl (decide (b ≤ a))) := rf rfl
@[simp] theorem cmp_eqI (a b : Int) : cmpP .eq (.int a) (.int b) = .ok (.bl (a == b)) := rf rfl
@[simp] theorem cmp_neI (a b : Int) : cmpP .ne (.int a) (.int b) = .ok (.bl (!(a == b))) := rf rfl
@[simp] theorem len_lst (xs : List PV) : biP .len [.lst xs] = .ok (.int xs.length) := rf rfl
@[simp] theorem len_tup (xs : List PV) : biP .len [.tup xs] = .ok (.int xs.length) := rf rfl
@[simp] theorem len_str (xs : List Nat) : biP .len [.str xs] = .ok (.int xs.length) := rf rfl
@[simp] theorem len_scr (xs : List Int) : biP .len [.scr xs] = .ok (.int xs.length) := rf rfl
@[simp] theorem tuple_lst (xs : List PV) : biP .tuple [.lst xs] = .ok (.tup xs) := rf rfl
@[simp] theorem tuple_tup (xs : List PV) : biP .tuple [.tup xs] = .ok (.tup xs) := rf rfl
@[simp] theorem list_lst (xs : List PV) : biP .list [.lst xs] = .ok (.lst xs) := rf rfl
@[simp] theorem int_bl (b : Bool) : biP .int [.bl b] = .ok (.int (if b then 1 else 0)) := rf rfl
theorem fits_of {n : Nat} (h : n ≤ 16777216) : fits n = true := Nat.ble_eq_true_of_le h
theorem rng_of {a b : Int} (h1 : -4611686018427387904 ≤ a) (h2 : a < 4611686018427387904) (h3 : -4611686018427387904 ≤ b) (h4 : b < 4611686018427387904) (h5 : (b - a).toNat ≤ 16777216) : rngP (.int a) (.int b) = .ok (.lst (upL a (b - a).toNat)) := by
  show (if (smallI a && smallI b && fits (b - a).toNat) = true then Res.ok (PV.lst (upL a (b - a).toNat)) else .bad) = _
  have e1 : smallI a = true := by unfold smallI; rw [decide_eq_true (by omega), decide_eq_true (by omega)]; rfl
  have e2 : smallI b = true := by unfold smallI; rw [decide_eq_true (by omega), decide_eq_true (by omega)]; rfl
  rw [e1, e2, fits_of h5]
  rfl
theorem at_nat {α : Type} {xs : List α} {i : Int} {x : α} (h0 : 0 ≤ i) (h : xs[i.toNat]? = some x) : atI xs i = some x := by
  obtain ⟨hl, _⟩ := List.getElem?_eq_some_iff.mp h
  unfold atI ixN
  rw [if_pos h0, if_pos (by omega)]
  exact h
def getI : Option PV → Res PV
  | some p => .ok p
  | none => .bad
@[simp] theorem getI_some (p : PV) : getI (some p) = .ok p := rf rfl
theorem ix_lst (xs : List PV) (i : Int) : ixP (.lst xs) (.int i) = getI (atI xs i) := by
  show (match atI xs i with | some p => Res.ok p | none => .bad) = _
  cases atI xs i <;> rfl
theorem ix_tup (xs : List PV) (i : Int) : ixP (.tup xs) (.int i) = getI (atI xs i) := by
  show (match atI xs i with | some p => Res.ok p | none => .bad) = _
  cases atI xs i <;> rfl
theorem ix_scr (xs : List Int) (i : Int) : ixP (.scr xs) (.int i) = getI ((atI xs i).map PV.int) := by
  show (match atI xs i with | some p => Res.ok (PV.int p) | none => .bad) = _
  cases atI xs i <;> rfl
/-- a list of ints, read at a place -/
theorem ix_ints {r : List Int} {i : Int} (h0 : 0 ≤ i) (h : i.toNat < r.length) : ixP (.lst (r.map PV.int)) (.int i) = .ok (.int (r.getD i.toNat 0)) := by
  rw [ix_lst, at_nat (x := .int (r.getD i.toNat 0)) h0]
  · rfl
  · rw [List.getElem?_map, List.getD_eq_getElem?_getD, List.getElem?_eq_getElem h]
    rfl
end Z
end
section
/-! ### tools for plain laws -/
namespace Z
open L2 (ixN atI)
section
variable {φ : Fns} {κ : Cons} {cx : Nat → Nat → Bool} {wf : Nat} {ρ : List Slot}
theorem seq_nxt {s ss : C} {ρ' : List Slot} (h : evS φ κ cx wf s ρ = .nx ρ') : evS φ κ cx wf (.scons s ss) ρ = evS φ κ cx wf ss ρ' := by
  rw [es_cons, h]
  rfl
/-- a loop as a fold -/
theorem forL_fold {α σ : Type} {g : PV → List Slot → Out} {em : α → PV} {st : σ → List Slot} {f : σ → α → σ} {P : σ → List α → Prop} (h : ∀ s x xs, P s (x :: xs) → g (em x) (st s) = .nx (st (f s x)) ∧ P (f s x) xs) :
    ∀ (xs : List α) (s : σ), P s xs → forL g (xs.map em) (st s) = .nx (st (xs.foldl f s))
  | [], s, _ => rfl
  | x :: xs, s, hp => by
    obtain ⟨h1, h2⟩ := h s x xs hp
    rw [List.map_cons, forL_cons, h1, next_nx, forL_fold h xs (f s x) h2]
    rfl
/-- a loop by an invariant -/
theorem forL_inv {α : Type} {g : PV → List Slot → Out} {em : α → PV} {I : List α → List Slot → Prop} (h : ∀ x xs ρ, I (x :: xs) ρ → ∃ ρ', g (em x) ρ = .nx ρ' ∧ I xs ρ') :
    ∀ (xs : List α) (ρ : List Slot), I xs ρ → ∃ ρ', forL g (xs.map em) ρ = .nx ρ' ∧ I [] ρ'
  | [], ρ, hp => ⟨ρ, rfl, hp⟩
  | x :: xs, ρ, hp => by
    obtain ⟨ρ', h1, h2⟩ := h x xs ρ hp
    obtain ⟨ρ'', h3, h4⟩ := forL_inv h xs ρ' h2
    exact ⟨ρ'', by rw [List.map_cons, forL_cons, h1, next_nx, h3], h4⟩
theorem forL_range {g : PV → List Slot → Out} {I : Nat → List Slot → Prop} {n : Nat} (h : ∀ k ρ, k < n → I k ρ → ∃ ρ', g (.int (k : Int)) ρ = .nx ρ' ∧ I (k + 1) ρ') {ρ : List Slot} (h0 : I 0 ρ) : ∃ ρ', forL g ((List.range n).map fun (k : Nat) => PV.int (k : Int)) ρ = .nx ρ' ∧ I n ρ' := by
  have key : ∀ (m k : Nat) (ρ : List Slot), k + m = n → I k ρ → ∃ ρ', forL g ((List.range' k m).map fun (k : Nat) => PV.int (k : Int)) ρ = .nx ρ' ∧ I n ρ' := by
    intro m
    induction m with
    | zero => intro k ρ e hI; exact ⟨ρ, rfl, by rw [← e]; exact hI⟩
    | succ m ih =>
      intro k ρ e hI
      obtain ⟨ρ', h1, h2⟩ := h k ρ (by omega) hI
      obtain ⟨ρ'', h3, h4⟩ := ih (k + 1) ρ' (by omega) h2
      exact ⟨ρ'', by rw [List.range'_succ, List.map_cons, forL_cons, h1, next_nx, h3], h4⟩
  rw [List.range_eq_range']
  exact key n 0 ρ (by omega) h0
theorem compL_range {g : PV → Res (Option PV)} {m : Nat → PV} {n : Nat} (h : ∀ k, k < n → g (.int (k : Int)) = .ok (some (m k))) : compL g ((List.range n).map fun (k : Nat) => PV.int (k : Int)) = .ok ((List.range n).map m) :=
  compL_of fun k hk => h k (List.mem_range.mp hk)
theorem forL_enu {α : Type} {g : PV → List Slot → Out} {em : α → PV} {I : Nat → List Slot → Prop} (xs : List α) (h : ∀ (k : Nat) (hk : k < xs.length) (ρ : List Slot), I k ρ → ∃ ρ', g (.tup [.int (k : Int), em xs[k]]) ρ = .nx ρ' ∧ I (k + 1) ρ') {ρ : List Slot} (h0 : I 0 ρ) : ∃ ρ', forL g (enuL 0 (xs.map em)) ρ = .nx ρ' ∧ I xs.length ρ' := by
  have key : ∀ (m k : Nat) (ρ : List Slot), k + m = xs.length → I k ρ → ∃ ρ', forL g (enuL k ((xs.drop k).map em)) ρ = .nx ρ' ∧ I xs.length ρ' := by
    intro m
    induction m with
    | zero =>
      intro k ρ e hI
      have : xs.drop k = [] := List.drop_eq_nil_of_le (by omega)
      rw [this]
      exact ⟨ρ, rfl, by rw [← e]; exact hI⟩
    | succ m ih =>
      intro k ρ e hI
      have hk : k < xs.length := by omega
      obtain ⟨ρ', h1, h2⟩ := h k hk ρ hI
      obtain ⟨ρ'', h3, h4⟩ := ih (k + 1) ρ' (by omega) h2
      refine ⟨ρ'', ?_, h4⟩
      rw [List.drop_eq_getElem_cons hk, List.map_cons]
      show forL g (.tup [.int (k : Int), em xs[k]] :: enuL (k + 1) ((xs.drop (k + 1)).map em)) ρ = _
      rw [forL_cons, h1, next_nx, h3]
  exact key xs.length 0 ρ (by omega) h0
theorem whL_step {c : List Slot → Res Bool} {g : List Slot → Out} {n : Nat} {ρ ρ' : List Slot} (h : c ρ = .ok true) (h2 : g ρ = .nx ρ') : whL c g (n + 1) ρ = whL c g n ρ' := by
  show (match c ρ with
    | .ok true => (match g ρ with
      | .nx ρ' => whL c g n ρ'
      | .ct ρ' => whL c g n ρ'
      | .bk ρ' => .nx ρ'
      | o => o)
    | .ok false => .nx ρ
    | .exc c p => .exc c p ρ
    | .bad => .bad) = _
  rw [h, h2]
theorem whL_end {c : List Slot → Res Bool} {g : List Slot → Out} {n : Nat} {ρ : List Slot} (h : c ρ = .ok false) : whL c g (n + 1) ρ = .nx ρ := by
  show (match c ρ with
    | .ok true => (match g ρ with
      | .nx ρ' => whL c g n ρ'
      | .ct ρ' => whL c g n ρ'
      | .bk ρ' => .nx ρ'
      | o => o)
    | .ok false => .nx ρ
    | .exc c p => .exc c p ρ
    | .bad => .bad) = _
  rw [h]
end
theorem upL_nat (n : Nat) : upL 0 n = (List.range n).map fun (k : Nat) => PV.int (k : Int) := by
  rw [upL_eq]
  exact List.map_congr_left fun k _ => by rw [Int.zero_add]
theorem upL_at (a n : Nat) : upL (a : Int) n = (List.range' a n).map fun (k : Nat) => PV.int (k : Int) := by
  rw [upL_eq, List.range'_eq_map_range, List.map_map]
  exact List.map_congr_left fun k _ => by
    show PV.int ((a : Int) + (k : Int)) = PV.int ((a + k : Nat) : Int)
    congr 1
theorem rng_nat {n : Nat} (h : n ≤ 16777216) : rngP (.int 0) (.int (n : Int)) = .ok (.lst ((List.range n).map fun (k : Nat) => PV.int (k : Int))) := by
  rw [rng_of (by decide) (by decide) (by omega) (by omega) (by omega)]
  have : ((n : Int) - 0).toNat = n := by omega
  rw [this, upL_nat]
/-- range of a nonnegative int -/
theorem rng_int {i : Int} (h0 : 0 ≤ i) (h : i ≤ 16777216) : rngP (.int 0) (.int i) = .ok (.lst ((List.range i.toNat).map fun (k : Nat) => PV.int (k : Int))) := by
  have e : i = (i.toNat : Int) := by omega
  rw [e, rng_nat (by omega)]
  rfl
theorem compL_enu {α : Type} {g : PV → Res (Option PV)} {em : α → PV} {m : α → Nat → PV} : ∀ (xs : List α) (n : Nat), (∀ (i : Nat) (x : α), x ∈ xs → g (.tup [.int i, em x]) = .ok (some (m x i))) → compL g (enuL n (xs.map em)) = .ok ((xs.zipIdx n).map fun p => m p.1 p.2)
  | [], _, _ => rfl
  | x :: xs, n, h => by
    rw [List.map_cons, List.zipIdx_cons, List.map_cons]
    show compL g (.tup [.int n, em x] :: enuL (n + 1) (xs.map em)) = _
    unfold compL
    rw [h n x (List.mem_cons_self ..), compL_enu xs (n + 1) fun i y hy => h i y (List.mem_cons_of_mem _ hy)]
    rfl
theorem joinL_nil : ∀ ys : List (List Nat), TL.joinL [] ys = ys.flatten
  | [] => rfl
  | [p] => by simp [TL.joinL]
  | p :: q :: r => by
    show p ++ ([] ++ TL.joinL [] (q :: r)) = _
    rw [joinL_nil (q :: r)]
    rfl
theorem strs_map (ys : List (List Nat)) : strsP (ys.map PV.str) = some ys := by
  induction ys with
  | nil => rfl
  | cons y ys ih =>
    show (strsP (ys.map PV.str)).map (y :: ·) = _
    rw [ih]
    rfl
theorem join_ok {ys : List (List Nat)} (h : (ys.map (·.length)).sum ≤ 16777216) : mtP .join (.str []) (.lst (ys.map PV.str)) = .ok (.str ys.flatten) := by
  have e : mtP .join (.str []) (.lst (ys.map PV.str)) = (match strsP (ys.map PV.str) with
    | some zs => if fits ((zs.map List.length).sum + zs.length * ([] : List Nat).length) then Res.ok (PV.str (TL.joinL [] zs)) else .bad
    | none => .bad) := rfl
  rw [e, strs_map]
  show (if fits ((ys.map (·.length)).sum + ys.length * ([] : List Nat).length) = true then Res.ok (PV.str (TL.joinL [] ys)) else .bad) = _
  rw [fits_of (by simpa using h), joinL_nil]
  rfl
theorem at_last {α : Type} {xs : List α} {x : α} : atI (xs ++ [x]) (-1) = some x := by
  unfold atI ixN
  rw [if_neg (by decide), if_pos (by simp; omega)]
  have : ((-1 : Int) + ((xs ++ [x]).length : Nat)).toNat = xs.length := by rw [List.length_append, List.length_singleton]; omega
  rw [this]
  simp
theorem ixN_last {n : Nat} (h : 0 < n) : ixN n (-1) = some (n - 1) := by
  unfold ixN
  rw [if_neg (by decide), if_pos (by omega)]
  congr 1
  omega
theorem ixN_nat {n : Nat} {i : Int} (h0 : 0 ≤ i) (h : i < n) : ixN n i = some i.toNat := by
  unfold ixN
  rw [if_pos h0, if_pos h]
theorem ixN_neg {n : Nat} {i : Int} (h0 : i < 0) (h : -(n : Int) ≤ i) : ixN n i = some (i + n).toNat := by
  unfold ixN
  rw [if_neg (by omega), if_pos h]
@[simp] theorem put_int (i : Nat) (ρ : List Slot) (xs : List PV) (p : PV) {n : Int} {m : Nat} (h : ixN xs.length n = some m) : putP i ρ xs p (.int n) = .nx (ρ.set i (.own (xs.set m p))) := by
  show (match ixN xs.length n with | some m => Out.nx (ρ.set i (.own (xs.set m p))) | none => .bad) = _
  rw [h]
theorem put_last (i : Nat) (ρ : List Slot) (xs : List PV) (x p : PV) : putP i ρ (xs ++ [x]) p (.int (-1)) = .nx (ρ.set i (.own (xs ++ [p]))) := by
  rw [put_int i ρ (xs ++ [x]) p (ixN_last (by simp))]
  congr 3
  simp
theorem at_last2 {α : Type} {xs : List α} {y x : α} : atI (xs ++ [y, x]) (-1) = some x := by
  have : xs ++ [y, x] = (xs ++ [y]) ++ [x] := by simp
  rw [this, at_last]
theorem put_last2 (i : Nat) (ρ : List Slot) (xs : List PV) (y x p : PV) : putP i ρ (xs ++ [y, x]) p (.int (-1)) = .nx (ρ.set i (.own (xs ++ [y, p]))) := by
  have : xs ++ [y, x] = (xs ++ [y]) ++ [x] := by simp
  rw [this, put_last]
  simp
theorem ix_lst0 (x : PV) (xs : List PV) : ixP (.lst (x :: xs)) (.int 0) = .ok x := by
  rw [ix_lst, at_nat (x := x) (by decide) rfl]
  rfl
theorem ix_tup0 (x : PV) (xs : List PV) : ixP (.tup (x :: xs)) (.int 0) = .ok x := by
  rw [ix_tup, at_nat (x := x) (by decide) rfl]
  rfl
theorem mul_str {x : List Nat} {k : Int} (h0 : 0 ≤ k) (h1 : k ≤ 16777216) (h2 : x.length * k.toNat ≤ 16777216) : binP .mul (.str x) (.int k) = .ok (.str (List.replicate k.toNat x).flatten) := by
  show (if (decide (0 ≤ k) && Nat.ble k.toNat 16777216 && fits (x.length * k.toNat)) = true then _ else _) = _
  rw [decide_eq_true h0, fits_of h2, Nat.ble_eq_true_of_le (show k.toNat ≤ 16777216 by omega)]
  rfl
theorem sIx_pos (n d : Nat) {i : Int} (h : 0 ≤ i) : HT.sIx n d (some i) = min i.toNat n := by
  show (if i < 0 then (i + (n : Int)).toNat else min i.toNat n) = _
  rw [if_neg (by omega)]
theorem drop_min {α : Type} (xs : List α) (k : Nat) : xs.drop (min k xs.length) = xs.drop k := by
  by_cases h : k ≤ xs.length
  · rw [Nat.min_eq_left h]
  · rw [Nat.min_eq_right (by omega), List.drop_length, List.drop_eq_nil_of_le (by omega)]
theorem cut_lo {α : Type} (xs : List α) {i : Int} (h : 0 ≤ i) : cutP xs (some i) none = xs.drop i.toNat := by
  unfold cutP
  rw [sIx_pos _ _ h, drop_min]
  show (xs.drop i.toNat).take (xs.length - min i.toNat xs.length) = _
  rw [List.take_of_length_le (by rw [List.length_drop]; omega)]
theorem cut_hi {α : Type} (xs : List α) {i : Int} (h : 0 ≤ i) : cutP xs none (some i) = xs.take i.toNat := by
  unfold cutP
  rw [sIx_pos _ _ h]
  show xs.take (min i.toNat xs.length - 0) = _
  rw [Nat.sub_zero]
  by_cases hh : i.toNat ≤ xs.length
  · rw [Nat.min_eq_left hh]
  · rw [Nat.min_eq_right (by omega), List.take_length, List.take_of_length_le (by omega)]
theorem cut_both {α : Type} (xs : List α) {i j : Int} (h : 0 ≤ i) (hj : 0 ≤ j) : cutP xs (some i) (some j) = (xs.drop i.toNat).take (j.toNat - i.toNat) := by
  unfold cutP
  rw [sIx_pos _ _ h, sIx_pos _ _ hj, drop_min]
  by_cases h1 : j.toNat ≤ xs.length
  · rw [Nat.min_eq_left h1]
    by_cases h2 : i.toNat ≤ xs.length
    · rw [Nat.min_eq_left h2]
    · rw [List.drop_eq_nil_of_le (by omega), List.take_nil, List.take_nil]
  · rw [Nat.min_eq_right (by omega), List.take_of_length_le (by rw [List.length_drop]; omega), List.take_of_length_le (by rw [List.length_drop]; omega)]
@[simp] theorem slV_lst (xs : List PV) (l h : Option Int) : slV (.lst xs) l h = .ok (.lst (cutP xs l h)) := rf rfl
@[simp] theorem slV_tup (xs : List PV) (l h : Option Int) : slV (.tup xs) l h = .ok (.tup (cutP xs l h)) := rf rfl
@[simp] theorem slV_str (xs : List Nat) (l h : Option Int) : slV (.str xs) l h = .ok (.str (cutP xs l h)) := rf rfl
theorem ix_str (xs : List Nat) (i : Int) {c : Nat} (h : atI xs i = some c) : ixP (.str xs) (.int i) = .ok (.str [c]) := by
  show (match atI xs i with | some c => Res.ok (PV.str [c]) | none => .bad) = _
  rw [h]
@[simp] theorem aug_int (op : Bop) (a b : Int) : augP op (.int a) (.int b) = binP op (.int a) (.int b) := rf rfl
@[simp] theorem tru_str (xs : List Nat) : truP (.str xs) = .ok (!xs.isEmpty) := rf rfl
@[simp] theorem tru_non : truP .non = .ok false := rf rfl
theorem depL_ints (xs : List Int) (n : Nat) : depL (xs.map PV.int) n = true := depL_of fun p hp => by
  obtain ⟨i, _, rfl⟩ := List.mem_map.mp hp
  cases n <;> rfl
theorem depL_map {α : Type} {em : α → PV} {n : Nat} {xs : List α} (h : ∀ x ∈ xs, dep (em x) n = true) : depL (xs.map em) n = true := depL_of fun p hp => by
  obtain ⟨i, hi, rfl⟩ := List.mem_map.mp hp
  exact h i hi
@[simp] theorem enuP_lst (xs : List PV) : enuP (.lst xs) = .ok (.lst (enuL 0 xs)) := rf rfl
@[simp] theorem enuP_tup (xs : List PV) : enuP (.tup xs) = .ok (.lst (enuL 0 xs)) := rf rfl
@[simp] theorem list_tup (xs : List PV) : biP .list [.tup xs] = .ok (.lst xs) := rf rfl
theorem ix_ex {xs : List PV} {v : Int} (h0 : 0 ≤ v) (h : v < xs.length) : ∃ o ∈ xs, ixP (.lst xs) (.int v) = .ok o := by
  have hl : v.toNat < xs.length := by omega
  refine ⟨xs[v.toNat], List.getElem_mem hl, ?_⟩
  rw [ix_lst, at_nat h0 (List.getElem?_eq_getElem hl)]
  rfl
theorem bin_addL {a b : List PV} (h : a.length + b.length ≤ 16777216) : binP .add (.lst a) (.lst b) = .ok (.lst (a ++ b)) := by
  show (if fits (a.length + b.length) = true then _ else _) = _
  rw [fits_of h]
  rfl
theorem bin_addT {a b : List PV} (h : a.length + b.length ≤ 16777216) : binP .add (.tup a) (.tup b) = .ok (.tup (a ++ b)) := by
  show (if fits (a.length + b.length) = true then _ else _) = _
  rw [fits_of h]
  rfl
theorem bin_addS {a b : List Nat} (h : a.length + b.length ≤ 16777216) : binP .add (.str a) (.str b) = .ok (.str (a ++ b)) := by
  show (if fits (a.length + b.length) = true then _ else _) = _
  rw [fits_of h]
  rfl
theorem ret_ix {xs : List PV} {v : Int} {ρ : List Slot} {k : List Slot → Out} (h0 : 0 ≤ v) (h : v < xs.length) : ∃ o, fin (seqP (lift (ixP (.lst xs) (.int v)) ρ fun p => .ret (.shr p)) k) = .ok (.shr o) := by
  obtain ⟨o, _, e⟩ := ix_ex h0 h
  exact ⟨o, by rw [e]; rfl⟩
@[simp] theorem mt_cnt (x : List Nat) (c : Nat) : mtP .count (.str x) (.str [c]) = .ok (.int (cntP c x)) := rf rfl
@[simp] theorem isi_int_non : isiP .int .non = false := rf rfl
@[simp] theorem isi_int_bl (b : Bool) : isiP .int (.bl b) = true := rf rfl
@[simp] theorem isi_int_int (b : Int) : isiP .int (.int b) = true := rf rfl
@[simp] theorem isi_int_str (b : List Nat) : isiP .int (.str b) = false := rf rfl
@[simp] theorem isi_int_tup (b : List PV) : isiP .int (.tup b) = false := rf rfl
@[simp] theorem isi_int_lst (b : List PV) : isiP .int (.lst b) = false := rf rfl
@[simp] theorem isi_int_scr (b : List Int) : isiP .int (.scr b) = false := rf rfl
@[simp] theorem isi_bool_non : isiP .bool .non = false := rf rfl
@[simp] theorem isi_bool_bl (b : Bool) : isiP .bool (.bl b) = true := rf rfl
@[simp] theorem isi_bool_int (b : Int) : isiP .bool (.int b) = false := rf rfl
@[simp] theorem isi_bool_str (b : List Nat) : isiP .bool (.str b) = false := rf rfl
@[simp] theorem isi_bool_tup (b : List PV) : isiP .bool (.tup b) = false := rf rfl
@[simp] theorem isi_bool_lst (b : List PV) : isiP .bool (.lst b) = false := rf rfl
@[simp] theorem isi_bool_scr (b : List Int) : isiP .bool (.scr b) = false := rf rfl
@[simp] theorem isi_str_non : isiP .str .non = false := rf rfl
@[simp] theorem isi_str_bl (b : Bool) : isiP .str (.bl b) = false := rf rfl
@[simp] theorem isi_str_int (b : Int) : isiP .str (.int b) = false := rf rfl
@[simp] theorem isi_str_str (b : List Nat) : isiP .str (.str b) = true := rf rfl
@[simp] theorem isi_str_tup (b : List PV) : isiP .str (.tup b) = false := rf rfl
@[simp] theorem isi_str_lst (b : List PV) : isiP .str (.lst b) = false := rf rfl
@[simp] theorem isi_str_scr (b : List Int) : isiP .str (.scr b) = false := rf rfl
@[simp] theorem isi_tuple_non : isiP .tuple .non = false := rf rfl
@[simp] theorem isi_tuple_bl (b : Bool) : isiP .tuple (.bl b) = false := rf rfl
@[simp] theorem isi_tuple_int (b : Int) : isiP .tuple (.int b) = false := rf rfl
@[simp] theorem isi_tuple_str (b : List Nat) : isiP .tuple (.str b) = false := rf rfl
@[simp] theorem isi_tuple_tup (b : List PV) : isiP .tuple (.tup b) = true := rf rfl
@[simp] theorem isi_tuple_lst (b : List PV) : isiP .tuple (.lst b) = false := rf rfl
@[simp] theorem isi_tuple_scr (b : List Int) : isiP .tuple (.scr b) = false := rf rfl
@[simp] theorem isi_list_non : isiP .list .non = false := rf rfl
@[simp] theorem isi_list_bl (b : Bool) : isiP .list (.bl b) = false := rf rfl
@[simp] theorem isi_list_int (b : Int) : isiP .list (.int b) = false := rf rfl
@[simp] theorem isi_list_str (b : List Nat) : isiP .list (.str b) = false := rf rfl
@[simp] theorem isi_list_tup (b : List PV) : isiP .list (.tup b) = false := rf rfl
@[simp] theorem isi_list_lst (b : List PV) : isiP .list (.lst b) = true := rf rfl
@[simp] theorem isi_list_scr (b : List Int) : isiP .list (.scr b) = true := rf rfl
end Z
end
section
namespace Zd
open Z
def d_law_cell : Z.FnD := ⟨2, 2, (.scons (.sif (.cmp .lt (.v 1) (.bi .len (.cons (.v 0) .nil))) (.scons (.sret (.ix (.v 0) (.v 1))) .snil) .snil) (.scons (.sret (.k (.int 0))) .snil))⟩
def law_row_b1 : Z.C := (.scons (.sif (.cmp .lt (.call 9 (.cons (.v 0) (.cons (.v 1) .nil))) (.bin .pow (.k (.int 10)) (.k (.int 18)))) (.scons (.sset 2 (.bin .mod (.bin .add (.bin .add (.bin .add (.bin .mul (.v 2) (.k (.int 48271))) (.bin .mul (.k (.int 131)) (.v 4))) (.k (.int 7))) (.call 9 (.cons (.v 0) (.cons (.bin .mod (.bin .add (.bin .add (.v 1) (.k (.int 1))) (.v 4)) (.k (.int 20))) .nil)))) (.k (.int 2147483647)))) (.scons (.sapp 3 (.bin .mod (.bin .fdv (.v 2) (.k (.int 11))) (.k (.int 1000)))) .snil)) (.scons (.sapp 3 (.bin .mod (.v 2) (.k (.int 1000)))) (.scons (.sset 2 (.bin .fdv (.v 2) (.k (.int 1000)))) .snil))) .snil)
def d_law_row : Z.FnD := ⟨2, 5, (.scons (.sset 2 (.call 9 (.cons (.v 0) (.cons (.v 1) .nil)))) (.scons (.sown 3 (.dsp .nil)) (.scons (.sfor (.tn 4) (.rng1 (.k (.int 60))) law_row_b1) (.scons (.sreo 3) .snil))))⟩
end Zd
namespace Zp
open Z
section
variable {TT : Nat → Option FnD} {κ : Cons} {cx : Nat → Nat → Bool} {wf : Nat}
/-- the script's cell -/
def cellI (ns : List Int) (k : Int) : Int := if k < ns.length then ns.getD k.toNat 0 else 0
theorem cell_ok (h9 : TT 9 = some Zd.d_law_cell) {n : Nat} {ns : List Int} {k : Int} (hk : 0 ≤ k) : callN TT κ cx wf (n + 1) 9 [.scr ns, .int k] = .ok (.shr (.int (cellI ns k))) := by
  rw [callN_eq h9 rfl]
  unfold Zd.d_law_cell startS cellI
  by_cases h : k < ns.length
  · have e : L2.atI ns k = some (ns.getD k.toNat 0) := at_nat hk (by
      rw [List.getD_eq_getElem?_getD, List.getElem?_eq_getElem (by omega)]; rfl)
    simp [h, ix_scr, e]
  · simp [h]
/-- a row of sixty numbers from 0 to 999 -/
structure IsRow (r : List Int) : Prop where
  len : r.length = 60
  rng : ∀ x ∈ r, 0 ≤ x ∧ x < 1000
theorem pow18 : binP .pow (.int 10) (.int 18) = .ok (.int 1000000000000000000) := rfl
theorem fmod_rng (a : Int) {b : Int} (h : 0 < b) : 0 ≤ a.fmod b ∧ a.fmod b < b := ⟨Int.fmod_nonneg_of_pos _ h, Int.fmod_lt_of_pos _ h⟩
theorem row_ok (h9 : TT 9 = some Zd.d_law_cell) (h11 : TT 11 = some Zd.d_law_row) {n : Nat} {ns : List Int} {at_ : Int} (ha : 0 ≤ at_) : ∃ r, IsRow r ∧ callN TT κ cx wf (n + 2) 11 [.scr ns, .int at_] = .ok (.own (r.map PV.int)) := by
  have step : ∀ (k : Nat) (t cell : Int) (r : List Int) (sl : Slot), 0 ≤ t → r.length + k ≤ 60 → (∀ x ∈ r, 0 ≤ x ∧ x < 1000) → ∃ (cell' : Int) (r' : List Int) (sl' : Slot), r'.length = r.length + k ∧ (∀ x ∈ r', 0 ≤ x ∧ x < 1000) ∧
      forL (stepF (callN TT κ cx wf (n + 1)) κ cx wf (.tn 4) Zd.law_row_b1) (upL t k) [.shr (.scr ns), .shr (.int at_), .shr (.int cell), .own (r.map PV.int), sl] = .nx [.shr (.scr ns), .shr (.int at_), .shr (.int cell'), .own (r'.map PV.int), sl'] := by
    intro k
    induction k with
    | zero => exact fun t cell r sl _ _ hr => ⟨cell, r, sl, rfl, hr, rfl⟩
    | succ k ih =>
      intro t cell r sl ht hl hr
      have hf : fits (r.length + 1) = true := fits_of (by omega)
      have hm : (0 : Int) ≤ (at_ + 1 + t).fmod 20 := (fmod_rng _ (by decide)).1
      have e : ∃ c v, (0 ≤ v ∧ v < 1000) ∧ stepF (callN TT κ cx wf (n + 1)) κ cx wf (.tn 4) Zd.law_row_b1 (.int t) [.shr (.scr ns), .shr (.int at_), .shr (.int cell), .own (r.map PV.int), sl] = .nx [.shr (.scr ns), .shr (.int at_), .shr (.int c), .own (r.map PV.int ++ [.int v]), .shr (.int t)] := by
        by_cases hc : cellI ns at_ < 1000000000000000000
        · refine ⟨(cell * 48271 + 131 * t + 7 + cellI ns ((at_ + 1 + t).fmod 20)).fmod 2147483647, (((cell * 48271 + 131 * t + 7 + cellI ns ((at_ + 1 + t).fmod 20)).fmod 2147483647).fdiv 11).fmod 1000, fmod_rng _ (by decide), ?_⟩
          simp [Zd.law_row_b1, stepF, cell_ok h9 ha, cell_ok h9 hm, pow18, hc, bin_mul_r, bin_mul_l, bin_mod, bin_fdv, hf]
        · refine ⟨cell.fdiv 1000, cell.fmod 1000, fmod_rng _ (by decide), ?_⟩
          simp [Zd.law_row_b1, stepF, cell_ok h9 ha, pow18, hc, bin_mod, bin_fdv, hf]
      obtain ⟨c, v, hv, e⟩ := e
      obtain ⟨c', r', sl', e1, e2, e3⟩ := ih (t + 1) c (r ++ [v]) (.shr (.int t)) (by omega) (by rw [List.length_append, List.length_singleton]; omega) (fun x hx => by
        rw [List.mem_append] at hx
        rcases hx with hx | hx
        · exact hr x hx
        · rw [List.mem_singleton] at hx; subst hx; exact hv)
      refine ⟨c', r', sl', by rw [e1, List.length_append, List.length_singleton]; omega, e2, ?_⟩
      show forL _ (.int t :: upL (t + 1) k) _ = _
      rw [forL_cons, e, next_nx, ← e3, List.map_append]
      rfl
  obtain ⟨c, r, sl, e1, e2, e3⟩ := step 60 0 (cellI ns at_) [] .un (by decide) (by simp) (fun x hx => by cases hx)
  refine ⟨r, ⟨by rw [e1]; rfl, e2⟩, ?_⟩
  rw [callN_eq h11 rfl]
  unfold Zd.d_law_row startS
  have er : rngP (.int 0) (.int 60) = .ok (.lst (upL 0 60)) := rng_of (by decide) (by decide) (by decide) (by decide) (by decide)
  simp only [List.map_nil] at e3
  simp [cell_ok h9 ha, er, e3]
end
end Zp
end
section
namespace Zd
open Z
def d_is_within : Z.FnD := ⟨3, 3, (.scons (.sret (.an (.isi .int (.v 0)) (.an (.nt (.isi .bool (.v 0))) (.chn .le .le (.v 1) (.v 0) (.v 2))))) .snil)⟩
def d_is_point : Z.FnD := ⟨1, 1, (.scons (.sif (.or (.nt (.isi .tuple (.v 0))) (.or (.cmp .ne (.bi .len (.cons (.v 0) .nil)) (.k (.int 3))) (.nt (.call 0 (.cons (.ix (.v 0) (.k (.int 2))) (.cons (.k (.int 0)) (.cons (.k (.int 1)) .nil))))))) (.scons (.sret (.k (.bl false))) .snil) .snil) (.scons (.sret (.an (.call 0 (.cons (.ix (.v 0) (.k (.int 0))) (.cons (.neg (.g 0)) (.cons (.g 0) .nil)))) (.call 0 (.cons (.ix (.v 0) (.k (.int 1))) (.cons (.neg (.g 0)) (.cons (.g 0) .nil)))))) .snil))⟩
def d_is_contour : Z.FnD := ⟨1, 2, (.scons (.sif (.or (.nt (.isi .tuple (.v 0))) (.nt (.chn .le .le (.k (.int 3)) (.bi .len (.cons (.v 0) .nil)) (.g 1)))) (.scons (.sret (.k (.bl false))) .snil) .snil) (.scons (.sret (.nt (.comp [1] (.tn 1) (.seq (.v 0)) (.nt (.call 1 (.cons (.v 1) .nil))) (.v 1)))) .snil))⟩
def d_is_shape : Z.FnD := ⟨1, 2, (.scons (.sif (.or (.nt (.isi .tuple (.v 0))) (.cmp .gt (.bi .len (.cons (.v 0) .nil)) (.g 2))) (.scons (.sret (.k (.bl false))) .snil) .snil) (.scons (.sret (.nt (.comp [1] (.tn 1) (.seq (.v 0)) (.nt (.call 2 (.cons (.v 1) .nil))) (.v 1)))) .snil))⟩
def d_look : Z.FnD := ⟨1, 1, (.scons (.sif (.nt (.call 3 (.cons (.v 0) .nil))) (.scons (.srai 1 .nil) .snil) .snil) .snil)⟩
def d_moved_of : Z.FnD := ⟨3, 7, (.scons (.sret (.bi .tuple (.cons (.comp [3] (.tn 3) (.seq (.v 0)) (.k (.bl true)) (.bi .tuple (.cons (.comp [4, 5, 6] (.tt (.cons (.tn 4) (.cons (.tn 5) (.cons (.tn 6) .nil)))) (.seq (.v 3)) (.k (.bl true)) (.tup (.cons (.bin .add (.v 4) (.v 1)) (.cons (.bin .add (.v 5) (.v 2)) (.cons (.v 6) .nil))))) .nil))) .nil))) .snil)⟩
def d_moved : Z.FnD := ⟨3, 4, (.scons (.sexp (.call 4 (.cons (.v 0) .nil))) (.scons (.sif (.or (.nt (.call 0 (.cons (.v 1) (.cons (.neg (.g 0)) (.cons (.g 0) .nil))))) (.nt (.call 0 (.cons (.v 2) (.cons (.neg (.g 0)) (.cons (.g 0) .nil)))))) (.scons (.srai 2 .nil) .snil) .snil) (.scons (.sset 3 (.call 5 (.cons (.v 0) (.cons (.v 1) (.cons (.v 2) .nil))))) (.scons (.sif (.nt (.call 3 (.cons (.v 3) .nil))) (.scons (.srai 2 .nil) .snil) .snil) (.scons (.sret (.v 3)) .snil)))))⟩
def d_turned : Z.FnD := ⟨1, 2, (.scons (.sexp (.call 4 (.cons (.v 0) .nil))) (.scons (.sret (.bi .tuple (.cons (.comp [1] (.tn 1) (.seq (.v 0)) (.k (.bl true)) (.bin .add (.sl (.v 1) .nop (.k (.int 1))) (.tl (.v 1)))) .nil))) .snil))⟩
def d_mirrored : Z.FnD := ⟨1, 5, (.scons (.sexp (.call 4 (.cons (.v 0) .nil))) (.scons (.sret (.bi .tuple (.cons (.comp [1] (.tn 1) (.seq (.v 0)) (.k (.bl true)) (.bi .tuple (.cons (.comp [2, 3, 4] (.tt (.cons (.tn 2) (.cons (.tn 3) (.cons (.tn 4) .nil)))) (.seq (.v 1)) (.k (.bl true)) (.tup (.cons (.neg (.v 2)) (.cons (.v 3) (.cons (.v 4) .nil))))) .nil))) .nil))) .snil))⟩
end Zd
namespace Zp
open Z
abbrev Pt := Int × Int × Int
def ptP (p : Pt) : PV := .tup [.int p.1, .int p.2.1, .int p.2.2]
def coP (c : List Pt) : PV := .tup (c.map ptP)
def shP (s : List (List Pt)) : PV := .tup (s.map coP)
def inB (i lo hi : Int) : Bool := decide (lo ≤ i) && decide (i ≤ hi)
def okPt (p : Pt) : Bool := inB p.2.2 0 1 && (inB p.1 (-2000) 2000 && inB p.2.1 (-2000) 2000)
def okCo (c : List Pt) : Bool := inB c.length 3 20 && c.all okPt
def okSh (s : List (List Pt)) : Bool := decide (s.length ≤ 8) && s.all okCo
/-- is it a whole number within bounds? -/
def withinP : PV → Int → Int → Bool
  | .int i, lo, hi => inB i lo hi
  | _, _, _ => false
theorem compL_filter {α : Type} {g : PV → Res (Option PV)} {em : α → PV} {p : α → Bool} {xs : List α} (h : ∀ x ∈ xs, g (em x) = .ok (if p x then some (em x) else none)) : compL g (xs.map em) = .ok ((xs.filter p).map em) := by
  induction xs with
  | nil => rfl
  | cons x xs ih =>
    rw [List.map_cons]
    unfold compL
    rw [h x (List.mem_cons_self ..), ih fun y hy => h y (List.mem_cons_of_mem _ hy), List.filter_cons]
    cases p x <;> rfl
theorem filter_none {α : Type} {p : α → Bool} {xs : List α} : (xs.filter fun x => !p x).isEmpty = xs.all p := by
  induction xs with
  | nil => rfl
  | cons x xs ih =>
    rw [List.filter_cons, List.all_cons]
    cases e : p x
    · simp
    · simpa using ih
/-- the tables that these defs ask -/
structure HS (TT : Nat → Option FnD) (κ : Cons) : Prop where
  h0 : TT 0 = some Zd.d_is_within
  h1 : TT 1 = some Zd.d_is_point
  h2 : TT 2 = some Zd.d_is_contour
  h3 : TT 3 = some Zd.d_is_shape
  h4 : TT 4 = some Zd.d_look
  k0 : κ 0 = some (.int 2000)
  k1 : κ 1 = some (.int 20)
  k2 : κ 2 = some (.int 8)
section
variable {TT : Nat → Option FnD} {κ : Cons} {cx : Nat → Nat → Bool} {wf : Nat} {n : Nat}
theorem within_ok (h0 : TT 0 = some Zd.d_is_within) (p : PV) (lo hi : Int) : callN TT κ cx wf (n + 1) 0 [p, .int lo, .int hi] = .ok (.shr (.bl (withinP p lo hi))) := by
  rw [callN_eq h0 rfl]
  unfold Zd.d_is_within startS
  cases p <;> simp [isiP, withinP, inB]
  rename_i i
  by_cases h : lo ≤ i <;> simp [h]
variable (T : HS TT κ)
include T
theorem point_ok (p : Pt) : callN TT κ cx wf (n + 2) 1 [ptP p] = .ok (.shr (.bl (okPt p))) := by
  rw [callN_eq T.h1 rfl]
  obtain ⟨x, y, o⟩ := p
  have i0 : ixP (.tup [.int x, .int y, .int o]) (.int 0) = .ok (.int x) := rfl
  have i1 : ixP (.tup [.int x, .int y, .int o]) (.int 1) = .ok (.int y) := rfl
  have i2 : ixP (.tup [.int x, .int y, .int o]) (.int 2) = .ok (.int o) := rfl
  unfold Zd.d_is_point startS ptP okPt
  cases h : inB o 0 1 <;> simp [isiP, within_ok T.h0, withinP, T.k0, i0, i1, i2, h]
  cases h2 : inB x (-2000) 2000 <;> simp [h2]
theorem contour_ok (c : List Pt) : callN TT κ cx wf (n + 3) 2 [coP c] = .ok (.shr (.bl (okCo c))) := by
  rw [callN_eq T.h2 rfl]
  unfold Zd.d_is_contour startS coP okCo
  have e : ∀ ρ, compL (stepC (callN TT κ cx wf (n + 2)) κ [1] (.tn 1) (.nt (.call 1 (.cons (.v 1) .nil))) (.v 1) [.shr ρ, .un]) (c.map ptP) = .ok ((c.filter fun x => !okPt x).map ptP) := fun ρ => by
    refine compL_filter fun x _ => ?_
    cases h : okPt x <;> simp [stepC, point_ok T, h]
  cases h1 : decide (3 ≤ (c.length : Int)) <;> cases h2 : decide ((c.length : Int) ≤ 20) <;> simp [isiP, T.k1, h1, h2, inB, e, filter_none]
  all_goals simp_all
theorem shape_ok (s : List (List Pt)) : callN TT κ cx wf (n + 4) 3 [shP s] = .ok (.shr (.bl (okSh s))) := by
  rw [callN_eq T.h3 rfl]
  unfold Zd.d_is_shape startS shP okSh
  have e : ∀ ρ, compL (stepC (callN TT κ cx wf (n + 3)) κ [1] (.tn 1) (.nt (.call 2 (.cons (.v 1) .nil))) (.v 1) [.shr ρ, .un]) (s.map coP) = .ok ((s.filter fun x => !okCo x).map coP) := fun ρ => by
    refine compL_filter fun x _ => ?_
    cases h : okCo x <;> simp [stepC, contour_ok T, h]
  by_cases h1 : s.length ≤ 8
  · have h1' : ¬ (8 : Int) < s.length := by omega
    simp [isiP, T.k2, h1, h1', e, filter_none]
  · have h1' : (8 : Int) < s.length := by omega
    simp [isiP, T.k2, h1, h1', e, filter_none]
theorem look_ok {s : List (List Pt)} (h : okSh s = true) : callN TT κ cx wf (n + 5) 4 [shP s] = .ok (.shr .non) := by
  rw [callN_eq T.h4 rfl]
  unfold Zd.d_look startS
  simp [shape_ok T, h]
end
/-! moved, turned, mirrored -/
def mvPt (a u : Int) (p : Pt) : Pt := (p.1 + a, p.2.1 + u, p.2.2)
def mvSh (a u : Int) (s : List (List Pt)) : List (List Pt) := s.map fun c => c.map (mvPt a u)
def miSh (s : List (List Pt)) : List (List Pt) := s.map fun c => c.map fun p => (-p.1, p.2.1, p.2.2)
def tuSh (s : List (List Pt)) : List (List Pt) := s.map fun c => c.take 1 ++ c.tail.reverse
section
variable {TT : Nat → Option FnD} {κ : Cons} {cx : Nat → Nat → Bool} {wf : Nat} {n : Nat}
theorem moved_of_ok (h5 : TT 5 = some Zd.d_moved_of) (s : List (List Pt)) (a u : Int) : callN TT κ cx wf (n + 1) 5 [shP s, .int a, .int u] = .ok (.shr (shP (mvSh a u s))) := by
  rw [callN_eq h5 rfl]
  have e : ∀ (φ : Fns) (ρ : PV) (c : List Pt), compL (stepC φ κ [4, 5, 6] (.tt (.cons (.tn 4) (.cons (.tn 5) (.cons (.tn 6) .nil)))) (.k (.bl true)) (.tup (.cons (.bin .add (.v 4) (.v 1)) (.cons (.bin .add (.v 5) (.v 2)) (.cons (.v 6) .nil)))) [.shr ρ, .shr (.int a), .shr (.int u), .shr (coP c), .un, .un, .un]) (c.map ptP) = .ok (c.map fun x => ptP (mvPt a u x)) := fun φ ρ c => by
    refine compL_of fun x _ => ?_
    obtain ⟨x, y, o⟩ := x
    simp [stepC, ptP, mvPt]
  unfold Zd.d_moved_of startS
  simp only [shP, mvSh]
  have e2 : ∀ (φ : Fns) (ρ : PV), compL (stepC φ κ [3] (.tn 3) (.k (.bl true)) (.bi .tuple (.cons (.comp [4, 5, 6] (.tt (.cons (.tn 4) (.cons (.tn 5) (.cons (.tn 6) .nil)))) (.seq (.v 3)) (.k (.bl true)) (.tup (.cons (.bin .add (.v 4) (.v 1)) (.cons (.bin .add (.v 5) (.v 2)) (.cons (.v 6) .nil))))) .nil)) [.shr ρ, .shr (.int a), .shr (.int u), .un, .un, .un, .un]) (s.map coP) = .ok (s.map fun c => coP (c.map (mvPt a u))) := fun φ ρ => by
    refine compL_of fun c _ => ?_
    have e' := e φ ρ c
    have i : itemsP (coP c) = .ok (.lst (c.map ptP)) := rfl
    simp [stepC, i, e']
    simp [coP]
  simp [e2]
theorem moved_ok (T : HS TT κ) (h5 : TT 5 = some Zd.d_moved_of) (h6 : TT 6 = some Zd.d_moved) {s : List (List Pt)} (hs : okSh s = true) {a u : Int} (ha : inB a (-2000) 2000 = true) (hu : inB u (-2000) 2000 = true) :
    callN TT κ cx wf (n + 6) 6 [shP s, .int a, .int u] = if okSh (mvSh a u s) then .ok (.shr (shP (mvSh a u s))) else .exc 2 none := by
  rw [callN_eq h6 rfl]
  unfold Zd.d_moved startS
  cases h : okSh (mvSh a u s) <;> simp [look_ok T hs, within_ok T.h0, T.k0, withinP, ha, hu, moved_of_ok h5, shape_ok T, h]
theorem moved_no (T : HS TT κ) (h6 : TT 6 = some Zd.d_moved) {s : List (List Pt)} (hs : okSh s = true) {p q : PV} (h : (withinP p (-2000) 2000 && withinP q (-2000) 2000) = false) :
    callN TT κ cx wf (n + 6) 6 [shP s, p, q] = .exc 2 none := by
  rw [callN_eq h6 rfl]
  unfold Zd.d_moved startS
  cases h1 : withinP p (-2000) 2000 <;> cases h2 : withinP q (-2000) 2000 <;> first | (rw [h1, h2] at h; cases h; done) | simp [look_ok T hs, within_ok T.h0, T.k0, h1, h2]
theorem turned_ok (T : HS TT κ) (h7 : TT 7 = some Zd.d_turned) {s : List (List Pt)} (hs : okSh s = true) : callN TT κ cx wf (n + 6) 7 [shP s] = .ok (.shr (shP (tuSh s))) := by
  rw [callN_eq h7 rfl]
  unfold Zd.d_turned startS
  have i : itemsP (shP s) = .ok (.lst (s.map coP)) := rfl
  have e : ∀ φ ρ, compL (stepC φ κ [1] (.tn 1) (.k (.bl true)) (.bin .add (.sl (.v 1) .nop (.k (.int 1))) (.tl (.v 1))) [.shr ρ, .un]) (s.map coP) = .ok (s.map fun c => coP (c.take 1 ++ c.tail.reverse)) := fun φ ρ => by
    refine compL_of fun c hc => ?_
    have hl : c.length ≤ 20 := by
      unfold okSh at hs
      rw [Bool.and_eq_true] at hs
      have z := List.all_eq_true.mp hs.2 c hc
      unfold okCo inB at z
      simp only [Bool.and_eq_true, decide_eq_true_eq] at z
      omega
    have e1 : slV (coP c) none (some 1) = .ok (.tup ((c.map ptP).take 1)) := by
      show Res.ok (PV.tup (cutP (c.map ptP) none (some 1))) = _
      unfold cutP
      congr 2
      show ((c.map ptP).drop 0).take (min 1 (c.map ptP).length - 0) = _
      rw [List.drop_zero]
      cases c with
      | nil => rfl
      | cons x c => simp
    have e2 : tlP (coP c) = .ok (.tup (c.map ptP).tail.reverse) := rfl
    have e3 : binP .add (.tup ((c.map ptP).take 1)) (.tup (c.map ptP).tail.reverse) = .ok (coP (c.take 1 ++ c.tail.reverse)) := by
      show (if fits (((c.map ptP).take 1).length + (c.map ptP).tail.reverse.length) = true then Res.ok (PV.tup ((c.map ptP).take 1 ++ (c.map ptP).tail.reverse)) else .bad) = _
      rw [fits_of (by simp; omega), coP, List.map_append, List.map_take, List.map_reverse, List.map_tail]
      rfl
    simp [stepC, e1, e2, e3]
  simp [look_ok T hs, i, e]
  simp [shP, tuSh]
theorem mirrored_ok (T : HS TT κ) (h8 : TT 8 = some Zd.d_mirrored) {s : List (List Pt)} (hs : okSh s = true) : callN TT κ cx wf (n + 6) 8 [shP s] = .ok (.shr (shP (miSh s))) := by
  rw [callN_eq h8 rfl]
  unfold Zd.d_mirrored startS
  have i : itemsP (shP s) = .ok (.lst (s.map coP)) := rfl
  have e : ∀ (φ : Fns) (ρ : PV) (c : List Pt), compL (stepC φ κ [2, 3, 4] (.tt (.cons (.tn 2) (.cons (.tn 3) (.cons (.tn 4) .nil)))) (.k (.bl true)) (.tup (.cons (.neg (.v 2)) (.cons (.v 3) (.cons (.v 4) .nil)))) [.shr ρ, .shr (coP c), .un, .un, .un]) (c.map ptP) = .ok (c.map fun x => ptP (-x.1, x.2.1, x.2.2)) := fun φ ρ c => by
    refine compL_of fun x _ => ?_
    obtain ⟨x, y, o⟩ := x
    simp [stepC, ptP]
  have e2 : ∀ (φ : Fns) (ρ : PV), compL (stepC φ κ [1] (.tn 1) (.k (.bl true)) (.bi .tuple (.cons (.comp [2, 3, 4] (.tt (.cons (.tn 2) (.cons (.tn 3) (.cons (.tn 4) .nil)))) (.seq (.v 1)) (.k (.bl true)) (.tup (.cons (.neg (.v 2)) (.cons (.v 3) (.cons (.v 4) .nil))))) .nil)) [.shr ρ, .un, .un, .un, .un]) (s.map coP) = .ok (s.map fun c => coP (c.map fun p => (-p.1, p.2.1, p.2.2))) := fun φ ρ => by
    refine compL_of fun c _ => ?_
    have e' := e φ ρ c
    have i : itemsP (coP c) = .ok (.lst (c.map ptP)) := rfl
    simp [stepC, i, e']
    simp [coP]
  simp [look_ok T hs, i, e2]
  simp [shP, miSh]
end
end Zp
end
section
namespace Zd
open Z
def d_law_whole : Z.FnD := ⟨1, 1, (.scons (.sret (.an (.isi .int (.v 0)) (.nt (.isi .bool (.v 0))))) .snil)⟩
def d_law_in : Z.FnD := ⟨3, 3, (.scons (.sret (.an (.call 10 (.cons (.v 0) .nil)) (.chn .le .le (.v 1) (.v 0) (.v 2)))) .snil)⟩
def law_contour_b1 : Z.C := (.scons (.sset 5 (.bin .add (.bin .add (.v 1) (.k (.int 1))) (.bin .mul (.k (.int 3)) (.v 4)))) (.scons (.sset 6 (.bin .sub (.bin .mod (.bin .mul (.ix (.v 0) (.bin .mod (.v 5) (.k (.int 60)))) (.k (.int 13))) (.bin .add (.bin .mul (.k (.int 2)) (.v 2)) (.k (.int 1)))) (.v 2))) (.scons (.sset 7 (.bin .sub (.bin .mod (.bin .mul (.ix (.v 0) (.bin .mod (.bin .add (.v 5) (.k (.int 1))) (.k (.int 60)))) (.k (.int 17))) (.bin .add (.bin .mul (.k (.int 2)) (.v 2)) (.k (.int 1)))) (.v 2))) (.scons (.sapp 3 (.tup (.cons (.bin .mul (.k (.int 4)) (.v 6)) (.cons (.bin .mul (.k (.int 4)) (.v 7)) (.cons (.bi .int (.cons (.cmp .gt (.bin .mod (.ix (.v 0) (.bin .mod (.bin .add (.v 5) (.k (.int 2))) (.k (.int 60)))) (.k (.int 3))) (.k (.int 0))) .nil)) .nil))))) .snil))))
def d_law_contour : Z.FnD := ⟨3, 8, (.scons (.sown 3 (.dsp .nil)) (.scons (.sfor (.tn 4) (.rng1 (.bin .add (.k (.int 3)) (.bin .mod (.ix (.v 0) (.bin .mod (.v 1) (.k (.int 60)))) (.k (.int 4))))) law_contour_b1) (.scons (.sret (.bi .tuple (.cons (.rd 3) .nil))) .snil)))⟩
def d_law_shape : Z.FnD := ⟨2, 5, (.scons (.sset 2 (.call 11 (.cons (.v 0) (.cons (.v 1) .nil)))) (.scons (.sset 3 (.ix (.dsp (.cons (.k (.int 5)) (.cons (.k (.int 20)) (.cons (.k (.int 120)) (.cons (.k (.int 400)) .nil))))) (.bin .mod (.ix (.v 2) (.k (.int 59))) (.k (.int 4))))) (.scons (.sret (.bi .tuple (.cons (.comp [4] (.tn 4) (.rng1 (.ix (.dsp (.cons (.k (.int 1)) (.cons (.k (.int 1)) (.cons (.k (.int 2)) (.cons (.k (.int 1)) (.cons (.k (.int 2)) (.cons (.k (.int 0)) (.cons (.k (.int 1)) .nil)))))))) (.bin .mod (.ix (.v 2) (.k (.int 58))) (.k (.int 7))))) (.k (.bl true)) (.call 13 (.cons (.v 2) (.cons (.bin .mul (.k (.int 20)) (.v 4)) (.cons (.v 3) .nil))))) .nil))) .snil)))⟩
def law_is_shape_b1 : Z.C := (.scons (.sif (.or (.nt (.isi .tuple (.v 2))) (.or (.cmp .ne (.bi .len (.cons (.v 2) .nil)) (.k (.int 3))) (.nt (.call 12 (.cons (.ix (.v 2) (.k (.int 2))) (.cons (.k (.int 0)) (.cons (.k (.int 1)) .nil))))))) (.scons (.sret (.k (.bl false))) .snil) .snil) (.scons (.sif (.or (.nt (.call 12 (.cons (.ix (.v 2) (.k (.int 0))) (.cons (.neg (.k (.int 2000))) (.cons (.k (.int 2000)) .nil))))) (.nt (.call 12 (.cons (.ix (.v 2) (.k (.int 1))) (.cons (.neg (.k (.int 2000))) (.cons (.k (.int 2000)) .nil)))))) (.scons (.sret (.k (.bl false))) .snil) .snil) .snil))
def law_is_shape_b2 : Z.C := (.scons (.sif (.or (.nt (.isi .tuple (.v 1))) (.nt (.chn .le .le (.k (.int 3)) (.bi .len (.cons (.v 1) .nil)) (.k (.int 20))))) (.scons (.sret (.k (.bl false))) .snil) .snil) (.scons (.sfor (.tn 2) (.seq (.v 1)) law_is_shape_b1) .snil))
def d_law_is_shape : Z.FnD := ⟨1, 3, (.scons (.sif (.or (.nt (.isi .tuple (.v 0))) (.cmp .gt (.bi .len (.cons (.v 0) .nil)) (.k (.int 8)))) (.scons (.sret (.k (.bl false))) .snil) .snil) (.scons (.sfor (.tn 1) (.seq (.v 0)) law_is_shape_b2) (.scons (.sret (.k (.bl true))) .snil)))⟩
end Zd
namespace Zp
open Z
structure HLs (TT : Nat → Option FnD) : Prop where
  h9 : TT 9 = some Zd.d_law_cell
  h11 : TT 11 = some Zd.d_law_row
  h13 : TT 13 = some Zd.d_law_contour
  h14 : TT 14 = some Zd.d_law_shape
structure HL (TT : Nat → Option FnD) : Prop where
  h9 : TT 9 = some Zd.d_law_cell
  h10 : TT 10 = some Zd.d_law_whole
  h11 : TT 11 = some Zd.d_law_row
  h12 : TT 12 = some Zd.d_law_in
  h13 : TT 13 = some Zd.d_law_contour
  h14 : TT 14 = some Zd.d_law_shape
  h15 : TT 15 = some Zd.d_law_is_shape
theorem compL_ex {α : Type} {g : PV → Res (Option PV)} {em : α → PV} {P : α → Prop} {xs : List PV} (h : ∀ x ∈ xs, ∃ y, P y ∧ g x = .ok (some (em y))) : ∃ ys : List α, ys.length = xs.length ∧ (∀ y ∈ ys, P y) ∧ compL g xs = .ok (ys.map em) := by
  induction xs with
  | nil => exact ⟨[], rfl, fun y hy => absurd hy List.not_mem_nil, rfl⟩
  | cons x xs ih =>
    obtain ⟨y, hy, e⟩ := h x (List.mem_cons_self ..)
    obtain ⟨ys, h1, h2, h3⟩ := ih fun z hz => h z (List.mem_cons_of_mem _ hz)
    refine ⟨y :: ys, by rw [List.length_cons, List.length_cons, h1], fun z hz => ?_, ?_⟩
    · rcases List.mem_cons.mp hz with rfl | hz
      · exact hy
      · exact h2 z hz
    · unfold compL
      rw [e, h3]
      rfl
theorem mem_upL {a : Int} {k : Nat} {x : PV} (h : x ∈ upL a k) : ∃ i : Int, a ≤ i ∧ i < a + k ∧ x = .int i := by
  rw [upL_eq, List.mem_map] at h
  obtain ⟨j, hj, rfl⟩ := h
  rw [List.mem_range] at hj
  exact ⟨a + j, by omega, by omega, rfl⟩
theorem getD_rng {r : List Int} (h : IsRow r) (i : Nat) : 0 ≤ r.getD i 0 ∧ r.getD i 0 < 1000 := by
  by_cases hi : i < r.length
  · have e : r.getD i 0 = r[i] := by rw [List.getD_eq_getElem?_getD, List.getElem?_eq_getElem hi]; rfl
    rw [e]
    exact h.rng _ (List.getElem_mem hi)
  · rw [List.getD_eq_getElem?_getD, List.getElem?_eq_none (by omega)]
    exact ⟨by decide, by decide⟩
/-- a row at a place -/
theorem row_ix {r : List Int} (h : IsRow r) {i : Int} (h0 : 0 ≤ i) (h1 : i < 60) : ixP (.lst (r.map PV.int)) (.int i) = .ok (.int (r.getD i.toNat 0)) := ix_ints h0 (by rw [h.len]; omega)
theorem row_at {r : List Int} (h : IsRow r) {i : Int} (h0 : 0 ≤ i) (h1 : i < 60) : ∃ v, 0 ≤ v ∧ v < 1000 ∧ ixP (.lst (r.map PV.int)) (.int i) = .ok (.int v) := ⟨_, (getD_rng h _).1, (getD_rng h _).2, row_ix h h0 h1⟩
theorem row_mod {r : List Int} (h : IsRow r) (i : Int) : ∃ v, 0 ≤ v ∧ v < 1000 ∧ ixP (.lst (r.map PV.int)) (.int (i.fmod 60)) = .ok (.int v) := row_at h (fmod_rng _ (by decide)).1 (fmod_rng _ (by decide)).2
section
variable {TT : Nat → Option FnD} {κ : Cons} {cx : Nat → Nat → Bool} {wf : Nat} {n : Nat} (L : HL TT)
include L
theorem whole_ok (p : PV) : callN TT κ cx wf (n + 1) 10 [p] = .ok (.shr (.bl (match p with | .int _ => true | _ => false))) := by
  rw [callN_eq L.h10 rfl]
  unfold Zd.d_law_whole startS
  cases p <;> simp [isiP]
theorem in_ok (p : PV) (lo hi : Int) : callN TT κ cx wf (n + 2) 12 [p, .int lo, .int hi] = .ok (.shr (.bl (withinP p lo hi))) := by
  rw [callN_eq L.h12 rfl]
  unfold Zd.d_law_in startS
  cases p <;> simp [whole_ok L, withinP, inB]
  rename_i i
  by_cases h : lo ≤ i <;> simp [h]
end
theorem HL.s {TT : Nat → Option FnD} (L : HL TT) : HLs TT := ⟨L.h9, L.h11, L.h13, L.h14⟩
section
variable {TT : Nat → Option FnD} {κ : Cons} {cx : Nat → Nat → Bool} {wf : Nat} {n : Nat} (L : HLs TT)
include L
/-- a contour of the law's own -/
def GoodPt (w : Int) (p : Pt) : Prop := -(4 * w) ≤ p.1 ∧ p.1 ≤ 4 * w ∧ -(4 * w) ≤ p.2.1 ∧ p.2.1 ≤ 4 * w ∧ (p.2.2 = 0 ∨ p.2.2 = 1)
def GoodCo (w : Int) (c : List Pt) : Prop := 3 ≤ c.length ∧ c.length ≤ 6 ∧ ∀ p ∈ c, GoodPt w p
theorem lcontour_ok {r : List Int} (hr : IsRow r) {a w : Int} (ha : 0 ≤ a) (hw : 0 < w) (hw2 : w ≤ 1000) : ∃ c, GoodCo w c ∧ callN TT κ cx wf (n + 1) 13 [.lst (r.map PV.int), .int a, .int w] = .ok (.shr (coP c)) := by
  have step : ∀ (k : Nat) (t : Int) (c : List Pt) (s1 s2 s3 s4 : Slot), 0 ≤ t → c.length + k ≤ 6 → (∀ p ∈ c, GoodPt w p) → ∃ (c' : List Pt) (s1' s2' s3' s4' : Slot), c'.length = c.length + k ∧ (∀ p ∈ c', GoodPt w p) ∧
      forL (stepF (callN TT κ cx wf n) κ cx wf (.tn 4) Zd.law_contour_b1) (upL t k) [.shr (.lst (r.map PV.int)), .shr (.int a), .shr (.int w), .own (c.map ptP), s1, s2, s3, s4] = .nx [.shr (.lst (r.map PV.int)), .shr (.int a), .shr (.int w), .own (c'.map ptP), s1', s2', s3', s4'] := by
    intro k
    induction k with
    | zero => exact fun t c s1 s2 s3 s4 _ _ hc => ⟨c, s1, s2, s3, s4, rfl, hc, rfl⟩
    | succ k ih =>
      intro t c s1 s2 s3 s4 ht hl hc
      have hf : fits (c.length + 1) = true := fits_of (by omega)
      obtain ⟨v1, _, _, q1⟩ := row_mod hr (a + 1 + 3 * t)
      obtain ⟨v2, _, _, q2⟩ := row_mod hr (a + 1 + 3 * t + 1)
      obtain ⟨v3, _, _, q3⟩ := row_mod hr (a + 1 + 3 * t + 2)
      have w0 : 2 * w + 1 ≠ 0 := by omega
      have x1 := fmod_rng (v1 * 13) (b := 2 * w + 1) (by omega)
      have y1 := fmod_rng (v2 * 17) (b := 2 * w + 1) (by omega)
      have e : stepF (callN TT κ cx wf n) κ cx wf (.tn 4) Zd.law_contour_b1 (.int t) [.shr (.lst (r.map PV.int)), .shr (.int a), .shr (.int w), .own (c.map ptP), s1, s2, s3, s4] =
          .nx [.shr (.lst (r.map PV.int)), .shr (.int a), .shr (.int w), .own (c.map ptP ++ [ptP (4 * ((v1 * 13).fmod (2 * w + 1) - w), 4 * ((v2 * 17).fmod (2 * w + 1) - w), if 0 < v3.fmod 3 then 1 else 0)]), .shr (.int t), .shr (.int (a + 1 + 3 * t)), .shr (.int ((v1 * 13).fmod (2 * w + 1) - w)), .shr (.int ((v2 * 17).fmod (2 * w + 1) - w))] := by
        simp [Zd.law_contour_b1, stepF, bin_mul_r, bin_mul_l, bin_mod, q1, q2, q3, w0, hf, ptP]
      have hp : GoodPt w (4 * ((v1 * 13).fmod (2 * w + 1) - w), 4 * ((v2 * 17).fmod (2 * w + 1) - w), if 0 < v3.fmod 3 then 1 else 0) := by
        refine ⟨?_, ?_, ?_, ?_, ?_⟩
        · show -(4 * w) ≤ 4 * ((v1 * 13).fmod (2 * w + 1) - w); omega
        · show 4 * ((v1 * 13).fmod (2 * w + 1) - w) ≤ 4 * w; omega
        · show -(4 * w) ≤ 4 * ((v2 * 17).fmod (2 * w + 1) - w); omega
        · show 4 * ((v2 * 17).fmod (2 * w + 1) - w) ≤ 4 * w; omega
        · show (if 0 < v3.fmod 3 then (1 : Int) else 0) = 0 ∨ (if 0 < v3.fmod 3 then (1 : Int) else 0) = 1
          split
          · exact .inr rfl
          · exact .inl rfl
      obtain ⟨c', z1, z2, z3, z4, e1, e2, e3⟩ := ih (t + 1) (c ++ [(4 * ((v1 * 13).fmod (2 * w + 1) - w), 4 * ((v2 * 17).fmod (2 * w + 1) - w), if 0 < v3.fmod 3 then 1 else 0)]) (.shr (.int t)) (.shr (.int (a + 1 + 3 * t))) (.shr (.int ((v1 * 13).fmod (2 * w + 1) - w))) (.shr (.int ((v2 * 17).fmod (2 * w + 1) - w))) (by omega) (by rw [List.length_append, List.length_singleton]; omega) (fun x hx => by
        rw [List.mem_append] at hx
        rcases hx with hx | hx
        · exact hc x hx
        · rw [List.mem_singleton] at hx; subst hx; exact hp)
      refine ⟨c', z1, z2, z3, z4, by rw [e1, List.length_append, List.length_singleton]; omega, e2, ?_⟩
      show forL _ (.int t :: upL (t + 1) k) _ = _
      rw [forL_cons, e, next_nx, ← e3, List.map_append]
      rfl
  obtain ⟨v0, _, _, q0⟩ := row_mod hr a
  have k0 := fmod_rng v0 (b := 4) (by decide)
  obtain ⟨c, s1, s2, s3, s4, e1, e2, e3⟩ := step (3 + v0.fmod 4 - 0).toNat 0 [] .un .un .un .un (by decide) (by rw [List.length_nil]; omega) (fun x hx => by cases hx)
  rw [List.length_nil] at e1
  refine ⟨c, ⟨by omega, by omega, e2⟩, ?_⟩
  rw [callN_eq L.h13 rfl]
  unfold Zd.d_law_contour startS
  have er : rngP (.int 0) (.int (3 + v0.fmod 4)) = .ok (.lst (upL 0 (3 + v0.fmod 4 - 0).toNat)) := rng_of (by omega) (by omega) (by omega) (by omega) (by omega)
  rw [List.map_nil] at e3
  simp only [Int.sub_zero] at e3 er
  simp [bin_mod, q0, er, e3, coP]
/-- a shape of the law's own: at most two contours -/
def GoodSh (s : List (List Pt)) : Prop := s.length ≤ 2 ∧ ∀ c ∈ s, GoodCo 400 c
omit L in
theorem GoodCo.mono {w w' : Int} {c : List Pt} (h : GoodCo w c) (hw : w ≤ w') : GoodCo w' c := ⟨h.1, h.2.1, fun p hp => by
  obtain ⟨h1, h2, h3, h4, h5⟩ := h.2.2 p hp
  exact ⟨by omega, by omega, by omega, by omega, h5⟩⟩
theorem lshape_ok {ns : List Int} {a : Int} (ha : 0 ≤ a) : ∃ s, GoodSh s ∧ callN TT κ cx wf (n + 3) 14 [.scr ns, .int a] = .ok (.shr (shP s)) := by
  obtain ⟨r, hr, er⟩ := row_ok (κ := κ) (cx := cx) (wf := wf) (n := n) L.h9 L.h11 (ns := ns) ha
  obtain ⟨v9, _, _, q9⟩ := row_at hr (i := 59) (by decide) (by decide)
  obtain ⟨v8, _, _, q8⟩ := row_at hr (i := 58) (by decide) (by decide)
  have m9 := fmod_rng v9 (b := 4) (by decide)
  have m8 := fmod_rng v8 (b := 7) (by decide)
  obtain ⟨w, hw, hw2, ew⟩ : ∃ w : Int, 0 < w ∧ w ≤ 400 ∧ ixP (.lst [.int 5, .int 20, .int 120, .int 400]) (.int (v9.fmod 4)) = .ok (.int w) := by
    have : v9.fmod 4 = 0 ∨ v9.fmod 4 = 1 ∨ v9.fmod 4 = 2 ∨ v9.fmod 4 = 3 := by omega
    rcases this with h | h | h | h <;> rw [h] <;> exact ⟨_, by decide, by decide, rfl⟩
  obtain ⟨k, hk, hk2, ek⟩ : ∃ k : Int, 0 ≤ k ∧ k ≤ 2 ∧ ixP (.lst [.int 1, .int 1, .int 2, .int 1, .int 2, .int 0, .int 1]) (.int (v8.fmod 7)) = .ok (.int k) := by
    have : v8.fmod 7 = 0 ∨ v8.fmod 7 = 1 ∨ v8.fmod 7 = 2 ∨ v8.fmod 7 = 3 ∨ v8.fmod 7 = 4 ∨ v8.fmod 7 = 5 ∨ v8.fmod 7 = 6 := by omega
    rcases this with h | h | h | h | h | h | h <;> rw [h] <;> exact ⟨_, by decide, by decide, rfl⟩
  have eg : rngP (.int 0) (.int k) = .ok (.lst (upL 0 (k - 0).toNat)) := rng_of (by omega) (by omega) (by omega) (by omega) (by omega)
  obtain ⟨s, h1, h2, h3⟩ : ∃ s : List (List Pt), s.length = (upL 0 (k - 0).toNat).length ∧ (∀ c ∈ s, GoodCo w c) ∧ compL (stepC (callN TT κ cx wf (n + 2)) κ [4] (.tn 4) (.k (.bl true)) (.call 13 (.cons (.v 2) (.cons (.bin .mul (.k (.int 20)) (.v 4)) (.cons (.v 3) .nil)))) [.shr (.scr ns), .shr (.int a), .shr (.lst (r.map PV.int)), .shr (.int w), .un]) (upL 0 (k - 0).toNat) = .ok (s.map coP) := by
    refine compL_ex fun x hx => ?_
    obtain ⟨i, h0, _, rfl⟩ := mem_upL hx
    obtain ⟨c, hc, ec⟩ := lcontour_ok (κ := κ) (cx := cx) (wf := wf) (n := n + 1) L hr (a := 20 * i) (by omega) hw (by omega)
    refine ⟨c, hc, ?_⟩
    simp [stepC, bin_mul_l, ec]
  rw [upL_len] at h1
  refine ⟨s, ⟨by omega, fun c hc => (h2 c hc).mono hw2⟩, ?_⟩
  rw [callN_eq L.h14 rfl]
  unfold Zd.d_law_shape startS
  simp only [Int.sub_zero] at h3 eg
  simp [er, bin_mod, q9, q8, ew, ek, eg, h3]
  simp [shP]
end
section
variable {TT : Nat → Option FnD} {κ : Cons} {cx : Nat → Nat → Bool} {wf : Nat} {n : Nat} (L : HL TT)
include L
omit L in
theorem GoodSh.ok {s : List (List Pt)} (h : GoodSh s) : okSh s = true := by
  unfold okSh
  rw [Bool.and_eq_true]
  refine ⟨decide_eq_true (by have := h.1; omega), List.all_eq_true.mpr fun c hc => ?_⟩
  obtain ⟨h1, h2, h3⟩ := h.2 c hc
  unfold okCo inB
  simp only [Bool.and_eq_true, decide_eq_true_eq]
  refine ⟨⟨by omega, by omega⟩, List.all_eq_true.mpr fun p hp => ?_⟩
  obtain ⟨g1, g2, g3, g4, g5⟩ := h3 p hp
  unfold okPt inB
  simp only [Bool.and_eq_true, decide_eq_true_eq]
  omega
theorem lispt {p : Pt} (ρ : PV) (cc : PV) (s2 : Slot) : stepF (callN TT κ cx wf (n + 2)) κ cx wf (.tn 2) Zd.law_is_shape_b1 (ptP p) [.shr ρ, .shr cc, s2] = if okPt p then .nx [.shr ρ, .shr cc, .shr (ptP p)] else .ret (.shr (.bl false)) := by
  obtain ⟨x, y, o⟩ := p
  have i0 : ixP (.tup [.int x, .int y, .int o]) (.int 0) = .ok (.int x) := rfl
  have i1 : ixP (.tup [.int x, .int y, .int o]) (.int 1) = .ok (.int y) := rfl
  have i2 : ixP (.tup [.int x, .int y, .int o]) (.int 2) = .ok (.int o) := rfl
  unfold Zd.law_is_shape_b1 ptP okPt
  cases h : inB o 0 1 <;> cases h2 : inB x (-2000) 2000 <;> cases h3 : inB y (-2000) 2000 <;> simp [stepF, isiP, in_ok L, withinP, i0, i1, i2, h, h2, h3]
theorem lispts (ρ : PV) (cc : PV) : ∀ (c : List Pt) (s2 : Slot), ∃ s2', forL (stepF (callN TT κ cx wf (n + 2)) κ cx wf (.tn 2) Zd.law_is_shape_b1) (c.map ptP) [.shr ρ, .shr cc, s2] = if c.all okPt then .nx [.shr ρ, .shr cc, s2'] else .ret (.shr (.bl false))
  | [], s2 => ⟨s2, rfl⟩
  | p :: c, s2 => by
    obtain ⟨s2', e⟩ := lispts ρ cc c (.shr (ptP p))
    refine ⟨s2', ?_⟩
    rw [List.map_cons, forL_cons, lispt L, List.all_cons]
    cases okPt p
    · rfl
    · exact e
theorem lisco {c : List Pt} (ρ : PV) (s1 s2 : Slot) : ∃ s2', stepF (callN TT κ cx wf (n + 2)) κ cx wf (.tn 1) Zd.law_is_shape_b2 (coP c) [.shr ρ, s1, s2] = if okCo c then .nx [.shr ρ, .shr (coP c), s2'] else .ret (.shr (.bl false)) := by
  obtain ⟨s2', e⟩ := lispts (κ := κ) (cx := cx) (wf := wf) (n := n) L ρ (coP c) c s2
  refine ⟨s2', ?_⟩
  have i : itemsP (coP c) = .ok (.lst (c.map ptP)) := rfl
  have j : biP .len [coP c] = .ok (.int c.length) := by show Res.ok (PV.int ((c.map ptP).length : Nat)) = _; rw [List.length_map]
  have t : isiP .tuple (coP c) = true := rfl
  unfold Zd.law_is_shape_b2 okCo inB
  cases h1 : decide (3 ≤ (c.length : Int)) <;> cases h2 : decide ((c.length : Int) ≤ 20) <;> simp [stepF, t, j, i, h1, h2, e]
  cases c.all okPt <;> simp
theorem liscos (ρ : PV) : ∀ (s : List (List Pt)) (s1 s2 : Slot), ∃ s1' s2', forL (stepF (callN TT κ cx wf (n + 2)) κ cx wf (.tn 1) Zd.law_is_shape_b2) (s.map coP) [.shr ρ, s1, s2] = if s.all okCo then .nx [.shr ρ, s1', s2'] else .ret (.shr (.bl false))
  | [], s1, s2 => ⟨s1, s2, rfl⟩
  | c :: s, s1, s2 => by
    obtain ⟨z, e1⟩ := lisco (κ := κ) (cx := cx) (wf := wf) (n := n) L (c := c) ρ s1 s2
    obtain ⟨s1', s2', e⟩ := liscos ρ s (.shr (coP c)) z
    refine ⟨s1', s2', ?_⟩
    rw [List.map_cons, forL_cons, e1, List.all_cons]
    cases okCo c
    · rfl
    · exact e
theorem lisshape_ok (s : List (List Pt)) : callN TT κ cx wf (n + 3) 15 [shP s] = .ok (.shr (.bl (okSh s))) := by
  rw [callN_eq L.h15 rfl]
  obtain ⟨s1', s2', e⟩ := liscos (κ := κ) (cx := cx) (wf := wf) (n := n) L (shP s) s .un .un
  have i : itemsP (shP s) = .ok (.lst (s.map coP)) := rfl
  have j : biP .len [shP s] = .ok (.int s.length) := by show Res.ok (PV.int ((s.map coP).length : Nat)) = _; rw [List.length_map]
  have t : isiP .tuple (shP s) = true := rfl
  unfold Zd.d_law_is_shape startS okSh
  by_cases h1 : s.length ≤ 8
  · have h1' : ¬ (8 : Int) < s.length := by omega
    cases h2 : s.all okCo <;> simp [t, i, j, h1, h1', e, h2]
  · have h1' : (8 : Int) < s.length := by omega
    simp [t, i, j, h1, h1']
end
end Zp
end
section
/-! shapes, whatever the thing is -/
namespace Zp
open Z
def isPtV : PV → Bool
  | .tup [x, y, o] => withinP o 0 1 && (withinP x (-2000) 2000 && withinP y (-2000) 2000)
  | _ => false
def isCoV : PV → Bool
  | .tup ps => inB ps.length 3 20 && ps.all isPtV
  | _ => false
def isShV : PV → Bool
  | .tup cs => decide (cs.length ≤ 8) && cs.all isCoV
  | _ => false
theorem ix3_0 (x y z : PV) : ixP (.tup [x, y, z]) (.int 0) = .ok x := rfl
theorem ix3_1 (x y z : PV) : ixP (.tup [x, y, z]) (.int 1) = .ok y := rfl
theorem ix3_2 (x y z : PV) : ixP (.tup [x, y, z]) (.int 2) = .ok z := rfl
theorem compL_flt {g : PV → Res (Option PV)} {p : PV → Bool} {xs : List PV} (h : ∀ x ∈ xs, g x = .ok (if p x then some x else none)) : compL g xs = .ok (xs.filter p) := by
  have := compL_filter (em := fun x : PV => x) (p := p) (xs := xs) h
  simpa using this
section
variable {TT : Nat → Option FnD} {κ : Cons} {cx : Nat → Nat → Bool} {wf : Nat} {n : Nat} (T : HS TT κ)
include T
theorem point_V (p : PV) : callN TT κ cx wf (n + 2) 1 [p] = .ok (.shr (.bl (isPtV p))) := by
  rw [callN_eq T.h1 rfl]
  unfold Zd.d_is_point startS
  cases p with
  | tup xs =>
    by_cases hl : xs.length = 3
    · obtain ⟨x, y, o, rfl⟩ : ∃ x y o, xs = [x, y, o] := by
        match xs, hl with
        | [x, y, o], _ => exact ⟨x, y, o, rfl⟩
      unfold isPtV
      cases h : withinP o 0 1 <;> simp [isiP, within_ok T.h0, T.k0, ix3_0, ix3_1, ix3_2, h]
      cases h2 : withinP x (-2000) 2000 <;> simp [h2]
    · have e : isPtV (.tup xs) = false := by
        unfold isPtV
        split
        · rename_i z; cases z; exact absurd rfl hl
        · rfl
      have hl' : ¬ (xs.length : Int) = 3 := by omega
      simp [isiP, hl', e]
  | _ => simp [isiP, isPtV]
theorem contour_V (p : PV) : callN TT κ cx wf (n + 3) 2 [p] = .ok (.shr (.bl (isCoV p))) := by
  rw [callN_eq T.h2 rfl]
  unfold Zd.d_is_contour startS
  cases p with
  | tup xs =>
    have e : ∀ ρ, compL (stepC (callN TT κ cx wf (n + 2)) κ [1] (.tn 1) (.nt (.call 1 (.cons (.v 1) .nil))) (.v 1) [.shr ρ, .un]) xs = .ok (xs.filter fun x => !isPtV x) := fun ρ => by
      refine compL_flt fun x _ => ?_
      cases h : isPtV x <;> simp [stepC, point_V T, h]
    cases h1 : decide (3 ≤ (xs.length : Int)) <;> cases h2 : decide ((xs.length : Int) ≤ 20) <;> simp [isiP, T.k1, h1, h2, inB, e, filter_none, isCoV]
    all_goals simp_all
  | _ => simp [isiP, isCoV]
theorem shape_V (p : PV) : callN TT κ cx wf (n + 4) 3 [p] = .ok (.shr (.bl (isShV p))) := by
  rw [callN_eq T.h3 rfl]
  unfold Zd.d_is_shape startS
  cases p with
  | tup xs =>
    have e : ∀ ρ, compL (stepC (callN TT κ cx wf (n + 3)) κ [1] (.tn 1) (.nt (.call 2 (.cons (.v 1) .nil))) (.v 1) [.shr ρ, .un]) xs = .ok (xs.filter fun x => !isCoV x) := fun ρ => by
      refine compL_flt fun x _ => ?_
      cases h : isCoV x <;> simp [stepC, contour_V T, h]
    by_cases h1 : xs.length ≤ 8
    · have h1' : ¬ (8 : Int) < xs.length := by omega
      simp [isiP, T.k2, h1, h1', e, filter_none, isShV]
    · have h1' : (8 : Int) < xs.length := by omega
      simp [isiP, T.k2, h1, h1', e, filter_none, isShV]
  | _ => simp [isiP, isShV]
theorem look_V (p : PV) : callN TT κ cx wf (n + 5) 4 [p] = if isShV p then .ok (.shr .non) else .exc 1 none := by
  rw [callN_eq T.h4 rfl]
  unfold Zd.d_look startS
  cases h : isShV p <;> simp [shape_V T, h]
end
section
variable {TT : Nat → Option FnD} {κ : Cons} {cx : Nat → Nat → Bool} {wf : Nat} {n : Nat} (L : HL TT)
include L
theorem lispt_V (p : PV) (ρ : PV) (cc : PV) (s2 : Slot) : stepF (callN TT κ cx wf (n + 2)) κ cx wf (.tn 2) Zd.law_is_shape_b1 p [.shr ρ, .shr cc, s2] = if isPtV p then .nx [.shr ρ, .shr cc, .shr p] else .ret (.shr (.bl false)) := by
  unfold Zd.law_is_shape_b1
  cases p with
  | tup xs =>
    by_cases hl : xs.length = 3
    · obtain ⟨x, y, o, rfl⟩ : ∃ x y o, xs = [x, y, o] := by
        match xs, hl with
        | [x, y, o], _ => exact ⟨x, y, o, rfl⟩
      unfold isPtV
      cases h : withinP o 0 1 <;> cases h2 : withinP x (-2000) 2000 <;> cases h3 : withinP y (-2000) 2000 <;> simp [stepF, isiP, in_ok L, ix3_0, ix3_1, ix3_2, h, h2, h3]
    · have e : isPtV (.tup xs) = false := by
        unfold isPtV
        split
        · rename_i z; cases z; exact absurd rfl hl
        · rfl
      have hl' : ¬ (xs.length : Int) = 3 := by omega
      simp [stepF, isiP, hl', e]
  | _ => simp [stepF, isiP, isPtV]
theorem lispts_V (ρ : PV) (cc : PV) : ∀ (c : List PV) (s2 : Slot), ∃ s2', forL (stepF (callN TT κ cx wf (n + 2)) κ cx wf (.tn 2) Zd.law_is_shape_b1) c [.shr ρ, .shr cc, s2] = if c.all isPtV then .nx [.shr ρ, .shr cc, s2'] else .ret (.shr (.bl false))
  | [], s2 => ⟨s2, rfl⟩
  | p :: c, s2 => by
    obtain ⟨s2', e⟩ := lispts_V ρ cc c (.shr p)
    refine ⟨s2', ?_⟩
    rw [forL_cons, lispt_V L, List.all_cons]
    cases isPtV p
    · rfl
    · exact e
theorem lisco_V (c : PV) (ρ : PV) (s1 s2 : Slot) : ∃ s2', stepF (callN TT κ cx wf (n + 2)) κ cx wf (.tn 1) Zd.law_is_shape_b2 c [.shr ρ, s1, s2] = if isCoV c then .nx [.shr ρ, .shr c, s2'] else .ret (.shr (.bl false)) := by
  cases c with
  | tup xs =>
    obtain ⟨s2', e⟩ := lispts_V (κ := κ) (cx := cx) (wf := wf) (n := n) L ρ (.tup xs) xs s2
    refine ⟨s2', ?_⟩
    unfold Zd.law_is_shape_b2 isCoV inB
    cases h1 : decide (3 ≤ (xs.length : Int)) <;> cases h2 : decide ((xs.length : Int) ≤ 20) <;> cases h3 : xs.all isPtV <;> simp [stepF, isiP, h1, h2, e, h3]
  | _ => exact ⟨s2, by simp [stepF, Zd.law_is_shape_b2, isiP, isCoV]⟩
theorem liscos_V (ρ : PV) : ∀ (s : List PV) (s1 s2 : Slot), ∃ s1' s2', forL (stepF (callN TT κ cx wf (n + 2)) κ cx wf (.tn 1) Zd.law_is_shape_b2) s [.shr ρ, s1, s2] = if s.all isCoV then .nx [.shr ρ, s1', s2'] else .ret (.shr (.bl false))
  | [], s1, s2 => ⟨s1, s2, rfl⟩
  | c :: s, s1, s2 => by
    obtain ⟨z, e1⟩ := lisco_V (κ := κ) (cx := cx) (wf := wf) (n := n) L c ρ s1 s2
    obtain ⟨s1', s2', e⟩ := liscos_V ρ s (.shr c) z
    refine ⟨s1', s2', ?_⟩
    rw [forL_cons, e1, List.all_cons]
    cases isCoV c
    · rfl
    · exact e
theorem lisshape_V (p : PV) : callN TT κ cx wf (n + 3) 15 [p] = .ok (.shr (.bl (isShV p))) := by
  rw [callN_eq L.h15 rfl]
  unfold Zd.d_law_is_shape startS
  cases p with
  | tup s =>
    obtain ⟨s1', s2', e⟩ := liscos_V (κ := κ) (cx := cx) (wf := wf) (n := n) L (.tup s) s .un .un
    by_cases h1 : s.length ≤ 8
    · have h1' : ¬ (8 : Int) < s.length := by omega
      cases h2 : s.all isCoV <;> simp [isiP, h1, h1', e, h2, isShV]
    · have h1' : (8 : Int) < s.length := by omega
      simp [isiP, h1, h1', isShV]
  | _ => simp [isiP, isShV]
end
end Zp
end
section
/-! fractions -/
namespace Zd
open Z
def common_b1 : Z.C := (.scons (.sasg (.tt (.cons (.tn 0) (.cons (.tn 1) .nil))) (.tup (.cons (.v 1) (.cons (.bin .mod (.v 0) (.v 1)) .nil)))) .snil)
def d_common : Z.FnD := ⟨2, 2, (.scons (.swh (.cmp .ne (.v 1) (.k (.int 0))) common_b1) (.scons (.sret (.bi .abs (.cons (.v 0) .nil))) .snil))⟩
def d_least : Z.FnD := ⟨2, 3, (.scons (.sset 2 (.call 25 (.cons (.v 0) (.cons (.v 1) .nil)))) (.scons (.sif (.cmp .lt (.v 1) (.k (.int 0))) (.scons (.sset 2 (.neg (.v 2))) .snil) .snil) (.scons (.sret (.tup (.cons (.bin .fdv (.v 0) (.v 2)) (.cons (.bin .fdv (.v 1) (.v 2)) .nil)))) .snil)))⟩
def d_whole : Z.FnD := ⟨1, 1, (.scons (.sret (.tup (.cons (.v 0) (.cons (.k (.int 1)) .nil)))) .snil)⟩
def d_plus : Z.FnD := ⟨2, 2, (.scons (.sret (.call 26 (.cons (.bin .add (.bin .mul (.ix (.v 0) (.k (.int 0))) (.ix (.v 1) (.k (.int 1)))) (.bin .mul (.ix (.v 1) (.k (.int 0))) (.ix (.v 0) (.k (.int 1))))) (.cons (.bin .mul (.ix (.v 0) (.k (.int 1))) (.ix (.v 1) (.k (.int 1)))) .nil)))) .snil)⟩
def d_minus : Z.FnD := ⟨2, 2, (.scons (.sret (.call 26 (.cons (.bin .sub (.bin .mul (.ix (.v 0) (.k (.int 0))) (.ix (.v 1) (.k (.int 1)))) (.bin .mul (.ix (.v 1) (.k (.int 0))) (.ix (.v 0) (.k (.int 1))))) (.cons (.bin .mul (.ix (.v 0) (.k (.int 1))) (.ix (.v 1) (.k (.int 1)))) .nil)))) .snil)⟩
def d_times : Z.FnD := ⟨2, 2, (.scons (.sret (.call 26 (.cons (.bin .mul (.ix (.v 0) (.k (.int 0))) (.ix (.v 1) (.k (.int 0)))) (.cons (.bin .mul (.ix (.v 0) (.k (.int 1))) (.ix (.v 1) (.k (.int 1)))) .nil)))) .snil)⟩
def d_quotient : Z.FnD := ⟨2, 2, (.scons (.sret (.call 26 (.cons (.bin .mul (.ix (.v 0) (.k (.int 0))) (.ix (.v 1) (.k (.int 1)))) (.cons (.bin .mul (.ix (.v 0) (.k (.int 1))) (.ix (.v 1) (.k (.int 0)))) .nil)))) .snil)⟩
def d_is_less : Z.FnD := ⟨2, 2, (.scons (.sret (.cmp .lt (.bin .mul (.ix (.v 0) (.k (.int 0))) (.ix (.v 1) (.k (.int 1)))) (.bin .mul (.ix (.v 1) (.k (.int 0))) (.ix (.v 0) (.k (.int 1)))))) .snil)⟩
def lesser_b1 : Z.C := (.scons (.sif (.call 32 (.cons (.v 2) (.cons (.v 1) .nil))) (.scons (.sset 1 (.v 2)) .snil) .snil) .snil)
def d_lesser : Z.FnD := ⟨1, 3, (.scons (.sset 1 (.ix (.v 0) (.k (.int 0)))) (.scons (.sfor (.tn 2) (.seq (.sl (.v 0) (.k (.int 1)) .nop)) lesser_b1) (.scons (.sret (.v 1)) .snil)))⟩
def greater_b1 : Z.C := (.scons (.sif (.call 32 (.cons (.v 1) (.cons (.v 2) .nil))) (.scons (.sset 1 (.v 2)) .snil) .snil) .snil)
def d_greater : Z.FnD := ⟨1, 3, (.scons (.sset 1 (.ix (.v 0) (.k (.int 0)))) (.scons (.sfor (.tn 2) (.seq (.sl (.v 0) (.k (.int 1)) .nop)) greater_b1) (.scons (.sret (.v 1)) .snil)))⟩
def d_sign_of : Z.FnD := ⟨1, 1, (.scons (.sret (.bin .sub (.bi .int (.cons (.cmp .gt (.ix (.v 0) (.k (.int 0))) (.k (.int 0))) .nil)) (.bi .int (.cons (.cmp .lt (.ix (.v 0) (.k (.int 0))) (.k (.int 0))) .nil)))) .snil)⟩
def d_floored : Z.FnD := ⟨1, 1, (.scons (.sret (.bin .fdv (.ix (.v 0) (.k (.int 0))) (.ix (.v 0) (.k (.int 1))))) .snil)⟩
def d_rounded : Z.FnD := ⟨1, 1, (.scons (.sret (.bin .fdv (.bin .add (.bin .mul (.k (.int 2)) (.ix (.v 0) (.k (.int 0)))) (.ix (.v 0) (.k (.int 1)))) (.bin .mul (.k (.int 2)) (.ix (.v 0) (.k (.int 1)))))) .snil)⟩
def d_is_fraction : Z.FnD := ⟨1, 1, (.scons (.sif (.or (.nt (.isi .tuple (.v 0))) (.or (.cmp .ne (.bi .len (.cons (.v 0) .nil)) (.k (.int 2))) (.or (.nt (.isi .int (.ix (.v 0) (.k (.int 0))))) (.isi .bool (.ix (.v 0) (.k (.int 0))))))) (.scons (.sret (.k (.bl false))) .snil) .snil) (.scons (.sif (.or (.nt (.isi .int (.ix (.v 0) (.k (.int 1))))) (.or (.isi .bool (.ix (.v 0) (.k (.int 1)))) (.cmp .lt (.ix (.v 0) (.k (.int 1))) (.k (.int 1))))) (.scons (.sret (.k (.bl false))) .snil) .snil) (.scons (.sret (.cmp .eq (.call 25 (.cons (.ix (.v 0) (.k (.int 0))) (.cons (.ix (.v 0) (.k (.int 1))) .nil))) (.k (.int 1)))) .snil)))⟩
end Zd
namespace Zp
open Z
/-- a fraction -/
def frP (q : Rat) : PV := .tup [.int q.num, .int (q.den : Int)]
/-- how wide -/
def Sz (k : Nat) (q : Rat) : Prop := q.num.natAbs < 2 ^ k ∧ q.den < 2 ^ k
theorem Sz.mono {k m : Nat} {q : Rat} (h : Sz k q) (hm : k ≤ m) : Sz m q := ⟨Nat.lt_of_lt_of_le h.1 (Nat.pow_le_pow_right (by decide) hm), Nat.lt_of_lt_of_le h.2 (Nat.pow_le_pow_right (by decide) hm)⟩
/-! the greatest common divisor -/
theorem fmod_abs (a : Int) {b : Int} (h : b ≠ 0) : (a.fmod b).natAbs < b.natAbs ∧ (0 < b → 0 ≤ a.fmod b) ∧ (b < 0 → a.fmod b ≤ 0) := by
  rcases Int.lt_or_gt_of_ne h with hb | hb
  · have h1 := Int.fmod_nonneg_of_pos (-a) (b := -b) (by omega)
    have h2 := Int.fmod_lt_of_pos (-a) (b := -b) (by omega)
    rw [Int.neg_fmod_neg] at h1 h2
    exact ⟨by omega, fun _ => by omega, fun _ => by omega⟩
  · have h1 := Int.fmod_nonneg_of_pos a hb
    have h2 := Int.fmod_lt_of_pos a hb
    exact ⟨by omega, fun _ => by omega, fun _ => by omega⟩
theorem fmod_two {a b : Int} {k : Nat} (hb : b ≠ 0) (h : b.natAbs < 2 ^ (k + 1)) (hr : 2 ^ k ≤ (a.fmod b).natAbs) : (b.fmod (a.fmod b)).natAbs < 2 ^ k := by
  have f := fmod_abs a hb
  generalize a.fmod b = r at hr f
  have p2 : 2 ^ (k + 1) = 2 * 2 ^ k := by rw [Nat.pow_succ, Nat.mul_comm]
  have p0 : 0 < 2 ^ k := Nat.pow_pos (by decide)
  rw [p2] at h
  generalize 2 ^ k = w at *
  rcases Int.lt_or_gt_of_ne hb with hn | hp
  · have := f.2.2 hn
    have e : b.fmod r = -((-b).fmod (-r)) := by rw [Int.neg_fmod_neg, Int.neg_neg]
    have e2 : (-b).fmod (-r) = (-b) - (-r) := by
      have : -b = (-b - -r) + (-r) := by omega
      rw [this, Int.add_fmod_right, Int.fmod_eq_of_lt (by omega) (by omega)]
      omega
    rw [e, e2]
    omega
  · have := f.2.1 hp
    have e2 : b.fmod r = b - r := by
      have : b = (b - r) + r := by omega
      rw [this, Int.add_fmod_right, Int.fmod_eq_of_lt (by omega) (by omega)]
      omega
    rw [e2]
    omega
theorem gcd_fmod (a b : Int) : Int.gcd b (a.fmod b) = Int.gcd a b := by
  apply Nat.dvd_antisymm
  · refine Int.dvd_gcd ?_ (Int.gcd_dvd_left b (a.fmod b))
    have h1 := Int.gcd_dvd_left b (a.fmod b)
    have h2 := Int.gcd_dvd_right b (a.fmod b)
    have := Int.dvd_add h2 (Int.dvd_mul_of_dvd_left (c := a.fdiv b) h1)
    rwa [Int.fmod_add_mul_fdiv] at this
  · refine Int.dvd_gcd (Int.gcd_dvd_right a b) ?_
    have h1 := Int.gcd_dvd_left a b
    have h2 := Int.gcd_dvd_right a b
    rw [Int.fmod_def]
    exact Int.dvd_sub h1 (Int.dvd_mul_of_dvd_left h2)
section
variable {TT : Nat → Option FnD} {κ : Cons} {cx : Nat → Nat → Bool} {wf : Nat} {n : Nat}
theorem gcd_loop (φ : Fns) : ∀ (k fuel : Nat) (a b : Int), b.natAbs < 2 ^ k → 2 * k + 1 ≤ fuel → ∃ g : Int, g.natAbs = Int.gcd a b ∧
    whL (fun ρ' => (ev φ κ (.cmp .ne (.v 1) (.k (.int 0))) ρ').bind truP) (fun ρ' => evS φ κ cx wf (.scons (.sasg (.tt (.cons (.tn 0) (.cons (.tn 1) .nil))) (.tup (.cons (.v 1) (.cons (.bin .mod (.v 0) (.v 1)) .nil)))) .snil) ρ') fuel [.shr (.int a), .shr (.int b)] = .nx [.shr (.int g), .shr (.int 0)] := by
  have stop : ∀ (fuel : Nat) (a : Int), 1 ≤ fuel → ∃ g : Int, g.natAbs = Int.gcd a 0 ∧ whL (fun ρ' => (ev φ κ (.cmp .ne (.v 1) (.k (.int 0))) ρ').bind truP) (fun ρ' => evS φ κ cx wf (.scons (.sasg (.tt (.cons (.tn 0) (.cons (.tn 1) .nil))) (.tup (.cons (.v 1) (.cons (.bin .mod (.v 0) (.v 1)) .nil)))) .snil) ρ') fuel [.shr (.int a), .shr (.int 0)] = .nx [.shr (.int g), .shr (.int 0)] := fun fuel a hf => by
    obtain ⟨f, rfl⟩ : ∃ f, fuel = f + 1 := ⟨fuel - 1, by omega⟩
    exact ⟨a, by simp, whL_end (by simp)⟩
  have step : ∀ (fuel : Nat) (a b : Int), b ≠ 0 → whL (fun ρ' => (ev φ κ (.cmp .ne (.v 1) (.k (.int 0))) ρ').bind truP) (fun ρ' => evS φ κ cx wf (.scons (.sasg (.tt (.cons (.tn 0) (.cons (.tn 1) .nil))) (.tup (.cons (.v 1) (.cons (.bin .mod (.v 0) (.v 1)) .nil)))) .snil) ρ') (fuel + 1) [.shr (.int a), .shr (.int b)] =
      whL (fun ρ' => (ev φ κ (.cmp .ne (.v 1) (.k (.int 0))) ρ').bind truP) (fun ρ' => evS φ κ cx wf (.scons (.sasg (.tt (.cons (.tn 0) (.cons (.tn 1) .nil))) (.tup (.cons (.v 1) (.cons (.bin .mod (.v 0) (.v 1)) .nil)))) .snil) ρ') fuel [.shr (.int b), .shr (.int (a.fmod b))] := fun fuel a b hb =>
    whL_step (by simp [hb]) (by simp [bin_mod hb])
  intro k
  induction k with
  | zero =>
    intro fuel a b hb hf
    have : b = 0 := by simpa using hb
    subst this
    exact stop fuel a (by omega)
  | succ k ih =>
    intro fuel a b hb hf
    by_cases h0 : b = 0
    · subst h0; exact stop fuel a (by omega)
    · obtain ⟨f, rfl⟩ : ∃ f, fuel = f + 1 := ⟨fuel - 1, by omega⟩
      rw [step f a b h0, ← gcd_fmod a b]
      by_cases hr : (a.fmod b).natAbs < 2 ^ k
      · exact ih f b (a.fmod b) hr (by omega)
      · have hr : 2 ^ k ≤ (a.fmod b).natAbs := by omega
        have p0 : 0 < 2 ^ k := Nat.pow_pos (by decide)
        have hr0 : a.fmod b ≠ 0 := by intro e; rw [e] at hr; simp at hr
        obtain ⟨f, rfl⟩ : ∃ f', f = f' + 1 := ⟨f - 1, by omega⟩
        rw [step f b (a.fmod b) hr0, ← gcd_fmod b (a.fmod b)]
        exact ih f (a.fmod b) (b.fmod (a.fmod b)) (fmod_two h0 hb hr) (by omega)
theorem common_ok {i : Nat} (h : TT i = some Zd.d_common) (hw : 100000 ≤ wf) {a b : Int} {k : Nat} (hk : k ≤ 40000) (hb : b.natAbs < 2 ^ k) : callN TT κ cx wf (n + 1) i [.int a, .int b] = .ok (.shr (.int (Int.gcd a b))) := by
  rw [callN_eq h rfl]
  unfold Zd.d_common startS
  obtain ⟨g, hg, e⟩ := gcd_loop (κ := κ) (cx := cx) (wf := wf) (callN TT κ cx wf n) k wf a b hb (by omega)
  have ab : biP .abs [.int g] = .ok (.int (Int.gcd a b)) := by
    show Res.ok (PV.int (if g < 0 then -g else g)) = _
    rw [← hg]
    congr 2
    split <;> omega
  refine seq_step _ _ (ρ' := [.shr (.int g), .shr (.int 0)]) ?_ ?_
  · rw [es_wh]; exact e
  · simp [ab]
/-- a number that goes into another one -/
theorem fdiv_neg_dvd {a g : Int} (h : g ∣ a) (hg : g ≠ 0) : a.fdiv (-g) = -(a / g) := by
  obtain ⟨c, rfl⟩ := h
  rw [Int.mul_ediv_cancel_left _ hg]
  have : g * c = (-c) * (-g) := by rw [Int.neg_mul_neg, Int.mul_comm]
  rw [this, Int.mul_fdiv_cancel _ (by omega)]
theorem least_ok {i j : Nat} (hi : TT i = some Zd.d_common) (hj : TT j = some ⟨2, 3, (.scons (.sset 2 (.call i (.cons (.v 0) (.cons (.v 1) .nil)))) (.scons (.sif (.cmp .lt (.v 1) (.k (.int 0))) (.scons (.sset 2 (.neg (.v 2))) .snil) .snil) (.scons (.sret (.tup (.cons (.bin .fdv (.v 0) (.v 2)) (.cons (.bin .fdv (.v 1) (.v 2)) .nil)))) .snil)))⟩) (hw : 100000 ≤ wf) {t b : Int} {k : Nat} (hk : k ≤ 8999) (h0 : b ≠ 0) (hb : b.natAbs < 2 ^ k) :
    callN TT κ cx wf (n + 2) j [.int t, .int b] = .ok (.shr (frP (Rat.divInt t b))) := by
  have hc := common_ok (κ := κ) (cx := cx) (n := n) hi hw (a := t) (by omega) hb
  rw [callN_eq hj rfl]
  unfold startS
  have g0 : (Int.gcd t b : Int) ≠ 0 := by
    have := Int.gcd_pos_of_ne_zero_right t h0
    omega
  have gl : (Int.gcd t b) ≤ b.natAbs := Int.gcd_le_natAbs_right t h0
  have lg : (Int.gcd t b).log2 < 9000 := by
    have := log2_small (n := Int.gcd t b) (k := k + 1) (Nat.lt_of_le_of_lt gl (Nat.lt_of_lt_of_le hb (Nat.pow_le_pow_right (by decide) (by omega)))) (by omega)
    omega
  have d1 := Int.gcd_dvd_left t b
  have d2 := Int.gcd_dvd_right t b
  have nn : 0 ≤ (Int.gcd t b : Int) := by omega
  unfold frP
  rw [Rat.num_divInt, Rat.den_divInt, if_neg h0]
  have gc : b.gcd t = t.gcd b := Int.gcd_comm b t
  rw [gc]
  rcases Int.lt_or_gt_of_ne h0 with hn | hp
  · have f1 : t.fdiv (-(Int.gcd t b : Int)) = b.sign * t / (Int.gcd t b : Int) := by
      rw [fdiv_neg_dvd d1 g0, Int.sign_eq_neg_one_of_neg hn, Int.neg_one_mul, Int.neg_ediv_of_dvd d1]
    have f2 : b.fdiv (-(Int.gcd t b : Int)) = ((b.natAbs / Int.gcd t b : Nat) : Int) := by
      rw [fdiv_neg_dvd d2 g0, ← Int.neg_ediv_of_dvd d2, Int.natCast_ediv]
      congr 1
      omega
    have b1 : ∀ x : Int, binP .fdv (.int x) (.int (-(Int.gcd t b : Int))) = .ok (.int (x.fdiv (-(Int.gcd t b : Int)))) := fun x => bin_fdvL (by omega) (by rw [Int.natAbs_neg]; exact lg)
    simp [hc, hn, b1, f1, f2]
  · have f1 : t.fdiv (Int.gcd t b : Int) = b.sign * t / (Int.gcd t b : Int) := by
      rw [Int.fdiv_eq_ediv_of_nonneg _ nn, Int.sign_eq_one_of_pos hp, Int.one_mul]
    have f2 : b.fdiv (Int.gcd t b : Int) = ((b.natAbs / Int.gcd t b : Nat) : Int) := by
      rw [Int.fdiv_eq_ediv_of_nonneg _ nn, Int.natCast_ediv]
      congr 1
      omega
    have b1 : ∀ x : Int, binP .fdv (.int x) (.int (Int.gcd t b : Int)) = .ok (.int (x.fdiv (Int.gcd t b : Int))) := fun x => bin_fdvL g0 lg
    have hp' : ¬ b < 0 := by omega
    simp [hc, hp', b1, f1, f2]
end
end Zp
end
section
namespace Zp
open Z
theorem divInt_sz {t b : Int} {m : Nat} (h0 : b ≠ 0) (ht : t.natAbs < 2 ^ m) (hb : b.natAbs < 2 ^ m) : Sz m (Rat.divInt t b) := by
  refine ⟨?_, ?_⟩
  · rw [Rat.num_divInt]
    have d : (b.gcd t : Int) ∣ b.sign * t := Int.dvd_mul_of_dvd_right (Int.gcd_dvd_right b t)
    rw [Int.natAbs_ediv_of_dvd d]
    refine Nat.lt_of_le_of_lt (Nat.div_le_self _ _) ?_
    rw [Int.natAbs_mul, Int.natAbs_sign_of_ne_zero h0, Nat.one_mul]
    exact ht
  · rw [Rat.den_divInt, if_neg h0]
    exact Nat.lt_of_le_of_lt (Nat.div_le_self _ _) hb
theorem two_mul_lt {a b k m : Nat} (ha : a < 2 ^ k) (hb : b < 2 ^ m) : a * b < 2 ^ (k + m) := by
  rw [Nat.pow_add]
  exact Nat.mul_lt_mul_of_lt_of_lt ha hb
theorem mul_abs {a b : Int} {k m : Nat} (ha : a.natAbs < 2 ^ k) (hb : b.natAbs < 2 ^ m) : (a * b).natAbs < 2 ^ (k + m) := by
  rw [Int.natAbs_mul]
  exact two_mul_lt ha hb
theorem add_abs {a b : Int} {k : Nat} (ha : a.natAbs < 2 ^ k) (hb : b.natAbs < 2 ^ k) : (a + b).natAbs < 2 ^ (k + 1) := by
  rw [Nat.pow_succ]
  have := Int.natAbs_add_le a b
  omega
theorem sub_abs {a b : Int} {k : Nat} (ha : a.natAbs < 2 ^ k) (hb : b.natAbs < 2 ^ k) : (a - b).natAbs < 2 ^ (k + 1) := by
  have := add_abs ha (b := -b) (by rw [Int.natAbs_neg]; exact hb)
  rwa [← Int.sub_eq_add_neg] at this
theorem bin_mulW {a b : Int} {k m : Nat} (ha : a.natAbs < 2 ^ k) (hb : b.natAbs < 2 ^ m) (h : k + m < 900000) : binP .mul (.int a) (.int b) = .ok (.int (a * b)) := by
  show (if mulOk a b = true then Res.ok (PV.int (a * b)) else .bad) = _
  have : mulOk a b = true := by
    unfold mulOk
    have h1 := log2_small (k := k + 1) (Nat.lt_of_lt_of_le ha (Nat.pow_le_pow_right (by decide) (Nat.le_succ _))) (by omega)
    have h2 := log2_small (k := m + 1) (Nat.lt_of_lt_of_le hb (Nat.pow_le_pow_right (by decide) (Nat.le_succ _))) (by omega)
    have : Nat.blt (a.natAbs.log2 + b.natAbs.log2) 1000000 = true := Nat.ble_eq_true_of_le (by omega)
    rw [this, Bool.or_true]
  rw [this]
  rfl
/-! the operations on fractions as on rational numbers -/
theorem add_eq (x y : Rat) : Rat.divInt (x.num * y.den + y.num * x.den) ((x.den : Int) * y.den) = x + y := by
  have := Rat.divInt_add_divInt x.num y.num (d₁ := x.den) (d₂ := y.den) (by have := x.den_nz; omega) (by have := y.den_nz; omega)
  rw [Rat.num_divInt_den, Rat.num_divInt_den] at this
  exact this.symm
theorem sub_eq (x y : Rat) : Rat.divInt (x.num * y.den - y.num * x.den) ((x.den : Int) * y.den) = x - y := by
  have := Rat.divInt_sub_divInt x.num y.num (d₁ := x.den) (d₂ := y.den) (by have := x.den_nz; omega) (by have := y.den_nz; omega)
  rw [Rat.num_divInt_den, Rat.num_divInt_den] at this
  exact this.symm
theorem mul_eq (x y : Rat) : Rat.divInt (x.num * y.num) ((x.den : Int) * y.den) = x * y := by
  have := Rat.divInt_mul_divInt x.num y.num (d₁ := x.den) (d₂ := y.den)
  rw [Rat.num_divInt_den, Rat.num_divInt_den] at this
  exact this.symm
theorem div_eq (x y : Rat) : Rat.divInt (x.num * y.den) ((x.den : Int) * y.num) = x / y := by
  have := Rat.divInt_mul_divInt x.num (y.den : Int) (d₁ := x.den) (d₂ := y.num)
  rw [Rat.num_divInt_den, ← Rat.inv_divInt, Rat.num_divInt_den] at this
  rw [Rat.div_def]
  exact this.symm
theorem den_abs (x : Rat) : ((x.den : Int)).natAbs = x.den := Int.natAbs_natCast _
theorem den_ne (x : Rat) : (x.den : Int) ≠ 0 := by have := x.den_nz; omega
theorem den_pos' (x : Rat) : (0 : Int) < x.den := by have := x.den_nz; omega
section
variable {k : Nat} {x y : Rat}
theorem Sz.add (hx : Sz k x) (hy : Sz k y) : Sz (2 * k + 1) (x + y) := by
  rw [← add_eq]
  refine divInt_sz (Int.mul_ne_zero (den_ne x) (den_ne y)) ?_ ?_
  · have e : 2 * k + 1 = k + k + 1 := by omega
    rw [e]
    exact add_abs (mul_abs hx.1 (by rw [den_abs]; exact hy.2)) (mul_abs hy.1 (by rw [den_abs]; exact hx.2))
  · have := mul_abs (a := x.den) (b := y.den) (k := k) (m := k) (by rw [den_abs]; exact hx.2) (by rw [den_abs]; exact hy.2)
    exact Nat.lt_of_lt_of_le this (Nat.pow_le_pow_right (by decide) (by omega))
theorem Sz.sub (hx : Sz k x) (hy : Sz k y) : Sz (2 * k + 1) (x - y) := by
  rw [← sub_eq]
  refine divInt_sz (Int.mul_ne_zero (den_ne x) (den_ne y)) ?_ ?_
  · have e : 2 * k + 1 = k + k + 1 := by omega
    rw [e]
    exact sub_abs (mul_abs hx.1 (by rw [den_abs]; exact hy.2)) (mul_abs hy.1 (by rw [den_abs]; exact hx.2))
  · have := mul_abs (a := x.den) (b := y.den) (k := k) (m := k) (by rw [den_abs]; exact hx.2) (by rw [den_abs]; exact hy.2)
    exact Nat.lt_of_lt_of_le this (Nat.pow_le_pow_right (by decide) (by omega))
theorem Sz.mul (hx : Sz k x) (hy : Sz k y) : Sz (2 * k) (x * y) := by
  rw [← mul_eq]
  have e : 2 * k = k + k := by omega
  rw [e]
  exact divInt_sz (Int.mul_ne_zero (den_ne x) (den_ne y)) (mul_abs hx.1 hy.1) (mul_abs (by rw [den_abs]; exact hx.2) (by rw [den_abs]; exact hy.2))
theorem Sz.div (hx : Sz k x) (hy : Sz k y) (h0 : y ≠ 0) : Sz (2 * k) (x / y) := by
  rw [← div_eq]
  have e : 2 * k = k + k := by omega
  rw [e]
  exact divInt_sz (Int.mul_ne_zero (den_ne x) (by simpa using h0)) (mul_abs hx.1 (by rw [den_abs]; exact hy.2)) (mul_abs (by rw [den_abs]; exact hx.2) hy.1)
theorem Sz.neg (hx : Sz k x) : Sz k (-x) := ⟨by rw [Rat.neg_num, Int.natAbs_neg]; exact hx.1, by rw [Rat.neg_den]; exact hx.2⟩
theorem Sz.int {i : Int} (h : i.natAbs < 2 ^ k) (hk : 0 < k) : Sz k (i : Rat) := ⟨h, Nat.one_lt_two_pow (by omega)⟩
end
theorem fr_int (i : Int) : frP (i : Rat) = .tup [.int i, .int 1] := rfl
theorem ix2_0 (x y : PV) : ixP (.tup [x, y]) (.int 0) = .ok x := rfl
theorem ix2_1 (x y : PV) : ixP (.tup [x, y]) (.int 1) = .ok y := rfl
theorem ixf0 (q : Rat) : ixP (frP q) (.int 0) = .ok (.int q.num) := rfl
theorem ixf1 (q : Rat) : ixP (frP q) (.int 1) = .ok (.int (q.den : Int)) := rfl
/-- -1, 0 or 1 -/
def sgn (q : Rat) : Int := (if 0 < q then 1 else 0) - (if q < 0 then 1 else 0)
theorem num_pos_iff (q : Rat) : 0 < q.num ↔ 0 < q := by
  rw [Rat.lt_iff]
  simp
theorem num_neg_iff (q : Rat) : q.num < 0 ↔ q < 0 := by
  rw [Rat.lt_iff]
  simp
def lsT (j : Nat) : FnD := ⟨2, 3, (.scons (.sset 2 (.call j (.cons (.v 0) (.cons (.v 1) .nil)))) (.scons (.sif (.cmp .lt (.v 1) (.k (.int 0))) (.scons (.sset 2 (.neg (.v 2))) .snil) .snil) (.scons (.sret (.tup (.cons (.bin .fdv (.v 0) (.v 2)) (.cons (.bin .fdv (.v 1) (.v 2)) .nil)))) .snil)))⟩
def plT (j : Nat) : FnD := ⟨2, 2, (.scons (.sret (.call j (.cons (.bin .add (.bin .mul (.ix (.v 0) (.k (.int 0))) (.ix (.v 1) (.k (.int 1)))) (.bin .mul (.ix (.v 1) (.k (.int 0))) (.ix (.v 0) (.k (.int 1))))) (.cons (.bin .mul (.ix (.v 0) (.k (.int 1))) (.ix (.v 1) (.k (.int 1)))) .nil)))) .snil)⟩
def miT (j : Nat) : FnD := ⟨2, 2, (.scons (.sret (.call j (.cons (.bin .sub (.bin .mul (.ix (.v 0) (.k (.int 0))) (.ix (.v 1) (.k (.int 1)))) (.bin .mul (.ix (.v 1) (.k (.int 0))) (.ix (.v 0) (.k (.int 1))))) (.cons (.bin .mul (.ix (.v 0) (.k (.int 1))) (.ix (.v 1) (.k (.int 1)))) .nil)))) .snil)⟩
def tiT (j : Nat) : FnD := ⟨2, 2, (.scons (.sret (.call j (.cons (.bin .mul (.ix (.v 0) (.k (.int 0))) (.ix (.v 1) (.k (.int 0)))) (.cons (.bin .mul (.ix (.v 0) (.k (.int 1))) (.ix (.v 1) (.k (.int 1)))) .nil)))) .snil)⟩
def quT (j : Nat) : FnD := ⟨2, 2, (.scons (.sret (.call j (.cons (.bin .mul (.ix (.v 0) (.k (.int 0))) (.ix (.v 1) (.k (.int 1)))) (.cons (.bin .mul (.ix (.v 0) (.k (.int 1))) (.ix (.v 1) (.k (.int 0)))) .nil)))) .snil)⟩
section
variable (TT : Nat → Option FnD) (κ : Cons) (cx : Nat → Nat → Bool) (wf : Nat)
/-- least terms, by the def j -/
def LsAt (j : Nat) : Prop := ∀ (n : Nat) (t b : Int) (k : Nat), k ≤ 8999 → b ≠ 0 → b.natAbs < 2 ^ k → callN TT κ cx wf (n + 2) j [.int t, .int b] = .ok (.shr (frP (Rat.divInt t b)))
end
section
variable {TT : Nat → Option FnD} {κ : Cons} {cx : Nat → Nat → Bool} {wf : Nat} {n : Nat}
theorem lsAt {i j : Nat} (hi : TT i = some Zd.d_common) (hj : TT j = some (lsT i)) (hw : 100000 ≤ wf) : LsAt TT κ cx wf j := fun n t b k hk h0 hb => least_ok hi hj hw hk h0 hb
variable {i j k : Nat} {x y : Rat} (L : LsAt TT κ cx wf j)
include L
theorem plT_ok (h : TT i = some (plT j)) (hk : k ≤ 4000) (hx : Sz k x) (hy : Sz k y) : callN TT κ cx wf (n + 3) i [frP x, frP y] = .ok (.shr (frP (x + y))) := by
  rw [callN_eq h rfl]
  have dx := hx.2; have dy := hy.2
  rw [← den_abs x] at dx; rw [← den_abs y] at dy
  have m1 := bin_mulW (k := k) (m := k) hx.1 dy (by omega)
  have m2 := bin_mulW (k := k) (m := k) hy.1 dx (by omega)
  have m3 := bin_mulW (k := k) (m := k) dx dy (by omega)
  have l := L n (x.num * y.den + y.num * x.den) ((x.den : Int) * y.den) (k + k) (by omega) (Int.mul_ne_zero (den_ne x) (den_ne y)) (mul_abs dx dy)
  rw [add_eq] at l
  simp [plT, startS, ixf0, ixf1, m1, m2, m3, l]
theorem miT_ok (h : TT i = some (miT j)) (hk : k ≤ 4000) (hx : Sz k x) (hy : Sz k y) : callN TT κ cx wf (n + 3) i [frP x, frP y] = .ok (.shr (frP (x - y))) := by
  rw [callN_eq h rfl]
  have dx := hx.2; have dy := hy.2
  rw [← den_abs x] at dx; rw [← den_abs y] at dy
  have m1 := bin_mulW (k := k) (m := k) hx.1 dy (by omega)
  have m2 := bin_mulW (k := k) (m := k) hy.1 dx (by omega)
  have m3 := bin_mulW (k := k) (m := k) dx dy (by omega)
  have l := L n (x.num * y.den - y.num * x.den) ((x.den : Int) * y.den) (k + k) (by omega) (Int.mul_ne_zero (den_ne x) (den_ne y)) (mul_abs dx dy)
  rw [sub_eq] at l
  simp [miT, startS, ixf0, ixf1, m1, m2, m3, l]
theorem tiT_ok (h : TT i = some (tiT j)) (hk : k ≤ 4000) (hx : Sz k x) (hy : Sz k y) : callN TT κ cx wf (n + 3) i [frP x, frP y] = .ok (.shr (frP (x * y))) := by
  rw [callN_eq h rfl]
  have dx := hx.2; have dy := hy.2
  rw [← den_abs x] at dx; rw [← den_abs y] at dy
  have m1 := bin_mulW (k := k) (m := k) hx.1 hy.1 (by omega)
  have m3 := bin_mulW (k := k) (m := k) dx dy (by omega)
  have l := L n (x.num * y.num) ((x.den : Int) * y.den) (k + k) (by omega) (Int.mul_ne_zero (den_ne x) (den_ne y)) (mul_abs dx dy)
  rw [mul_eq] at l
  simp [tiT, startS, ixf0, ixf1, m1, m3, l]
theorem quT_ok (h : TT i = some (quT j)) (hk : k ≤ 4000) (hx : Sz k x) (hy : Sz k y) (h0 : y ≠ 0) : callN TT κ cx wf (n + 3) i [frP x, frP y] = .ok (.shr (frP (x / y))) := by
  rw [callN_eq h rfl]
  have dx := hx.2; have dy := hy.2
  rw [← den_abs x] at dx; rw [← den_abs y] at dy
  have m1 := bin_mulW (k := k) (m := k) hx.1 dy (by omega)
  have m3 := bin_mulW (k := k) (m := k) dx hy.1 (by omega)
  have l := L n (x.num * y.den) ((x.den : Int) * y.num) (k + k) (by omega) (Int.mul_ne_zero (den_ne x) (by simpa using h0)) (mul_abs dx hy.1)
  rw [div_eq] at l
  simp [quT, startS, ixf0, ixf1, m1, m3, l]
end
section
variable {TT : Nat → Option FnD} {κ : Cons} {cx : Nat → Nat → Bool} {wf : Nat} {n : Nat} {i k : Nat} {x y : Rat}
theorem less_ok (h : TT i = some Zd.d_is_less) (hk : k ≤ 400000) (hx : Sz k x) (hy : Sz k y) : callN TT κ cx wf (n + 1) i [frP x, frP y] = .ok (.shr (.bl (decide (x < y)))) := by
  rw [callN_eq h rfl]
  have dx := hx.2; have dy := hy.2
  rw [← den_abs x] at dx; rw [← den_abs y] at dy
  have m1 := bin_mulW (k := k) (m := k) hx.1 dy (by omega)
  have m2 := bin_mulW (k := k) (m := k) hy.1 dx (by omega)
  have e : decide (x.num * y.den < y.num * x.den) = decide (x < y) := by
    congr 1
    exact propext (Rat.lt_iff x y).symm
  simp [Zd.d_is_less, startS, ixf0, ixf1, m1, m2, e]
theorem sign_ok (h : TT i = some Zd.d_sign_of) : callN TT κ cx wf (n + 1) i [frP x] = .ok (.shr (.int (sgn x))) := by
  rw [callN_eq h rfl]
  have e1 : decide (0 < x.num) = decide (0 < x) := by congr 1; exact propext (num_pos_iff x)
  have e2 : decide (x.num < 0) = decide (x < 0) := by congr 1; exact propext (num_neg_iff x)
  simp [Zd.d_sign_of, startS, ixf0, e1, e2, sgn]
theorem whole_fr (h : TT i = some Zd.d_whole) (a : Int) : callN TT κ cx wf (n + 1) i [.int a] = .ok (.shr (frP (a : Rat))) := by
  rw [callN_eq h rfl]
  simp [Zd.d_whole, startS, fr_int]
theorem floored_ok (h : TT i = some Zd.d_floored) (hk : k ≤ 8999) (hx : Sz k x) : callN TT κ cx wf (n + 1) i [frP x] = .ok (.shr (.int x.floor)) := by
  rw [callN_eq h rfl]
  have lg : (x.den).log2 < 9000 := by
    have := log2_small (n := x.den) (k := k + 1) (Nat.lt_of_lt_of_le hx.2 (Nat.pow_le_pow_right (by decide) (by omega))) (by omega)
    omega
  have b : binP .fdv (.int x.num) (.int (x.den : Int)) = .ok (.int x.floor) := by
    rw [bin_fdvL (den_ne x) (by rw [den_abs]; exact lg), Rat.floor_def, Int.fdiv_eq_ediv_of_nonneg _ (by omega)]
  simp [Zd.d_floored, startS, ixf0, ixf1, b]
/-- the nearest whole number -/
def near (q : Rat) : Int := (2 * q.num + q.den) / (2 * q.den)
theorem rounded_ok (h : TT i = some Zd.d_rounded) (hk : k ≤ 8000) (hx : Sz k x) : callN TT κ cx wf (n + 1) i [frP x] = .ok (.shr (.int (near x))) := by
  rw [callN_eq h rfl]
  have lg : (2 * x.den).log2 < 9000 := by
    have := log2_small (n := 2 * x.den) (k := k + 1) (by rw [Nat.pow_succ]; have := hx.2; omega) (by omega)
    omega
  have b : binP .fdv (.int (2 * x.num + x.den)) (.int (2 * (x.den : Int))) = .ok (.int (near x)) := by
    rw [bin_fdvL (by have := den_ne x; omega) (by rw [Int.natAbs_mul, den_abs]; exact lg), Int.fdiv_eq_ediv_of_nonneg _ (by omega)]
    rfl
  simp [Zd.d_rounded, startS, ixf0, ixf1, bin_mul_l, b]
theorem eq_fr (x y : Rat) : cmpP .eq (frP x) (frP y) = .ok (.bl (decide (x = y))) := by
  show (if (dep (frP x) 20 && dep (frP y) 20) = true then Res.ok (PV.bl (eqP (frP x) (frP y))) else .bad) = _
  have e : eqP (frP x) (frP y) = decide (x = y) := by
    show (x.num == y.num && (((x.den : Int) == (y.den : Int)) && true)) = _
    rw [Bool.and_true]
    by_cases h : x = y
    · subst h; simp
    · rw [decide_eq_false h]
      by_cases h1 : x.num = y.num
      · have h2 : x.den ≠ y.den := fun h2 => h (Rat.ext h1 h2)
        have : ((x.den : Int) == (y.den : Int)) = false := by simp; omega
        rw [this, Bool.and_false]
      · have : (x.num == y.num) = false := by simpa using h1
        rw [this, Bool.false_and]
  rw [e]
  rfl
theorem ne_fr (x y : Rat) : cmpP .ne (frP x) (frP y) = .ok (.bl (!decide (x = y))) := by
  have h := eq_fr x y
  have h : (if (dep (frP x) 20 && dep (frP y) 20) = true then Res.ok (PV.bl (eqP (frP x) (frP y))) else .bad) = .ok (.bl (decide (x = y))) := h
  show (if (dep (frP x) 20 && dep (frP y) 20) = true then Res.ok (PV.bl (!eqP (frP x) (frP y))) else .bad) = _
  have d : (dep (frP x) 20 && dep (frP y) 20) = true := rfl
  rw [if_pos d] at h ⊢
  have e : eqP (frP x) (frP y) = decide (x = y) := by
    have := Res.ok.inj h
    exact PV.bl.inj this
  rw [e]
def lesR (x : Rat) (xs : List Rat) : Rat := xs.foldl (fun m x => if x < m then x else m) x
def grtR (x : Rat) (xs : List Rat) : Rat := xs.foldl (fun m x => if m < x then x else m) x
theorem lesR_sz : ∀ (xs : List Rat) (x : Rat), Sz k x → (∀ y ∈ xs, Sz k y) → Sz k (lesR x xs)
  | [], x, h, _ => h
  | y :: xs, x, h, hs => by
    refine lesR_sz xs (if y < x then y else x) ?_ fun z hz => hs z (List.mem_cons_of_mem _ hz)
    split
    · exact hs y (List.mem_cons_self ..)
    · exact h
theorem grtR_sz : ∀ (xs : List Rat) (x : Rat), Sz k x → (∀ y ∈ xs, Sz k y) → Sz k (grtR x xs)
  | [], x, h, _ => h
  | y :: xs, x, h, hs => by
    refine grtR_sz xs (if x < y then y else x) ?_ fun z hz => hs z (List.mem_cons_of_mem _ hz)
    split
    · exact hs y (List.mem_cons_self ..)
    · exact h
theorem cut1 (x : PV) (xs : List PV) : cutP (x :: xs) (some 1) none = xs := by
  rw [cut_lo _ (by decide)]
  rfl
theorem lesser_ok (h : TT 32 = some Zd.d_is_less) (h2 : TT 33 = some Zd.d_lesser) (hk : k ≤ 400000) {x : Rat} {xs : List Rat} (hx : Sz k x) (hs : ∀ y ∈ xs, Sz k y) : callN TT κ cx wf (n + 2) 33 [.lst ((x :: xs).map frP)] = .ok (.shr (frP (lesR x xs))) := by
  rw [callN_eq h2 rfl]
  unfold Zd.d_lesser startS
  have key := forL_fold (g := stepF (callN TT κ cx wf (n + 1)) κ cx wf (.tn 2) Zd.lesser_b1) (em := frP) (σ := Rat × Slot) (st := fun s => [.shr (.lst ((x :: xs).map frP)), .shr (frP s.1), s.2]) (f := fun s y => (if y < s.1 then y else s.1, .shr (frP y))) (P := fun s ys => Sz k s.1 ∧ ∀ y ∈ ys, Sz k y) (fun s y ys hp => by
    obtain ⟨m, sl⟩ := s
    obtain ⟨p1, p2⟩ := hp
    have hy := p2 y (List.mem_cons_self ..)
    have l := less_ok (κ := κ) (cx := cx) (wf := wf) (n := n) h hk hy p1
    refine ⟨?_, ?_, fun z hz => p2 z (List.mem_cons_of_mem _ hz)⟩
    · by_cases e : y < m <;> simp [stepF, Zd.lesser_b1, l, e]
    · show Sz k (if y < m then y else m)
      split
      · exact hy
      · exact p1) xs (x, .un) ⟨hx, hs⟩
  have fs : ∀ (ys : List Rat) (s : Rat × Slot), (ys.foldl (fun s y => (if y < s.1 then y else s.1, Slot.shr (frP y))) s).1 = lesR s.1 ys := by
    intro ys
    induction ys with
    | nil => intro s; rfl
    | cons y ys ih => intro s; rw [List.foldl_cons, ih]; rfl
  have e := fs xs (x, .un)
  simp only [List.map_cons] at key
  simp [ix_lst0, cut1, key, e]
theorem greater_ok (h : TT 32 = some Zd.d_is_less) (h2 : TT 34 = some Zd.d_greater) (hk : k ≤ 400000) {x : Rat} {xs : List Rat} (hx : Sz k x) (hs : ∀ y ∈ xs, Sz k y) : callN TT κ cx wf (n + 2) 34 [.lst ((x :: xs).map frP)] = .ok (.shr (frP (grtR x xs))) := by
  rw [callN_eq h2 rfl]
  unfold Zd.d_greater startS
  have key := forL_fold (g := stepF (callN TT κ cx wf (n + 1)) κ cx wf (.tn 2) Zd.greater_b1) (em := frP) (σ := Rat × Slot) (st := fun s => [.shr (.lst ((x :: xs).map frP)), .shr (frP s.1), s.2]) (f := fun s y => (if s.1 < y then y else s.1, .shr (frP y))) (P := fun s ys => Sz k s.1 ∧ ∀ y ∈ ys, Sz k y) (fun s y ys hp => by
    obtain ⟨m, sl⟩ := s
    obtain ⟨p1, p2⟩ := hp
    have hy := p2 y (List.mem_cons_self ..)
    have l := less_ok (κ := κ) (cx := cx) (wf := wf) (n := n) h hk p1 hy
    refine ⟨?_, ?_, fun z hz => p2 z (List.mem_cons_of_mem _ hz)⟩
    · by_cases e : m < y <;> simp [stepF, Zd.greater_b1, l, e]
    · show Sz k (if m < y then y else m)
      split
      · exact hy
      · exact p1) xs (x, .un) ⟨hx, hs⟩
  have fs : ∀ (ys : List Rat) (s : Rat × Slot), (ys.foldl (fun s y => (if s.1 < y then y else s.1, Slot.shr (frP y))) s).1 = grtR s.1 ys := by
    intro ys
    induction ys with
    | nil => intro s; rfl
    | cons y ys ih => intro s; rw [List.foldl_cons, ih]; rfl
  have e := fs xs (x, .un)
  simp only [List.map_cons] at key
  simp [ix_lst0, cut1, key, e]
theorem frac_ok (h : TT 25 = some Zd.d_common) (h2 : TT 38 = some Zd.d_is_fraction) (hw : 100000 ≤ wf) (hk : k ≤ 40000) (hx : Sz k x) : callN TT κ cx wf (n + 2) 38 [frP x] = .ok (.shr (.bl true)) := by
  rw [callN_eq h2 rfl]
  unfold Zd.d_is_fraction startS
  have dx := hx.2
  rw [← den_abs x] at dx
  have c := common_ok (κ := κ) (cx := cx) (n := n) h hw (a := x.num) hk dx
  have g : Int.gcd x.num (x.den : Int) = 1 := by
    show Nat.gcd x.num.natAbs (x.den : Int).natAbs = 1
    rw [den_abs]
    exact x.reduced
  rw [g] at c
  have hd := den_pos' x
  have hd' : ¬ (x.den : Int) < 1 := by omega
  have hi : isiP .tuple (frP x) = true := rfl
  have hl : biP .len [frP x] = .ok (.int 2) := rfl
  have hl' : cmpP .ne (.int 2) (.int 2) = .ok (.bl false) := rfl
  simp [hi, hl, ixf0, ixf1, hd', c]
end
/-- the defs of fractions -/
structure HQ (TT : Nat → Option FnD) (wf : Nat) : Prop where
  w : 100000 ≤ wf
  h25 : TT 25 = some Zd.d_common
  h26 : TT 26 = some Zd.d_least
  h27 : TT 27 = some Zd.d_whole
  h28 : TT 28 = some Zd.d_plus
  h29 : TT 29 = some Zd.d_minus
  h30 : TT 30 = some Zd.d_times
  h31 : TT 31 = some Zd.d_quotient
  h32 : TT 32 = some Zd.d_is_less
  h33 : TT 33 = some Zd.d_lesser
  h34 : TT 34 = some Zd.d_greater
  h35 : TT 35 = some Zd.d_sign_of
section
variable {TT : Nat → Option FnD} {κ : Cons} {cx : Nat → Nat → Bool} {wf : Nat} {n : Nat} {k : Nat} {x y : Rat} (Q : HQ TT wf)
include Q
theorem HQ.ls : LsAt TT κ cx wf 26 := lsAt Q.h25 Q.h26 Q.w
theorem HQ.wh (a : Int) : callN TT κ cx wf (n + 1) 27 [.int a] = .ok (.shr (frP (a : Rat))) := whole_fr Q.h27 a
theorem HQ.pl (hk : k ≤ 4000) (hx : Sz k x) (hy : Sz k y) : callN TT κ cx wf (n + 3) 28 [frP x, frP y] = .ok (.shr (frP (x + y))) := plT_ok Q.ls Q.h28 hk hx hy
theorem HQ.mi (hk : k ≤ 4000) (hx : Sz k x) (hy : Sz k y) : callN TT κ cx wf (n + 3) 29 [frP x, frP y] = .ok (.shr (frP (x - y))) := miT_ok Q.ls Q.h29 hk hx hy
theorem HQ.ti (hk : k ≤ 4000) (hx : Sz k x) (hy : Sz k y) : callN TT κ cx wf (n + 3) 30 [frP x, frP y] = .ok (.shr (frP (x * y))) := tiT_ok Q.ls Q.h30 hk hx hy
theorem HQ.qu (hk : k ≤ 4000) (hx : Sz k x) (hy : Sz k y) (h0 : y ≠ 0) : callN TT κ cx wf (n + 3) 31 [frP x, frP y] = .ok (.shr (frP (x / y))) := quT_ok Q.ls Q.h31 hk hx hy h0
theorem HQ.le (hk : k ≤ 400000) (hx : Sz k x) (hy : Sz k y) : callN TT κ cx wf (n + 1) 32 [frP x, frP y] = .ok (.shr (.bl (decide (x < y)))) := less_ok Q.h32 hk hx hy
theorem HQ.sg : callN TT κ cx wf (n + 1) 35 [frP x] = .ok (.shr (.int (sgn x))) := sign_ok Q.h35
end
/-- those that middles need -/
structure HQ0 (TT : Nat → Option FnD) (wf : Nat) : Prop where
  w : 100000 ≤ wf
  h25 : TT 25 = some Zd.d_common
  h26 : TT 26 = some Zd.d_least
  h27 : TT 27 = some Zd.d_whole
  h28 : TT 28 = some Zd.d_plus
  h31 : TT 31 = some Zd.d_quotient
theorem HQ.z {TT : Nat → Option FnD} {wf : Nat} (Q : HQ TT wf) : HQ0 TT wf := ⟨Q.w, Q.h25, Q.h26, Q.h27, Q.h28, Q.h31⟩
section
variable {TT : Nat → Option FnD} {κ : Cons} {cx : Nat → Nat → Bool} {wf : Nat} {n : Nat} {k : Nat} {x y : Rat} (Q : HQ0 TT wf)
include Q
theorem HQ0.ls : LsAt TT κ cx wf 26 := lsAt Q.h25 Q.h26 Q.w
theorem HQ0.wh (a : Int) : callN TT κ cx wf (n + 1) 27 [.int a] = .ok (.shr (frP (a : Rat))) := whole_fr Q.h27 a
theorem HQ0.pl (hk : k ≤ 4000) (hx : Sz k x) (hy : Sz k y) : callN TT κ cx wf (n + 3) 28 [frP x, frP y] = .ok (.shr (frP (x + y))) := plT_ok Q.ls Q.h28 hk hx hy
theorem HQ0.qu (hk : k ≤ 4000) (hx : Sz k x) (hy : Sz k y) (h0 : y ≠ 0) : callN TT κ cx wf (n + 3) 31 [frP x, frP y] = .ok (.shr (frP (x / y))) := quT_ok Q.ls Q.h31 hk hx hy h0
end
end Zp
end
section
/-! places, middles, segments -/
namespace Zd
open Z
def with_middles_b1 : Z.C := (.scons (.sapp 1 (.tup (.cons (.v 3) (.cons (.v 4) .nil)))) (.scons (.sasg (.tt (.cons (.tn 5) (.cons (.tn 6) .nil))) (.ix (.v 0) (.bin .mod (.bin .add (.v 2) (.k (.int 1))) (.bi .len (.cons (.v 0) .nil))))) (.scons (.sif (.an (.nt (.v 4)) (.nt (.v 6))) (.scons (.sset 7 (.comp [8] (.tn 8) (.seq (.tup (.cons (.k (.int 0)) (.cons (.k (.int 1)) .nil)))) (.k (.bl true)) (.call 31 (.cons (.call 28 (.cons (.ix (.v 3) (.v 8)) (.cons (.ix (.v 5) (.v 8)) .nil))) (.cons (.call 27 (.cons (.k (.int 2)) .nil)) .nil))))) (.scons (.sapp 1 (.tup (.cons (.bi .tuple (.cons (.v 7) .nil)) (.cons (.k (.bl true)) .nil)))) .snil)) .snil) .snil)))
def d_with_middles : Z.FnD := ⟨1, 9, (.scons (.sown 1 (.dsp .nil)) (.scons (.sfor (.tt (.cons (.tn 2) (.cons (.tt (.cons (.tn 3) (.cons (.tn 4) .nil))) .nil))) (.enu (.v 0)) with_middles_b1) (.scons (.sreo 1) .snil)))⟩
def d_places_of : Z.FnD := ⟨1, 4, (.scons (.sret (.call 39 (.cons (.comp [1, 2, 3] (.tt (.cons (.tn 1) (.cons (.tn 2) (.cons (.tn 3) .nil)))) (.seq (.v 0)) (.k (.bl true)) (.tup (.cons (.tup (.cons (.call 27 (.cons (.v 1) .nil)) (.cons (.call 27 (.cons (.v 2) .nil)) .nil))) (.cons (.cmp .eq (.v 3) (.k (.int 1))) .nil)))) .nil))) .snil)⟩
def segments_of_b1 : Z.C := (.scons (.sif (.ix (.ix (.v 2) (.bin .add (.v 4) (.k (.int 1)))) (.k (.int 1))) (.scons (.sapp 3 (.tup (.cons (.ix (.ix (.v 2) (.v 4)) (.k (.int 0))) (.cons (.ix (.ix (.v 2) (.bin .add (.v 4) (.k (.int 1)))) (.k (.int 0))) .nil)))) (.scons (.saug 4 .add (.k (.int 1))) .snil)) (.scons (.sapp 3 (.tup (.cons (.ix (.ix (.v 2) (.v 4)) (.k (.int 0))) (.cons (.ix (.ix (.v 2) (.bin .add (.v 4) (.k (.int 1)))) (.k (.int 0))) (.cons (.ix (.ix (.v 2) (.bin .add (.v 4) (.k (.int 2)))) (.k (.int 0))) .nil))))) (.scons (.saug 4 .add (.k (.int 2))) .snil))) .snil)
def d_segments_of : Z.FnD := ⟨1, 7, (.scons (.sset 1 (.ix (.comp [4, 5, 6] (.tt (.cons (.tn 4) (.cons (.tt (.cons (.tn 5) (.cons (.tn 6) .nil))) .nil))) (.enu (.v 0)) (.v 6) (.v 4)) (.k (.int 0)))) (.scons (.sset 2 (.bin .add (.sl (.v 0) (.v 1) .nop) (.sl (.v 0) .nop (.bin .add (.v 1) (.k (.int 1)))))) (.scons (.sown 3 (.dsp .nil)) (.scons (.sset 4 (.k (.int 0))) (.scons (.swh (.cmp .lt (.bin .add (.v 4) (.k (.int 1))) (.bi .len (.cons (.v 2) .nil))) segments_of_b1) (.scons (.sreo 3) .snil))))))⟩
def d_all_segments : Z.FnD := ⟨1, 2, (.scons (.sref (.comp [1] (.tn 1) (.seq (.v 0)) (.k (.bl true)) (.call 41 (.cons (.call 40 (.cons (.v 1) .nil)) .nil)))) .snil)⟩
end Zd
namespace Zp
open Z
abbrev Pq := Rat × Rat
abbrev Pl := Pq × Bool
def plP (p : Pq) : PV := .tup [frP p.1, frP p.2]
def rwP (r : Pl) : PV := .tup [plP r.1, .bl r.2]
def mid2 (a b : Pq) : Pq := ((a.1 + b.1) / 2, (a.2 + b.2) / 2)
def blk (a b : Pl) : List Pl := if a.2 || b.2 then [a] else [a, (mid2 a.1 b.1, true)]
def wm (z : Pl) : List Pl → List Pl
  | [] => []
  | a :: l => blk a (l.headD z) ++ wm z l
def withMid : List Pl → List Pl
  | [] => []
  | a :: l => wm a (a :: l)
inductive Seg where
  | ln (a b : Pq) | bd (a o b : Pq)
def sgP : Seg → PV
  | .ln a b => .tup [plP a, plP b]
  | .bd a o b => .tup [plP a, plP o, plP b]
def segs : List Pl → List Seg
  | a :: b :: r => if b.2 then .ln a.1 b.1 :: segs (b :: r) else match r with
    | c :: r' => .bd a.1 b.1 c.1 :: segs (c :: r')
    | [] => []
  | _ => []
def adj : List Pl → Prop
  | a :: b :: r => (a.2 = true ∨ b.2 = true) ∧ adj (b :: r)
  | _ => True
theorem wm_head (z : Pl) (l : List Pl) : ∃ r, wm z l ++ [z] = l.headD z :: r := by
  cases l with
  | nil => exact ⟨[], rfl⟩
  | cons a l =>
    show ∃ r, (blk a (l.headD z) ++ wm z l) ++ [z] = a :: r
    unfold blk
    split
    · exact ⟨_, rfl⟩
    · exact ⟨_, rfl⟩
theorem wm_adj (z : Pl) : ∀ l, adj (wm z l ++ [z])
  | [] => trivial
  | a :: l => by
    have ih := wm_adj z l
    obtain ⟨r, e⟩ := wm_head z l
    show adj ((blk a (l.headD z) ++ wm z l) ++ [z])
    rw [List.append_assoc, e] 
    rw [e] at ih
    unfold blk
    split
    · rename_i h
      rw [Bool.or_eq_true] at h
      exact ⟨h, ih⟩
    · exact ⟨.inr rfl, .inl rfl, ih⟩
theorem adj_drop : ∀ (k : Nat) (l : List Pl), adj l → adj (l.drop k)
  | 0, _, h => h
  | _ + 1, [], h => trivial
  | k + 1, [a], h => by rw [List.drop_succ_cons, List.drop_nil]; trivial
  | k + 1, a :: b :: r, h => adj_drop k (b :: r) h.2
theorem adj_take : ∀ (k : Nat) (l : List Pl), adj l → adj (l.take k)
  | 0, _, _ => trivial
  | k + 1, [], _ => trivial
  | k + 1, [a], _ => by rw [List.take_succ_cons, List.take_nil]; trivial
  | 1, a :: b :: r, h => trivial
  | k + 2, a :: b :: r, h => by
    have ih := adj_take (k + 1) (b :: r) h.2
    rw [List.take_succ_cons] at ih
    rw [List.take_succ_cons, List.take_succ_cons]
    exact ⟨h.1, ih⟩
theorem adj_glue : ∀ (l : List Pl) (x : Pl) (r : List Pl), adj (l ++ [x]) → adj (x :: r) → adj (l ++ x :: r)
  | [], _, _, _, h => h
  | [a], x, r, h1, h2 => ⟨h1.1, h2⟩
  | a :: b :: l, x, r, h1, h2 => ⟨h1.1, adj_glue (b :: l) x r h1.2 h2⟩
/-- the row from a place on, to it again -/
def rot (p : List Pl) (f : Nat) : List Pl := p.drop f ++ p.take (f + 1)
theorem rot_adj {p : List Pl} {f : Nat} {z : Pl} {r : List Pl} (hp : p = z :: r) (h : adj (p ++ [z])) (hf : f < p.length) : adj (rot p f) := by
  unfold rot
  have e : p.take (f + 1) = z :: r.take f := by rw [hp, List.take_succ_cons]
  rw [e]
  refine adj_glue _ _ _ ?_ ?_
  · have := adj_drop f _ h
    rwa [List.drop_append_of_le_length (by omega)] at this
  · rw [← e]
    have := adj_take (f + 1) _ h
    rwa [List.take_append_of_le_length (by omega)] at this
def lastOn (l : List Pl) : Prop := ∃ r a, l = r ++ [a] ∧ a.2 = true
theorem rot_last {p : List Pl} {f : Nat} (hf : f < p.length) (h : p[f].2 = true) : lastOn (rot p f) := by
  refine ⟨p.drop f ++ p.take f, p[f], ?_, h⟩
  unfold rot
  rw [List.take_succ_eq_append_getElem hf, List.append_assoc]
theorem lastOn_tail {a b : Pl} {r : List Pl} (h : lastOn (a :: b :: r)) : lastOn (b :: r) := by
  obtain ⟨l, x, e, hx⟩ := h
  cases l with
  | nil => cases e
  | cons y l =>
    rw [List.cons_append] at e
    exact ⟨l, x, (List.cons.inj e).2, hx⟩
theorem exists_on {p : List Pl} {z : Pl} {r : List Pl} (hp : p = z :: r) (h : adj (p ++ [z])) : ∃ f, ∃ hf : f < p.length, p[f].2 = true := by
  subst hp
  cases r with
  | nil =>
    have := h.1
    exact ⟨0, by simp, by simpa using this⟩
  | cons b r =>
    rcases h.1 with h1 | h1
    · exact ⟨0, by simp, h1⟩
    · exact ⟨1, by simp, h1⟩
/-- the first place that is on -/
def firstOn : List Pl → Nat
  | [] => 0
  | a :: r => if a.2 then 0 else firstOn r + 1
theorem firstOn_ok : ∀ (p : List Pl), (∃ f, ∃ hf : f < p.length, p[f].2 = true) → ∃ hf : firstOn p < p.length, p[firstOn p].2 = true
  | [], ⟨f, hf, _⟩ => absurd hf (by simp)
  | a :: r, ⟨f, hf, h⟩ => by
    unfold firstOn
    by_cases ha : a.2 = true
    · simp only [ha, if_true]
      exact ⟨by simp, ha⟩
    · simp only [ha]
      cases f with
      | zero => exact absurd h ha
      | succ f =>
        obtain ⟨h1, h2⟩ := firstOn_ok r ⟨f, by simpa using hf, by simpa using h⟩
        exact ⟨by simpa using h1, by simpa using h2⟩
theorem firstOn_filter : ∀ (p : List Pl) (n : Nat), (∃ f, ∃ hf : f < p.length, p[f].2 = true) → ∃ r, ((p.zipIdx n).filter fun q => q.1.2).map (fun q => PV.int (q.2 : Int)) = PV.int ((n + firstOn p : Nat) : Int) :: r
  | [], _, ⟨f, hf, _⟩ => absurd hf (by simp)
  | a :: r, n, ⟨f, hf, h⟩ => by
    rw [List.zipIdx_cons, List.filter_cons]
    unfold firstOn
    by_cases ha : a.2 = true
    · simp only [ha, if_true, List.map_cons]
      exact ⟨_, rfl⟩
    · simp only [ha]
      cases f with
      | zero => exact absurd h ha
      | succ f =>
        obtain ⟨s, e⟩ := firstOn_filter r (n + 1) ⟨f, by simpa using hf, by simpa using h⟩
        refine ⟨s, ?_⟩
        have : n + (firstOn r + 1) = n + 1 + firstOn r := by omega
        simpa [this] using e
/-- all segments of places -/
def segsOf (p : List Pl) : List Seg := segs (rot p (firstOn p))
theorem headD_drop {row : List Pl} {k : Nat} (hk : k < row.length) : (row.drop (k + 1)).headD (row.headD (row[k])) = row[(k + 1) % row.length]'(Nat.mod_lt _ (by omega)) := by
  by_cases h : k + 1 < row.length
  · rw [List.drop_eq_getElem_cons h, List.headD_cons]
    congr 1
    rw [Nat.mod_eq_of_lt h]
  · have e : k + 1 = row.length := by omega
    rw [List.drop_eq_nil_of_le (by omega), List.headD_nil]
    cases row with
    | nil => simp at hk
    | cons a l =>
      simp [e]
end Zp
end
section
namespace Zp
open Z
structure HG (TT : Nat → Option FnD) : Prop where
  h39 : TT 39 = some Zd.d_with_middles
  h40 : TT 40 = some Zd.d_places_of
  h41 : TT 41 = some Zd.d_segments_of
  h42 : TT 42 = some Zd.d_all_segments
def SzP (k : Nat) (p : Pq) : Prop := Sz k p.1 ∧ Sz k p.2
theorem SzP.mono {k m : Nat} {p : Pq} (h : SzP k p) (hm : k ≤ m) : SzP m p := ⟨h.1.mono hm, h.2.mono hm⟩
theorem Sz.two {k : Nat} (hk : 2 ≤ k) : Sz k (2 : Rat) := ⟨Nat.lt_of_lt_of_le (show 2 < 2 ^ 2 by decide) (Nat.pow_le_pow_right (by decide) hk), Nat.lt_of_lt_of_le (show 1 < 2 ^ 2 by decide) (Nat.pow_le_pow_right (by decide) hk)⟩
theorem two_ne : (2 : Rat) ≠ 0 := by decide
theorem Sz.half {k : Nat} {x y : Rat} (hk : 2 ≤ k) (hx : Sz k x) (hy : Sz k y) : Sz (4 * k + 2) ((x + y) / 2) := by
  have := (hx.add hy).div (Sz.two (k := 2 * k + 1) (by omega)) two_ne
  exact this.mono (by omega)
theorem withMid_len (z : Pl) : ∀ l : List Pl, (wm z l).length ≤ 2 * l.length
  | [] => Nat.le_refl _
  | a :: l => by
    have := withMid_len z l
    show (blk a (l.headD z) ++ wm z l).length ≤ _
    rw [List.length_append, List.length_cons]
    unfold blk
    split
    · simp; omega
    · simp; omega
theorem wm_eq (row : List Pl) : withMid row = wm (row.headD ((0, 0), false)) row := by
  cases row <;> rfl
theorem ixr0 (r : Pl) : ixP (rwP r) (.int 0) = .ok (plP r.1) := rfl
theorem ixr1 (r : Pl) : ixP (rwP r) (.int 1) = .ok (.bl r.2) := rfl
theorem ixp0 (p : Pq) : ixP (plP p) (.int 0) = .ok (frP p.1) := rfl
theorem ixp1 (p : Pq) : ixP (plP p) (.int 1) = .ok (frP p.2) := rfl
theorem ix_map {α : Type} {em : α → PV} {xs : List α} {i : Int} {j : Nat} (hi : i = (j : Int)) (h : j < xs.length) : ixP (.lst (xs.map em)) (.int i) = .ok (em xs[j]) := by
  subst hi
  rw [ix_lst, at_nat (x := em xs[j]) (by omega)]
  · rfl
  · rw [List.getElem?_map, Int.toNat_natCast, List.getElem?_eq_getElem h]
    rfl
section
variable {TT : Nat → Option FnD} {κ : Cons} {cx : Nat → Nat → Bool} {wf : Nat} {n : Nat} (Q : HQ0 TT wf) (G : HG TT)
include Q G
theorem with_middles_ok {row : List Pl} {k : Nat} (hk : 2 ≤ k) (hk2 : k ≤ 900) (hs : ∀ r ∈ row, SzP k r.1) (hl : row.length ≤ 1000) : callN TT κ cx wf (n + 4) 39 [.lst (row.map rwP)] = .ok (.own ((withMid row).map rwP)) := by
  rw [callN_eq G.h39 rfl]
  unfold Zd.d_with_middles startS
  have key := forL_enu (g := stepF (callN TT κ cx wf (n + 3)) κ cx wf (.tt (.cons (.tn 2) (.cons (.tt (.cons (.tn 3) (.cons (.tn 4) .nil))) .nil))) Zd.with_middles_b1) (em := rwP)
    (I := fun i ρ => ∃ acc b2 b3 b4 b5 b6 b7, acc ++ wm (row.headD ((0, 0), false)) (row.drop i) = withMid row ∧ acc.length ≤ 2 * i ∧ ρ = [.shr (.lst (row.map rwP)), .own (acc.map rwP), b2, b3, b4, b5, b6, b7, .un]) row (fun i hi ρ ⟨acc, b2, b3, b4, b5, b6, b7, h1, h2, h3⟩ => by
      subst h3
      have hm : (i + 1) % row.length < row.length := Nat.mod_lt _ (by omega)
      have hnx : (row.drop (i + 1)).headD (row.headD ((0, 0), false)) = row[(i + 1) % row.length] := by
        have := headD_drop hi
        rw [← this]
        congr 1
        cases row with
        | nil => simp at hi
        | cons a l => rfl
      generalize hr : row[i] = r at *
      generalize hq : row[(i + 1) % row.length] = q at *
      have szr : SzP k r.1 := hs r (by rw [← hr]; exact List.getElem_mem hi)
      have szq : SzP k q.1 := hs q (by rw [← hq]; exact List.getElem_mem hm)
      have f1 : fits (acc.length + 1) = true := fits_of (by omega)
      have f2 : fits (acc.length + 1 + 1) = true := fits_of (by omega)
      have md : binP .mod (.int ((i : Int) + 1)) (.int (row.length : Int)) = .ok (.int (((i : Int) + 1) % (row.length : Int))) := by
        rw [bin_mod (by omega), Int.fmod_eq_emod_of_nonneg _ (by omega)]
      have ixq : ixP (.lst (row.map rwP)) (.int (((i : Int) + 1) % (row.length : Int))) = .ok (rwP q) := by
        rw [ix_map (j := (i + 1) % row.length) (by rw [Int.natCast_emod]; rfl) hm, hq]
      have as2 : ∀ (ρ : List Slot) (a b : Nat), asgP (.tt (.cons (.tn a) (.cons (.tn b) .nil))) (rwP q) ρ = .ok ((ρ.set a (.shr (plP q.1))).set b (.shr (.bl q.2))) := fun ρ a b => rfl
      have hd : row.drop i = r :: row.drop (i + 1) := by rw [List.drop_eq_getElem_cons hi, hr]
      rw [hd] at h1
      have h1 : acc ++ (blk r ((row.drop (i + 1)).headD (row.headD ((0, 0), false))) ++ wm (row.headD ((0, 0), false)) (row.drop (i + 1))) = withMid row := h1
      rw [hnx] at h1
      have ent : asgP (.tt (.cons (.tn 2) (.cons (.tt (.cons (.tn 3) (.cons (.tn 4) .nil))) .nil))) (.tup [.int (i : Int), rwP r]) [.shr (.lst (row.map rwP)), .own (acc.map rwP), b2, b3, b4, b5, b6, b7, .un] = .ok [.shr (.lst (row.map rwP)), .own (acc.map rwP), .shr (.int (i : Int)), .shr (plP r.1), .shr (.bl r.2), b5, b6, b7, .un] := rfl
      unfold stepF
      rw [ent, lf_ok]
      have rp : PV.tup [plP r.1, .bl r.2] = rwP r := rfl
      unfold Zd.with_middles_b1
      have s12 : ∀ rest, evS (callN TT κ cx wf (n + 3)) κ cx wf (.scons (.sapp 1 (.tup (.cons (.v 3) (.cons (.v 4) .nil)))) (.scons (.sasg (.tt (.cons (.tn 5) (.cons (.tn 6) .nil))) (.ix (.v 0) (.bin .mod (.bin .add (.v 2) (.k (.int 1))) (.bi .len (.cons (.v 0) .nil))))) rest)) [.shr (.lst (row.map rwP)), .own (acc.map rwP), .shr (.int (i : Int)), .shr (plP r.1), .shr (.bl r.2), b5, b6, b7, .un] =
          evS (callN TT κ cx wf (n + 3)) κ cx wf rest [.shr (.lst (row.map rwP)), .own (acc.map rwP ++ [rwP r]), .shr (.int (i : Int)), .shr (plP r.1), .shr (.bl r.2), .shr (plP q.1), .shr (.bl q.2), b7, .un] := fun rest => by
        refine (seq_nxt (ρ' := [.shr (.lst (row.map rwP)), .own (acc.map rwP ++ [rwP r]), .shr (.int (i : Int)), .shr (plP r.1), .shr (.bl r.2), b5, b6, b7, .un]) (by simp [f1, rp])).trans ?_
        exact seq_nxt (by simp [md, ixq, as2])
      rw [s12]
      by_cases hb : (r.2 || q.2) = true
      · have eb : blk r q = [r] := by unfold blk; rw [if_pos hb]
        rw [eb] at h1
        refine ⟨_, ?_, acc ++ [r], .shr (.int (i : Int)), .shr (plP r.1), .shr (.bl r.2), .shr (plP q.1), .shr (.bl q.2), b7, by rw [← h1]; simp, by simp; omega, rfl⟩
        cases hr2 : r.2 <;> cases hq2 : q.2 <;> first | (rw [hr2, hq2] at hb; cases hb; done) | simp
      · have hb' : r.2 = false ∧ q.2 = false := by
          cases h1 : r.2 <;> cases h2 : q.2 <;> simp_all
        have eb : blk r q = [r, (mid2 r.1 q.1, true)] := by unfold blk; rw [if_neg hb]
        rw [eb] at h1
        have p1 := Q.pl (κ := κ) (cx := cx) (n := n) (k := k) (by omega) szr.1 szq.1
        have p2 := Q.pl (κ := κ) (cx := cx) (n := n) (k := k) (by omega) szr.2 szq.2
        have w2 := Q.wh (κ := κ) (cx := cx) (n := n + 2) 2
        have w2 : callN TT κ cx wf (n + 3) 27 [.int 2] = .ok (.shr (frP 2)) := w2
        have q1 := Q.qu (κ := κ) (cx := cx) (n := n) (k := 2 * k + 1) (by omega) (szr.1.add szq.1) (Sz.two (by omega)) two_ne
        have q2 := Q.qu (κ := κ) (cx := cx) (n := n) (k := 2 * k + 1) (by omega) (szr.2.add szq.2) (Sz.two (by omega)) two_ne
        have cm : ∀ ρ0 : List Slot, ρ0 = [.shr (.lst (row.map rwP)), .own (acc.map rwP ++ [rwP r]), .shr (.int (i : Int)), .shr (plP r.1), .shr (.bl r.2), .shr (plP q.1), .shr (.bl q.2), b7, .un] → compL (stepC (callN TT κ cx wf (n + 3)) κ [8] (.tn 8) (.k (.bl true)) (.call 31 (.cons (.call 28 (.cons (.ix (.v 3) (.v 8)) (.cons (.ix (.v 5) (.v 8)) .nil))) (.cons (.call 27 (.cons (.k (.int 2)) .nil)) .nil))) ρ0) [.int 0, .int 1] = .ok [frP ((r.1.1 + q.1.1) / 2), frP ((r.1.2 + q.1.2) / 2)] := fun ρ0 e => by
          subst e
          simp [compL, stepC, ixp0, ixp1, p1, p2, w2, q1, q2]
        refine ⟨_, ?_, acc ++ [r, (mid2 r.1 q.1, true)], .shr (.int (i : Int)), .shr (plP r.1), .shr (.bl r.2), .shr (plP q.1), .shr (.bl q.2), .shr (.lst [frP ((r.1.1 + q.1.1) / 2), frP ((r.1.2 + q.1.2) / 2)]), by rw [← h1]; simp, by simp; omega, rfl⟩
        have cm := cm _ rfl
        have mp : PV.tup [frP ((r.1.1 + q.1.1) / 2), frP ((r.1.2 + q.1.2) / 2)] = plP (mid2 r.1 q.1) := rfl
        have mp2 : PV.tup [plP (mid2 r.1 q.1), .bl true] = rwP (mid2 r.1 q.1, true) := rfl
        rw [hb'.1, hb'.2] at cm ⊢
        simp [cm, f2, mp, mp2]) (ρ := [.shr (.lst (row.map rwP)), .own [], .un, .un, .un, .un, .un, .un, .un]) ⟨[], .un, .un, .un, .un, .un, .un, by rw [wm_eq]; rfl, by simp, rfl⟩
  obtain ⟨ρ', e, acc, b2, b3, b4, b5, b6, b7, h1, _, h3⟩ := key
  rw [List.drop_length] at h1
  have h1 : acc ++ [] = withMid row := h1
  rw [List.append_nil] at h1
  subst h3
  simp [e, h1]
end
end Zp
end
section
namespace Zp
open Z
theorem compL_enuF {α : Type} {g : PV → Res (Option PV)} {em : α → PV} {pr : α → Bool} {m : α → Nat → PV} : ∀ (xs : List α) (n : Nat), (∀ (i : Nat) (x : α), x ∈ xs → g (.tup [.int i, em x]) = .ok (if pr x then some (m x i) else none)) → compL g (enuL n (xs.map em)) = .ok (((xs.zipIdx n).filter fun q => pr q.1).map fun q => m q.1 q.2)
  | [], _, _ => rfl
  | x :: xs, n, h => by
    rw [List.map_cons, List.zipIdx_cons, List.filter_cons]
    show compL g (.tup [.int n, em x] :: enuL (n + 1) (xs.map em)) = _
    unfold compL
    rw [h n x (List.mem_cons_self ..), compL_enuF xs (n + 1) fun i y hy => h i y (List.mem_cons_of_mem _ hy)]
    cases pr x <;> rfl
theorem segs_on {a b : Pl} {r : List Pl} (h : b.2 = true) : segs (a :: b :: r) = .ln a.1 b.1 :: segs (b :: r) := by
  cases r <;> simp [segs, h]
theorem segs_off {a b c : Pl} {r : List Pl} (h : b.2 = false) : segs (a :: b :: c :: r) = .bd a.1 b.1 c.1 :: segs (c :: r) := by
  simp [segs, h]
theorem drop_two {α : Type} {l : List α} {i : Nat} {a b : α} {r : List α} (h : l.drop i = a :: b :: r) : i + 1 < l.length ∧ l[i]? = some a ∧ l[i + 1]? = some b ∧ l.drop (i + 1) = b :: r := by
  have hl : (l.drop i).length = r.length + 2 := by rw [h]; rfl
  rw [List.length_drop] at hl
  have h0 : l[i]? = some a := by
    have : (l.drop i)[0]? = some a := by rw [h]; rfl
    rwa [List.getElem?_drop] at this
  have h1 : l[i + 1]? = some b := by
    have : (l.drop i)[1]? = some b := by rw [h]; rfl
    rwa [List.getElem?_drop] at this
  refine ⟨by omega, h0, h1, ?_⟩
  have : l.drop (i + 1) = (l.drop i).drop 1 := by rw [List.drop_drop]
  rw [this, h]
  rfl
theorem ix_mapO {α : Type} {em : α → PV} {xs : List α} {i : Int} {j : Nat} {x : α} (hi : i = (j : Int)) (h : xs[j]? = some x) : ixP (.lst (xs.map em)) (.int i) = .ok (em x) := by
  obtain ⟨hl, e⟩ := List.getElem?_eq_some_iff.mp h
  rw [ix_map hi hl, e]
section
variable {TT : Nat → Option FnD} {κ : Cons} {cx : Nat → Nat → Bool} {wf : Nat} {n : Nat} (Q : HQ0 TT wf) (G : HG TT)
theorem seg_loop (φ : Fns) (row : List Pl) (b0 b1 b5 b6 : Slot) (hl : row.length ≤ 3000) : ∀ (m i fuel : Nat) (acc : List Seg), row.length - i ≤ m → m + 1 ≤ fuel → acc.length ≤ i → adj (row.drop i) → lastOn (row.drop i) → ∃ e : Int,
    whL (fun ρ' => (ev φ κ (.cmp .lt (.bin .add (.v 4) (.k (.int 1))) (.bi .len (.cons (.v 2) .nil))) ρ').bind truP) (fun ρ' => evS φ κ cx wf Zd.segments_of_b1 ρ') fuel [b0, b1, .shr (.lst (row.map rwP)), .own (acc.map sgP), .shr (.int (i : Int)), b5, b6] =
      .nx [b0, b1, .shr (.lst (row.map rwP)), .own ((acc ++ segs (row.drop i)).map sgP), .shr (.int e), b5, b6] := by
  intro m
  induction m with
  | zero =>
    intro i fuel acc hm hf ha h1 h2
    obtain ⟨f, rfl⟩ : ∃ f, fuel = f + 1 := ⟨fuel - 1, by omega⟩
    obtain ⟨r, a, e, _⟩ := h2
    have : (row.drop i).length = r.length + 1 := by rw [e, List.length_append, List.length_singleton]
    rw [List.length_drop] at this
    omega
  | succ m ih =>
    intro i fuel acc hm hf ha h1 h2
    obtain ⟨f, rfl⟩ : ∃ f, fuel = f + 1 := ⟨fuel - 1, by omega⟩
    have f1 : fits (acc.length + 1) = true := by
      obtain ⟨r, a, e, _⟩ := h2
      have : (row.drop i).length = r.length + 1 := by rw [e, List.length_append, List.length_singleton]
      rw [List.length_drop] at this
      exact fits_of (by omega)
    cases hd : row.drop i with
    | nil => obtain ⟨r, a, e, _⟩ := h2; rw [hd] at e; simp at e
    | cons a r =>
      cases r with
      | nil =>
        have hlen : (row.drop i).length = 1 := by rw [hd]; rfl
        rw [List.length_drop] at hlen
        have hc : ¬ ((i : Int) + 1 < (row.length : Int)) := by omega
        refine ⟨i, ?_⟩
        rw [whL_end (by simp [hc])]
        simp [segs]
      | cons b r =>
        obtain ⟨k1, k2, k3, k4⟩ := drop_two hd
        have hc : (i : Int) + 1 < (row.length : Int) := by omega
        have i0 : ixP (.lst (row.map rwP)) (.int (i : Int)) = .ok (rwP a) := ix_mapO rfl k2
        have i1 : ixP (.lst (row.map rwP)) (.int ((i : Int) + 1)) = .ok (rwP b) := ix_mapO (j := i + 1) (by omega) k3
        rw [hd] at h1 h2
        by_cases hb : b.2 = true
        · obtain ⟨e, h⟩ := ih (i + 1) f (acc ++ [.ln a.1 b.1]) (by omega) (by omega) (by simp; omega) (by rw [k4]; exact h1.2) (by rw [k4]; exact lastOn_tail h2)
          refine ⟨e, ?_⟩
          rw [whL_step (ρ' := [b0, b1, .shr (.lst (row.map rwP)), .own ((acc ++ [Seg.ln a.1 b.1]).map sgP), .shr (.int ((i : Int) + 1)), b5, b6]) (by simp [hc]) (by
            simp [Zd.segments_of_b1, i0, i1, ixr0, ixr1, hb, f1, sgP])]
          have ec : ((i : Int) + 1) = ((i + 1 : Nat) : Int) := by omega
          rw [ec, h, k4]
          simp [segs_on hb]
        · have hb' : b.2 = false := by simpa using hb
          cases r with
          | nil =>
            obtain ⟨l, x, e, hx⟩ := lastOn_tail h2
            cases l with
            | nil => cases e; exact absurd hx hb
            | cons y l => simp at e
          | cons c r =>
            obtain ⟨q1, q2, q3, q4⟩ := drop_two k4
            have i2 : ixP (.lst (row.map rwP)) (.int ((i : Int) + 2)) = .ok (rwP c) := ix_mapO (j := i + 1 + 1) (by omega) q3
            obtain ⟨e, h⟩ := ih (i + 2) f (acc ++ [.bd a.1 b.1 c.1]) (by omega) (by omega) (by simp; omega) (by rw [q4]; exact h1.2.2) (by rw [q4]; exact lastOn_tail (lastOn_tail h2))
            refine ⟨e, ?_⟩
            rw [whL_step (ρ' := [b0, b1, .shr (.lst (row.map rwP)), .own ((acc ++ [Seg.bd a.1 b.1 c.1]).map sgP), .shr (.int ((i : Int) + 2)), b5, b6]) (by simp [hc]) (by
              simp [Zd.segments_of_b1, i0, i1, i2, ixr0, ixr1, hb', f1, sgP])]
            have ec : ((i : Int) + 2) = ((i + 2 : Nat) : Int) := by omega
            have q4' : row.drop (i + 2) = c :: r := q4
            rw [ec, h, q4']
            simp [segs_off hb']
include Q G
theorem segments_of_ok {p : List Pl} {z : Pl} {r : List Pl} (hp : p = z :: r) (ha : adj (p ++ [z])) (hl : p.length ≤ 1000) : callN TT κ cx wf (n + 1) 41 [.lst (p.map rwP)] = .ok (.own ((segsOf p).map sgP)) := by
  rw [callN_eq G.h41 rfl]
  have ho := exists_on hp ha
  obtain ⟨hf, hon⟩ := firstOn_ok p ho
  have cm : compL (stepC (callN TT κ cx wf n) κ [4, 5, 6] (.tt (.cons (.tn 4) (.cons (.tt (.cons (.tn 5) (.cons (.tn 6) .nil))) .nil))) (.v 6) (.v 4) [.shr (.lst (p.map rwP)), .un, .un, .un, .un, .un, .un]) (enuL 0 (p.map rwP)) = .ok (((p.zipIdx 0).filter fun q => q.1.2).map fun q => PV.int (q.2 : Int)) := by
    refine compL_enuF (pr := fun x => x.2) (m := fun _ i => PV.int (i : Int)) p 0 fun i x _ => ?_
    have ent : ∀ ρ : List Slot, asgP (.tt (.cons (.tn 4) (.cons (.tt (.cons (.tn 5) (.cons (.tn 6) .nil))) .nil))) (.tup [.int (i : Int), rwP x]) ρ = .ok (((ρ.set 4 (.shr (.int (i : Int)))).set 5 (.shr (plP x.1))).set 6 (.shr (.bl x.2))) := fun ρ => rfl
    cases h : x.2 <;> simp [stepC, ent, h]
  obtain ⟨rs, e0⟩ := firstOn_filter p 0 ho
  rw [Nat.zero_add] at e0
  rw [e0] at cm
  have i0 : ixP (.lst (PV.int (firstOn p : Int) :: rs)) (.int 0) = .ok (.int (firstOn p : Int)) := ix_lst0 _ _
  have c1 : cutP (p.map rwP) (some (firstOn p : Int)) none = (p.map rwP).drop (firstOn p) := by
    rw [cut_lo _ (by omega), Int.toNat_natCast]
  have c2 : cutP (p.map rwP) none (some ((firstOn p : Int) + 1)) = (p.map rwP).take (firstOn p + 1) := by
    rw [cut_hi _ (by omega)]
    congr 1
  have c3 : binP .add (.lst ((p.map rwP).drop (firstOn p))) (.lst ((p.map rwP).take (firstOn p + 1))) = .ok (.lst ((rot p (firstOn p)).map rwP)) := by
    rw [bin_addL (by simp; omega), rot, List.map_append, List.map_drop, List.map_take]
  have hra := rot_adj hp ha hf
  have hrl := rot_last hf hon
  have hlen : (rot p (firstOn p)).length ≤ 3000 := by
    unfold rot
    rw [List.length_append, List.length_drop, List.length_take]
    omega
  obtain ⟨e, lp⟩ := seg_loop (κ := κ) (cx := cx) (wf := wf) (callN TT κ cx wf n) (rot p (firstOn p)) (.shr (.lst (p.map rwP))) (.shr (.int (firstOn p : Int))) .un .un hlen 3000 0 wf [] (by omega) (by have := Q.w; omega) (by simp) hra hrl
  rw [List.drop_zero, List.nil_append] at lp
  unfold Zd.d_segments_of startS
  refine seq_step _ _ (ρ' := [.shr (.lst (p.map rwP)), .shr (.int (firstOn p : Int)), .un, .un, .un, .un, .un]) ?_ ?_
  · simp [cm, i0]
  refine seq_step _ _ (ρ' := [.shr (.lst (p.map rwP)), .shr (.int (firstOn p : Int)), .shr (.lst ((rot p (firstOn p)).map rwP)), .un, .un, .un, .un]) ?_ ?_
  · simp [c1, c2, c3]
  refine seq_step _ _ (ρ' := [.shr (.lst (p.map rwP)), .shr (.int (firstOn p : Int)), .shr (.lst ((rot p (firstOn p)).map rwP)), .own [], .un, .un, .un]) ?_ ?_
  · simp
  refine seq_step _ _ (ρ' := [.shr (.lst (p.map rwP)), .shr (.int (firstOn p : Int)), .shr (.lst ((rot p (firstOn p)).map rwP)), .own [], .shr (.int 0), .un, .un]) ?_ ?_
  · simp
  refine seq_step _ _ ((es_wh _ _).trans lp) ?_
  simp [segsOf]
/-- places of a contour -/
def plOf (c : List Pt) : List Pl := c.map fun p => (((p.1 : Rat), (p.2.1 : Rat)), p.2.2 == 1)
theorem places_of_ok {c : List Pt} (hc : ∀ p ∈ c, p.1.natAbs < 2 ^ 20 ∧ p.2.1.natAbs < 2 ^ 20) (hl : c.length ≤ 1000) : callN TT κ cx wf (n + 5) 40 [coP c] = .ok (.shr (.lst ((withMid (plOf c)).map rwP))) := by
  rw [callN_eq G.h40 rfl]
  have cm : compL (stepC (callN TT κ cx wf (n + 4)) κ [1, 2, 3] (.tt (.cons (.tn 1) (.cons (.tn 2) (.cons (.tn 3) .nil)))) (.k (.bl true)) (.tup (.cons (.tup (.cons (.call 27 (.cons (.v 1) .nil)) (.cons (.call 27 (.cons (.v 2) .nil)) .nil))) (.cons (.cmp .eq (.v 3) (.k (.int 1))) .nil))) [.shr (coP c), .un, .un, .un]) (c.map ptP) = .ok ((plOf c).map rwP) := by
    unfold plOf
    rw [List.map_map]
    refine compL_of fun p _ => ?_
    obtain ⟨x, y, o⟩ := p
    have w1 := Q.wh (κ := κ) (cx := cx) (n := n + 3)
    simp [stepC, ptP, w1, rwP, plP]
  have i : itemsP (coP c) = .ok (.lst (c.map ptP)) := rfl
  have wmk := with_middles_ok (κ := κ) (cx := cx) (n := n) Q G (row := plOf c) (k := 20) (by decide) (by decide) (fun r hr => by
    unfold plOf at hr
    obtain ⟨p, hp, rfl⟩ := List.mem_map.mp hr
    exact ⟨Sz.int (hc p hp).1 (by decide), Sz.int (hc p hp).2 (by decide)⟩) (by unfold plOf; rw [List.length_map]; exact hl)
  unfold Zd.d_places_of startS
  simp [i, cm, wmk]
/-- the segments of a contour -/
def coSegs (c : List Pt) : List Seg := segsOf (withMid (plOf c))
omit Q G in
theorem withMid_adj {row : List Pl} (h : row ≠ []) : ∃ z r, withMid row = z :: r ∧ adj (withMid row ++ [z]) := by
  cases row with
  | nil => exact absurd rfl h
  | cons a l =>
    obtain ⟨r, e⟩ := wm_head a (a :: l)
    have hadj := wm_adj a (a :: l)
    have hne : wm a (a :: l) ≠ [] := by
      show blk a (l.headD a) ++ wm a l ≠ []
      unfold blk
      split <;> simp
    cases hw : wm a (a :: l) with
    | nil => exact absurd hw hne
    | cons z r' =>
      rw [hw] at e
      have : z = a := by
        have := congrArg List.head? e
        simpa using this
      subst this
      exact ⟨z, r', by show wm z (z :: l) = _; exact hw, by show adj (wm z (z :: l) ++ [z]); exact hadj⟩
theorem co_segments {c : List Pt} (hc : ∀ p ∈ c, p.1.natAbs < 2 ^ 20 ∧ p.2.1.natAbs < 2 ^ 20) (hl : c.length ≤ 400) (h0 : c ≠ []) : callN TT κ cx wf (n + 1) 41 [.lst ((withMid (plOf c)).map rwP)] = .ok (.own ((coSegs c).map sgP)) := by
  have hne : plOf c ≠ [] := by unfold plOf; simpa using h0
  obtain ⟨z, r, e, ha⟩ := withMid_adj hne
  refine segments_of_ok Q G e ha ?_
  rw [wm_eq]
  have := withMid_len ((plOf c).headD ((0, 0), false)) (plOf c)
  have e2 : (plOf c).length = c.length := by unfold plOf; rw [List.length_map]
  omega
theorem all_segments_ok {s : List (List Pt)} (hs : ∀ c ∈ s, c ≠ [] ∧ c.length ≤ 400 ∧ ∀ p ∈ c, p.1.natAbs < 2 ^ 20 ∧ p.2.1.natAbs < 2 ^ 20) : callN TT κ cx wf (n + 6) 42 [shP s] = .ok (.own (s.map fun c => .lst ((coSegs c).map sgP))) := by
  rw [callN_eq G.h42 rfl]
  have i : itemsP (shP s) = .ok (.lst (s.map coP)) := rfl
  have cm : compL (stepC (callN TT κ cx wf (n + 5)) κ [1] (.tn 1) (.k (.bl true)) (.call 41 (.cons (.call 40 (.cons (.v 1) .nil)) .nil)) [.shr (shP s), .un]) (s.map coP) = .ok (s.map fun c => .lst ((coSegs c).map sgP)) := by
    refine compL_of fun c hc => ?_
    obtain ⟨h0, h1, h2⟩ := hs c hc
    have p1 := places_of_ok (κ := κ) (cx := cx) (n := n) Q G h2 (by omega)
    have p2 := co_segments (κ := κ) (cx := cx) (n := n + 4) Q G h2 h1 h0
    simp [stepC, p1, p2]
  unfold Zd.d_all_segments startS
  simp [i, cm]
end
end Zp
end
section
/-! where a segment is, where it turns back -/
namespace Zd
open Z
def d_value_at : Z.FnD := ⟨3, 8, (.scons (.sset 3 (.ix (.ix (.v 0) (.k (.int 0))) (.v 1))) (.scons (.sif (.cmp .eq (.bi .len (.cons (.v 0) .nil)) (.k (.int 2))) (.scons (.sret (.call 28 (.cons (.v 3) (.cons (.call 30 (.cons (.v 2) (.cons (.call 29 (.cons (.ix (.ix (.v 0) (.k (.int 1))) (.v 1)) (.cons (.v 3) .nil))) .nil))) .nil)))) .snil) .snil) (.scons (.sasg (.tt (.cons (.tn 4) (.cons (.tn 5) .nil))) (.tup (.cons (.ix (.ix (.v 0) (.k (.int 1))) (.v 1)) (.cons (.ix (.ix (.v 0) (.k (.int 2))) (.v 1)) .nil)))) (.scons (.sset 6 (.call 29 (.cons (.call 27 (.cons (.k (.int 1)) .nil)) (.cons (.v 2) .nil)))) (.scons (.sset 7 (.call 28 (.cons (.call 30 (.cons (.call 30 (.cons (.v 6) (.cons (.v 6) .nil))) (.cons (.v 3) .nil))) (.cons (.call 30 (.cons (.call 30 (.cons (.v 2) (.cons (.v 2) .nil))) (.cons (.v 5) .nil))) .nil)))) (.scons (.sret (.call 28 (.cons (.v 7) (.cons (.call 30 (.cons (.call 30 (.cons (.call 27 (.cons (.k (.int 2)) .nil)) (.cons (.call 30 (.cons (.v 2) (.cons (.v 6) .nil))) .nil))) (.cons (.v 4) .nil))) .nil)))) .snil))))))⟩
def d_turn_time : Z.FnD := ⟨2, 8, (.scons (.sif (.cmp .eq (.bi .len (.cons (.v 0) .nil)) (.k (.int 2))) (.scons (.sret (.k .non)) .snil) .snil) (.scons (.sasg (.tt (.cons (.tn 2) (.cons (.tn 3) (.cons (.tn 4) .nil)))) (.comp [7] (.tn 7) (.seq (.v 0)) (.k (.bl true)) (.ix (.v 7) (.v 1)))) (.scons (.sset 5 (.call 28 (.cons (.call 29 (.cons (.v 2) (.cons (.call 30 (.cons (.call 27 (.cons (.k (.int 2)) .nil)) (.cons (.v 3) .nil))) .nil))) (.cons (.v 4) .nil)))) (.scons (.sif (.cmp .eq (.call 35 (.cons (.v 5) .nil)) (.k (.int 0))) (.scons (.sret (.k .non)) .snil) .snil) (.scons (.sset 6 (.call 31 (.cons (.call 29 (.cons (.v 2) (.cons (.v 3) .nil))) (.cons (.v 5) .nil)))) (.scons (.sret (.ife (.an (.call 32 (.cons (.call 27 (.cons (.k (.int 0)) .nil)) (.cons (.v 6) .nil))) (.call 32 (.cons (.v 6) (.cons (.call 27 (.cons (.k (.int 1)) .nil)) .nil)))) (.v 6) (.k .non))) .snil))))))⟩
def d_pieces : Z.FnD := ⟨1, 2, (.scons (.sset 1 (.call 51 (.cons (.v 0) (.cons (.k (.int 1)) .nil)))) (.scons (.sret (.ife (.cmp .isn (.v 1) (.k .non)) (.dsp (.cons (.call 27 (.cons (.k (.int 0)) .nil)) (.cons (.call 27 (.cons (.k (.int 1)) .nil)) .nil))) (.dsp (.cons (.call 27 (.cons (.k (.int 0)) .nil)) (.cons (.v 1) (.cons (.call 27 (.cons (.k (.int 1)) .nil)) .nil)))))) .snil))⟩
def d_flat_hit : Z.FnD := ⟨2, 6, (.scons (.sown 2 (.dsp (.cons (.ix (.ix (.v 0) (.k (.int 0))) (.k (.int 0))) (.cons (.ix (.ix (.v 0) (.neg (.k (.int 1)))) (.k (.int 0))) .nil)))) (.scons (.sset 3 (.call 51 (.cons (.v 0) (.cons (.k (.int 0)) .nil)))) (.scons (.sif (.cmp .nisn (.v 3) (.k .non)) (.scons (.sapp 2 (.call 50 (.cons (.v 0) (.cons (.k (.int 0)) (.cons (.v 3) .nil))))) .snil) .snil) (.scons (.sfrz 2) (.scons (.sasg (.tt (.cons (.tn 4) (.cons (.tn 5) .nil))) (.tup (.cons (.call 33 (.cons (.v 2) .nil)) (.cons (.call 34 (.cons (.v 2) .nil)) .nil)))) (.scons (.sret (.an (.cmp .eq (.ix (.ix (.v 0) (.k (.int 0))) (.k (.int 1))) (.ix (.v 1) (.k (.int 1)))) (.an (.nt (.call 32 (.cons (.ix (.v 1) (.k (.int 0))) (.cons (.v 4) .nil)))) (.nt (.call 32 (.cons (.v 5) (.cons (.ix (.v 1) (.k (.int 0))) .nil))))))) .snil))))))⟩
def d_is_flat : Z.FnD := ⟨1, 2, (.scons (.sret (.nt (.comp [1] (.tn 1) (.seq (.v 0)) (.cmp .ne (.ix (.v 1) (.k (.int 1))) (.ix (.ix (.v 0) (.k (.int 0))) (.k (.int 1)))) (.v 1)))) .snil)⟩
end Zd
namespace Zp
open Z
structure HV (TT : Nat → Option FnD) : Prop where
  h50 : TT 50 = some Zd.d_value_at
  h51 : TT 51 = some Zd.d_turn_time
structure HW (TT : Nat → Option FnD) : Prop where
  h56 : TT 56 = some Zd.d_pieces
  h59 : TT 59 = some Zd.d_flat_hit
  h60 : TT 60 = some Zd.d_is_flat
def axI (a : Bool) : Int := if a then 1 else 0
def ax (a : Bool) (p : Pq) : Rat := if a then p.2 else p.1
theorem ix_ax (a : Bool) (p : Pq) : ixP (plP p) (.int (axI a)) = .ok (frP (ax a p)) := by cases a <;> rfl
def SzS (k : Nat) : Seg → Prop
  | .ln a b => SzP k a ∧ SzP k b
  | .bd a o b => SzP k a ∧ SzP k o ∧ SzP k b
theorem SzP.ax {k : Nat} {p : Pq} (h : SzP k p) (a : Bool) : Sz k (ax a p) := by cases a; exact h.1; exact h.2
def valAt : Seg → Bool → Rat → Rat
  | .ln p q, a, t => ax a p + t * (ax a q - ax a p)
  | .bd p o q, a, t => ((1 - t) * (1 - t) * ax a p + t * t * ax a q) + 2 * (t * (1 - t)) * ax a o
def turnT : Seg → Bool → Option Rat
  | .ln _ _, _ => none
  | .bd p o q, a => let b := (ax a p - 2 * ax a o) + ax a q
    if b = 0 then none else let t := (ax a p - ax a o) / b
      if 0 < t ∧ t < 1 then some t else none
def optP : Option Rat → PV
  | none => .non
  | some t => frP t
theorem sg_len_ln (a b : Pq) : biP .len [sgP (.ln a b)] = .ok (.int 2) := rfl
theorem sg_len_bd (a o b : Pq) : biP .len [sgP (.bd a o b)] = .ok (.int 3) := rfl
theorem sg_ln0 (a b : Pq) : ixP (sgP (.ln a b)) (.int 0) = .ok (plP a) := rfl
theorem sg_ln1 (a b : Pq) : ixP (sgP (.ln a b)) (.int 1) = .ok (plP b) := rfl
theorem sg_lnm (a b : Pq) : ixP (sgP (.ln a b)) (.int (-1)) = .ok (plP b) := rfl
theorem sg_bd0 (a o b : Pq) : ixP (sgP (.bd a o b)) (.int 0) = .ok (plP a) := rfl
theorem sg_bd1 (a o b : Pq) : ixP (sgP (.bd a o b)) (.int 1) = .ok (plP o) := rfl
theorem sg_bd2 (a o b : Pq) : ixP (sgP (.bd a o b)) (.int 2) = .ok (plP b) := rfl
theorem sg_bdm (a o b : Pq) : ixP (sgP (.bd a o b)) (.int (-1)) = .ok (plP b) := rfl
theorem sg_it_ln (a b : Pq) : itemsP (sgP (.ln a b)) = .ok (.lst [plP a, plP b]) := rfl
theorem sg_it_bd (a o b : Pq) : itemsP (sgP (.bd a o b)) = .ok (.lst [plP a, plP o, plP b]) := rfl
theorem Sz.one {k : Nat} (hk : 1 ≤ k) : Sz k (1 : Rat) := ⟨Nat.lt_of_lt_of_le (show 1 < 2 ^ 1 by decide) (Nat.pow_le_pow_right (by decide) hk), Nat.lt_of_lt_of_le (show 1 < 2 ^ 1 by decide) (Nat.pow_le_pow_right (by decide) hk)⟩
theorem Sz.zero {k : Nat} (hk : 1 ≤ k) : Sz k (0 : Rat) := ⟨Nat.pow_pos (by decide), Nat.lt_of_lt_of_le (show 1 < 2 ^ 1 by decide) (Nat.pow_le_pow_right (by decide) hk)⟩
theorem valAt_sz {s : Seg} {k : Nat} {t : Rat} (hk : 2 ≤ k) (hs : SzS k s) (ht : Sz k t) (a : Bool) : Sz (32 * k + 19) (valAt s a t) := by
  cases s with
  | ln p q =>
    have p1 := hs.1.ax a
    have p2 := hs.2.ax a
    have m := (ht.mono (m := 2 * k + 1) (by omega)).mul (p2.sub p1)
    exact ((p1.mono (m := 2 * (2 * k + 1)) (by omega)).add m).mono (by omega)
  | bd p o q =>
    have p1 := hs.1.ax a
    have po := hs.2.1.ax a
    have p2 := hs.2.2.ax a
    have r := (Sz.one (k := k) (by omega)).sub ht
    have rr := r.mul r
    have a1 := rr.mul (p1.mono (m := 2 * (2 * k + 1)) (by omega))
    have tt := ht.mul ht
    have a2 := tt.mul (p2.mono (m := 2 * k) (by omega))
    have s1 := a1.add (a2.mono (m := 2 * (2 * (2 * k + 1))) (by omega))
    have tr := (ht.mono (m := 2 * k + 1) (by omega)).mul r
    have t2 := (Sz.two (k := 2 * (2 * k + 1)) (by omega)).mul tr
    have a3 := t2.mul (po.mono (m := 2 * (2 * (2 * k + 1))) (by omega))
    have := s1.add (a3.mono (m := 2 * (2 * (2 * (2 * k + 1))) + 1) (by omega))
    exact this.mono (by omega)
section
variable {TT : Nat → Option FnD} {κ : Cons} {cx : Nat → Nat → Bool} {wf : Nat} {n : Nat} (Q : HQ TT wf) (V : HV TT)
include Q V
theorem value_at_ok {s : Seg} {k : Nat} {t : Rat} (hk : 2 ≤ k) (hk2 : k ≤ 200) (hs : SzS k s) (ht : Sz k t) (a : Bool) : callN TT κ cx wf (n + 4) 50 [sgP s, .int (axI a), frP t] = .ok (.shr (frP (valAt s a t))) := by
  rw [callN_eq V.h50 rfl]
  unfold Zd.d_value_at startS
  cases s with
  | ln p q =>
    have p1 := hs.1.ax a
    have p2 := hs.2.ax a
    have c1 := Q.mi (κ := κ) (cx := cx) (n := n) (k := k) (by omega) p2 p1
    have c2 := Q.ti (κ := κ) (cx := cx) (n := n) (k := 2 * k + 1) (by omega) (ht.mono (by omega)) (p2.sub p1)
    have c3 := Q.pl (κ := κ) (cx := cx) (n := n) (k := 2 * (2 * k + 1)) (by omega) (p1.mono (by omega)) ((ht.mono (m := 2 * k + 1) (by omega)).mul (p2.sub p1))
    have e2 : cmpP .eq (.int 2) (.int 2) = .ok (.bl true) := rfl
    simp [sg_ln0, sg_ln1, sg_len_ln, ix_ax, c1, c2, c3, valAt]
  | bd p o q =>
    have p1 := hs.1.ax a
    have po := hs.2.1.ax a
    have p2 := hs.2.2.ax a
    have w1 : callN TT κ cx wf (n + 3) 27 [.int 1] = .ok (.shr (frP 1)) := Q.wh (κ := κ) (cx := cx) (n := n + 2) 1
    have w2 : callN TT κ cx wf (n + 3) 27 [.int 2] = .ok (.shr (frP 2)) := Q.wh (κ := κ) (cx := cx) (n := n + 2) 2
    have r := (Sz.one (k := k) (by omega)).sub ht
    have cr := Q.mi (κ := κ) (cx := cx) (n := n) (k := k) (by omega) (Sz.one (k := k) (by omega)) ht
    have rr := r.mul r
    have crr := Q.ti (κ := κ) (cx := cx) (n := n) (k := 2 * k + 1) (by omega) r r
    have a1 := rr.mul (p1.mono (m := 2 * (2 * k + 1)) (by omega))
    have ca1 := Q.ti (κ := κ) (cx := cx) (n := n) (k := 2 * (2 * k + 1)) (by omega) rr (p1.mono (by omega))
    have tt := ht.mul ht
    have ctt := Q.ti (κ := κ) (cx := cx) (n := n) (k := k) (by omega) ht ht
    have a2 := tt.mul (p2.mono (m := 2 * k) (by omega))
    have ca2 := Q.ti (κ := κ) (cx := cx) (n := n) (k := 2 * k) (by omega) tt (p2.mono (by omega))
    have s1 := a1.add (a2.mono (m := 2 * (2 * (2 * k + 1))) (by omega))
    have cs1 := Q.pl (κ := κ) (cx := cx) (n := n) (k := 2 * (2 * (2 * k + 1))) (by omega) a1 (a2.mono (by omega))
    have tr := (ht.mono (m := 2 * k + 1) (by omega)).mul r
    have ctr := Q.ti (κ := κ) (cx := cx) (n := n) (k := 2 * k + 1) (by omega) (ht.mono (by omega)) r
    have t2 := (Sz.two (k := 2 * (2 * k + 1)) (by omega)).mul tr
    have ct2 := Q.ti (κ := κ) (cx := cx) (n := n) (k := 2 * (2 * k + 1)) (by omega) (Sz.two (by omega)) tr
    have a3 := t2.mul (po.mono (m := 2 * (2 * (2 * k + 1))) (by omega))
    have ca3 := Q.ti (κ := κ) (cx := cx) (n := n) (k := 2 * (2 * (2 * k + 1))) (by omega) t2 (po.mono (by omega))
    have cs2 := Q.pl (κ := κ) (cx := cx) (n := n) (k := 2 * (2 * (2 * (2 * k + 1))) + 1) (by omega) s1 (a3.mono (by omega))
    simp [sg_bd0, sg_bd1, sg_bd2, sg_len_bd, ix_ax, w1, w2, cr, crr, ca1, ctt, ca2, cs1, ctr, ct2, ca3, cs2, valAt]
omit Q V in
theorem sgn_zero (q : Rat) : (sgn q == 0) = decide (q = 0) := by
  unfold sgn
  by_cases h1 : 0 < q
  · have h2 : ¬ q < 0 := fun h => by grind
    have h3 : ¬ q = 0 := fun h => by grind
    simp [h1, h2, h3]
  · by_cases h2 : q < 0
    · have h3 : ¬ q = 0 := fun h => by grind
      simp [h1, h2, h3]
    · have h3 : q = 0 := by grind
      simp [h3]
theorem turn_time_ok {s : Seg} {k : Nat} (hk : 2 ≤ k) (hk2 : k ≤ 200) (hs : SzS k s) (a : Bool) : callN TT κ cx wf (n + 4) 51 [sgP s, .int (axI a)] = .ok (.shr (optP (turnT s a))) := by
  rw [callN_eq V.h51 rfl]
  unfold Zd.d_turn_time startS
  cases s with
  | ln p q => simp [sg_len_ln, turnT, optP]
  | bd p o q =>
    have p1 := hs.1.ax a
    have po := hs.2.1.ax a
    have p2 := hs.2.2.ax a
    have w0 : callN TT κ cx wf (n + 3) 27 [.int 0] = .ok (.shr (frP 0)) := Q.wh (κ := κ) (cx := cx) (n := n + 2) 0
    have w1 : callN TT κ cx wf (n + 3) 27 [.int 1] = .ok (.shr (frP 1)) := Q.wh (κ := κ) (cx := cx) (n := n + 2) 1
    have w2 : callN TT κ cx wf (n + 3) 27 [.int 2] = .ok (.shr (frP 2)) := Q.wh (κ := κ) (cx := cx) (n := n + 2) 2
    have o2 := (Sz.two (k := k) (by omega)).mul po
    have c1 := Q.ti (κ := κ) (cx := cx) (n := n) (k := k) (by omega) (Sz.two (k := k) (by omega)) po
    have d := (p1.mono (m := 2 * k) (by omega)).sub o2
    have c2 := Q.mi (κ := κ) (cx := cx) (n := n) (k := 2 * k) (by omega) (p1.mono (by omega)) o2
    have bt := d.add (p2.mono (m := 2 * (2 * k) + 1) (by omega))
    have c3 := Q.pl (κ := κ) (cx := cx) (n := n) (k := 2 * (2 * k) + 1) (by omega) d (p2.mono (by omega))
    have tp := p1.sub po
    have c4 := Q.mi (κ := κ) (cx := cx) (n := n) (k := k) (by omega) p1 po
    have cm : ∀ ρ0 : List Slot, compL (stepC (callN TT κ cx wf (n + 3)) κ [7] (.tn 7) (.k (.bl true)) (.ix (.v 7) (.v 1)) [.shr (sgP (.bd p o q)), .shr (.int (axI a)), .un, .un, .un, .un, .un, .un]) [plP p, plP o, plP q] = .ok [frP (ax a p), frP (ax a o), frP (ax a q)] := fun ρ0 => by
      simp [compL, stepC, ix_ax]
    have cm := cm []
    have sg := Q.sg (κ := κ) (cx := cx) (n := n + 2) (x := ax a p - 2 * ax a o + ax a q)
    have z := sgn_zero (ax a p - 2 * ax a o + ax a q)
    by_cases h0 : ax a p - 2 * ax a o + ax a q = 0
    · have z1 : sgn 0 = 0 := rfl
      rw [h0] at c3 sg
      simp [sg_len_bd, sg_it_bd, cm, w2, c1, c2, c3, sg, z1, turnT, h0, optP]
    · have z1 : ¬ sgn (ax a p - 2 * ax a o + ax a q) = 0 := by
        rw [decide_eq_false h0] at z
        simpa using z
      have c5 := Q.qu (κ := κ) (cx := cx) (n := n) (k := 2 * (2 * (2 * k) + 1) + 1) (by omega) (tp.mono (by omega)) bt h0
      have tm := (tp.mono (m := 2 * (2 * (2 * k) + 1) + 1) (by omega)).div bt h0
      have l1 := Q.le (κ := κ) (cx := cx) (n := n + 2) (k := 2 * (2 * (2 * (2 * k) + 1) + 1)) (by omega) (Sz.zero (by omega)) tm
      have l2 := Q.le (κ := κ) (cx := cx) (n := n + 2) (k := 2 * (2 * (2 * (2 * k) + 1) + 1)) (by omega) tm (Sz.one (by omega))
      by_cases t0 : 0 < (ax a p - ax a o) / (ax a p - 2 * ax a o + ax a q) <;> by_cases t1 : (ax a p - ax a o) / (ax a p - 2 * ax a o + ax a q) < 1 <;>
        simp [sg_len_bd, sg_it_bd, cm, w0, w1, w2, c1, c2, c3, sg, z1, c4, c5, l1, l2, t0, t1, turnT, h0, optP]
end
end Zp
end
section
/-! how often lines go past -/
namespace Zd
open Z
def d_root_sign : Z.FnD := ⟨3, 5, (.scons (.sif (.or (.cmp .eq (.call 35 (.cons (.v 1) .nil)) (.k (.int 0))) (.cmp .eq (.call 35 (.cons (.v 2) .nil)) (.k (.int 0)))) (.scons (.sret (.call 35 (.cons (.v 0) .nil))) .snil) .snil) (.scons (.sif (.or (.cmp .eq (.call 35 (.cons (.v 0) .nil)) (.k (.int 0))) (.cmp .eq (.call 35 (.cons (.v 0) .nil)) (.call 35 (.cons (.v 1) .nil)))) (.scons (.sret (.call 35 (.cons (.v 1) .nil))) .snil) .snil) (.scons (.sset 3 (.call 30 (.cons (.v 0) (.cons (.v 0) .nil)))) (.scons (.sset 4 (.call 30 (.cons (.call 30 (.cons (.v 1) (.cons (.v 1) .nil))) (.cons (.v 2) .nil)))) (.scons (.sif (.cmp .eq (.v 3) (.v 4)) (.scons (.sret (.k (.int 0))) .snil) .snil) (.scons (.sret (.ife (.call 32 (.cons (.v 4) (.cons (.v 3) .nil))) (.call 35 (.cons (.v 0) .nil)) (.call 35 (.cons (.v 1) .nil)))) .snil))))))⟩
def d_side_of : Z.FnD := ⟨4, 18, (.scons (.sasg (.tt (.cons (.tn 4) (.cons (.tn 5) .nil))) (.v 3)) (.scons (.sif (.cmp .eq (.bi .len (.cons (.v 0) .nil)) (.k (.int 2))) (.scons (.sset 6 (.call 29 (.cons (.ix (.ix (.v 0) (.k (.int 1))) (.k (.int 1))) (.cons (.ix (.ix (.v 0) (.k (.int 0))) (.k (.int 1))) .nil)))) (.scons (.sset 7 (.call 31 (.cons (.call 29 (.cons (.v 5) (.cons (.ix (.ix (.v 0) (.k (.int 0))) (.k (.int 1))) .nil))) (.cons (.v 6) .nil)))) (.scons (.sret (.call 35 (.cons (.call 29 (.cons (.call 50 (.cons (.v 0) (.cons (.k (.int 0)) (.cons (.v 7) .nil)))) (.cons (.v 4) .nil))) .nil))) .snil))) .snil) (.scons (.sasg (.tt (.cons (.tn 8) (.cons (.tn 9) (.cons (.tn 10) .nil)))) (.comp [17] (.tn 17) (.seq (.v 0)) (.k (.bl true)) (.ix (.v 17) (.k (.int 1))))) (.scons (.sset 11 (.call 28 (.cons (.call 29 (.cons (.v 8) (.cons (.call 30 (.cons (.call 27 (.cons (.k (.int 2)) .nil)) (.cons (.v 9) .nil))) .nil))) (.cons (.v 10) .nil)))) (.scons (.sset 12 (.call 30 (.cons (.call 27 (.cons (.k (.int 2)) .nil)) (.cons (.call 29 (.cons (.v 9) (.cons (.v 8) .nil))) .nil)))) (.scons (.sset 13 (.call 29 (.cons (.v 8) (.cons (.v 5) .nil)))) (.scons (.sif (.cmp .eq (.call 35 (.cons (.v 11) .nil)) (.k (.int 0))) (.scons (.sret (.call 35 (.cons (.call 29 (.cons (.call 50 (.cons (.v 0) (.cons (.k (.int 0)) (.cons (.call 31 (.cons (.call 30 (.cons (.call 27 (.cons (.neg (.k (.int 1))) .nil)) (.cons (.v 13) .nil))) (.cons (.v 12) .nil))) .nil)))) (.cons (.v 4) .nil))) .nil))) .snil) .snil) (.scons (.sset 14 (.call 29 (.cons (.call 30 (.cons (.v 12) (.cons (.v 12) .nil))) (.cons (.call 30 (.cons (.call 27 (.cons (.k (.int 4)) .nil)) (.cons (.call 30 (.cons (.v 11) (.cons (.v 13) .nil))) .nil))) .nil)))) (.scons (.sset 15 (.call 32 (.cons (.call 50 (.cons (.v 0) (.cons (.k (.int 1)) (.cons (.v 1) .nil)))) (.cons (.call 50 (.cons (.v 0) (.cons (.k (.int 1)) (.cons (.v 2) .nil)))) .nil)))) (.scons (.sset 16 (.call 27 (.cons (.ife (.v 15) (.k (.int 1)) (.neg (.k (.int 1)))) .nil))) (.scons (.sret (.call 57 (.cons (.v 0) (.cons (.v 4) (.cons (.v 11) (.cons (.v 12) (.cons (.v 14) (.cons (.v 16) .nil)))))))) .snil)))))))))))⟩
def d_bend_side : Z.FnD := ⟨6, 17, (.scons (.sset 6 (.call 31 (.cons (.call 30 (.cons (.call 27 (.cons (.neg (.k (.int 1))) .nil)) (.cons (.v 3) .nil))) (.cons (.call 30 (.cons (.call 27 (.cons (.k (.int 2)) .nil)) (.cons (.v 2) .nil))) .nil)))) (.scons (.sset 7 (.call 31 (.cons (.v 5) (.cons (.call 30 (.cons (.call 27 (.cons (.k (.int 2)) .nil)) (.cons (.v 2) .nil))) .nil)))) (.scons (.sasg (.tt (.cons (.tn 8) (.cons (.tn 9) (.cons (.tn 10) .nil)))) (.comp [16] (.tn 16) (.seq (.v 0)) (.k (.bl true)) (.ix (.v 16) (.k (.int 0))))) (.scons (.sset 11 (.call 28 (.cons (.call 29 (.cons (.v 8) (.cons (.call 30 (.cons (.call 27 (.cons (.k (.int 2)) .nil)) (.cons (.v 9) .nil))) .nil))) (.cons (.v 10) .nil)))) (.scons (.sset 12 (.call 30 (.cons (.call 27 (.cons (.k (.int 2)) .nil)) (.cons (.call 29 (.cons (.v 9) (.cons (.v 8) .nil))) .nil)))) (.scons (.sset 13 (.call 28 (.cons (.call 30 (.cons (.v 6) (.cons (.v 6) .nil))) (.cons (.call 30 (.cons (.call 30 (.cons (.v 7) (.cons (.v 7) .nil))) (.cons (.v 4) .nil))) .nil)))) (.scons (.sset 14 (.call 28 (.cons (.call 28 (.cons (.call 30 (.cons (.v 11) (.cons (.v 13) .nil))) (.cons (.call 30 (.cons (.v 12) (.cons (.v 6) .nil))) .nil))) (.cons (.call 29 (.cons (.v 8) (.cons (.v 1) .nil))) .nil)))) (.scons (.sset 15 (.call 28 (.cons (.call 30 (.cons (.call 30 (.cons (.call 27 (.cons (.k (.int 2)) .nil)) (.cons (.v 11) .nil))) (.cons (.call 30 (.cons (.v 6) (.cons (.v 7) .nil))) .nil))) (.cons (.call 30 (.cons (.v 12) (.cons (.v 7) .nil))) .nil)))) (.scons (.sret (.call 55 (.cons (.v 14) (.cons (.v 15) (.cons (.v 4) .nil))))) .snil)))))))))⟩
def gone_past_b1 : Z.C := (.scons (.sasg (.tt (.cons (.tn 6) (.cons (.tn 7) .nil))) (.tup (.cons (.call 50 (.cons (.v 0) (.cons (.k (.int 1)) (.cons (.v 4) .nil)))) (.cons (.call 50 (.cons (.v 0) (.cons (.k (.int 1)) (.cons (.v 5) .nil)))) .nil)))) (.scons (.sset 8 (.call 32 (.cons (.v 6) (.cons (.v 7) .nil)))) (.scons (.sif (.nt (.v 8)) (.scons (.sasg (.tt (.cons (.tn 6) (.cons (.tn 7) .nil))) (.tup (.cons (.v 7) (.cons (.v 6) .nil)))) .snil) .snil) (.scons (.sif (.an (.nt (.call 32 (.cons (.ix (.v 1) (.k (.int 1))) (.cons (.v 6) .nil)))) (.nt (.call 32 (.cons (.v 7) (.cons (.ix (.v 1) (.k (.int 1))) .nil))))) (.scons (.sset 9 (.call 58 (.cons (.v 0) (.cons (.v 4) (.cons (.v 5) (.cons (.v 1) .nil)))))) (.scons (.sif (.cmp .eq (.v 9) (.k (.int 0))) (.scons (.sret (.k .non)) .snil) .snil) (.scons (.sif (.an (.cmp .gt (.v 9) (.k (.int 0))) (.cmp .ne (.ix (.v 1) (.k (.int 1))) (.v 7))) (.scons (.saug 2 .add (.ife (.v 8) (.k (.int 1)) (.neg (.k (.int 1))))) .snil) .snil) .snil))) .snil) .snil))))
def d_gone_past : Z.FnD := ⟨2, 10, (.scons (.sif (.call 60 (.cons (.v 0) .nil)) (.scons (.sret (.ife (.call 59 (.cons (.v 0) (.cons (.v 1) .nil))) (.k .non) (.k (.int 0)))) .snil) .snil) (.scons (.sset 2 (.k (.int 0))) (.scons (.sset 3 (.call 56 (.cons (.v 0) .nil))) (.scons (.sfor (.tt (.cons (.tn 4) (.cons (.tn 5) .nil))) (.zip (.v 3) (.sl (.v 3) (.k (.int 1)) .nop)) gone_past_b1) (.scons (.sret (.v 2)) .snil)))))⟩
def winding_of_b1 : Z.C := (.scons (.sset 5 (.call 61 (.cons (.v 4) (.cons (.v 1) .nil)))) (.scons (.sif (.cmp .isn (.v 5) (.k .non)) (.scons (.sret (.k .non)) .snil) .snil) (.scons (.saug 2 .add (.v 5)) .snil)))
def winding_of_b2 : Z.C := (.scons (.sfor (.tn 4) (.seq (.v 3)) winding_of_b1) .snil)
def d_winding_of : Z.FnD := ⟨2, 6, (.scons (.sset 2 (.k (.int 0))) (.scons (.sfor (.tn 3) (.seq (.v 0)) winding_of_b2) (.scons (.sret (.v 2)) .snil)))⟩
def d_look_place : Z.FnD := ⟨1, 2, (.scons (.sif (.or (.nt (.isi .tuple (.v 0))) (.or (.cmp .ne (.bi .len (.cons (.v 0) .nil)) (.k (.int 2))) (.comp [1] (.tn 1) (.seq (.v 0)) (.nt (.call 38 (.cons (.v 1) .nil))) (.v 1)))) (.scons (.srai 5 .nil) .snil) .snil) .snil)⟩
def d_winding : Z.FnD := ⟨2, 2, (.scons (.sexp (.call 4 (.cons (.v 0) .nil))) (.scons (.sexp (.call 63 (.cons (.v 1) .nil))) (.scons (.sret (.call 62 (.cons (.call 42 (.cons (.v 0) .nil)) (.cons (.v 1) .nil)))) .snil)))⟩
end Zd
namespace Zp
open Z
structure HX (TT : Nat → Option FnD) : Prop where
  h55 : TT 55 = some Zd.d_root_sign
  h57 : TT 57 = some Zd.d_bend_side
  h58 : TT 58 = some Zd.d_side_of
  h61 : TT 61 = some Zd.d_gone_past
  h62 : TT 62 = some Zd.d_winding_of
/-- a line, a place: how often it goes up past it on its right -/
def goneLn (a b P : Pq) : Option Int :=
  if a.2 = b.2 then (if a.2 = P.2 ∧ ¬ P.1 < lesR a.1 [b.1] ∧ ¬ grtR a.1 [b.1] < P.1 then none else some 0)
  else if a.2 < b.2 then (if ¬ P.2 < a.2 ∧ ¬ b.2 < P.2 then (
      let s := sgn (a.1 + (P.2 - a.2) / (b.2 - a.2) * (b.1 - a.1) - P.1)
      if s = 0 then none else if 0 < s ∧ P.2 ≠ b.2 then some 1 else some 0) else some 0)
  else (if ¬ P.2 < b.2 ∧ ¬ a.2 < P.2 then (
      let s := sgn (a.1 + (P.2 - a.2) / (b.2 - a.2) * (b.1 - a.1) - P.1)
      if s = 0 then none else if 0 < s ∧ P.2 ≠ a.2 then some (-1) else some 0) else some 0)
def oiP : Option Int → PV
  | none => .non
  | some i => .int i
def gs4 : C := (.sif (.an (.nt (.call 32 (.cons (.ix (.v 1) (.k (.int 1))) (.cons (.v 6) .nil)))) (.nt (.call 32 (.cons (.v 7) (.cons (.ix (.v 1) (.k (.int 1))) .nil))))) (.scons (.sset 9 (.call 58 (.cons (.v 0) (.cons (.v 4) (.cons (.v 5) (.cons (.v 1) .nil)))))) (.scons (.sif (.cmp .eq (.v 9) (.k (.int 0))) (.scons (.sret (.k .non)) .snil) .snil) (.scons (.sif (.an (.cmp .gt (.v 9) (.k (.int 0))) (.cmp .ne (.ix (.v 1) (.k (.int 1))) (.v 7))) (.scons (.saug 2 .add (.ife (.v 8) (.k (.int 1)) (.neg (.k (.int 1))))) .snil) .snil) .snil))) .snil)
theorem gone_s4 {κ : Cons} {cx : Nat → Nat → Bool} {wf : Nat} (φ : Fns) {seg f l : PV} (times : PV) (P : Pq) {lo hi : Rat} (r : Bool) (f0 : Int) {s : Int} (x9 : Slot) (hs : ¬ P.2 < lo → ¬ hi < P.2 → φ 58 [seg, f, l, plP P] = .ok (.shr (.int s))) (h1 : φ 32 [frP P.2, frP lo] = .ok (.shr (.bl (decide (P.2 < lo))))) (h2 : φ 32 [frP hi, frP P.2] = .ok (.shr (.bl (decide (hi < P.2))))) :
    evS φ κ cx wf (.scons gs4 .snil) [.shr seg, .shr (plP P), .shr (.int f0), .shr times, .shr f, .shr l, .shr (frP lo), .shr (frP hi), .shr (.bl r), x9] =
      if P.2 < lo ∨ hi < P.2 then .nx [.shr seg, .shr (plP P), .shr (.int f0), .shr times, .shr f, .shr l, .shr (frP lo), .shr (frP hi), .shr (.bl r), x9]
      else if s = 0 then .ret (.shr .non) else .nx [.shr seg, .shr (plP P), .shr (.int (if 0 < s ∧ P.2 ≠ hi then f0 + (if r then 1 else -1) else f0)), .shr times, .shr f, .shr l, .shr (frP lo), .shr (frP hi), .shr (.bl r), .shr (.int s)] := by
  unfold gs4
  have nb := ne_fr P.2 hi
  by_cases g1 : P.2 < lo
  · simp [ixp1, h1, g1]
  · by_cases g2 : hi < P.2
    · simp [ixp1, h1, h2, g1, g2]
    · have hs := hs g1 g2
      have gg : ¬ (P.2 < lo ∨ hi < P.2) := fun h => h.elim g1 g2
      rw [if_neg gg]
      by_cases g3 : s = 0
      · simp [ixp1, h1, h2, g1, g2, hs, g3]
      · by_cases g4 : 0 < s
        · by_cases g5 : P.2 = hi
          · rw [decide_eq_true g5] at nb
            have gn : ¬ (0 < s ∧ P.2 ≠ hi) := fun h => h.2 g5
            rw [if_neg g3, if_neg gn]
            simp [ixp1, h1, h2, g1, g2, hs, g3, g4, nb]
          · rw [decide_eq_false g5] at nb
            have gn : (0 < s ∧ P.2 ≠ hi) := ⟨g4, g5⟩
            rw [if_neg g3, if_pos gn]
            cases r <;> simp [ixp1, h1, h2, g1, g2, hs, g3, g4, nb]
        · have gn : ¬ (0 < s ∧ P.2 ≠ hi) := fun h => g4 h.1
          rw [if_neg g3, if_neg gn]
          simp [ixp1, h1, h2, g1, g2, hs, g3, g4]
section
variable {TT : Nat → Option FnD} {κ : Cons} {cx : Nat → Nat → Bool} {wf : Nat} {n : Nat} (Q : HQ TT wf) (V : HV TT) (W : HW TT) (X : HX TT)
include Q V W X
theorem gone_ln {a b P : Pq} {k : Nat} (hk : 2 ≤ k) (hk2 : k ≤ 30) (ha : SzP k a) (hb : SzP k b) (hP : SzP k P) : callN TT κ cx wf (n + 6) 61 [sgP (.ln a b), plP P] = .ok (.shr (oiP (goneLn a b P))) := by
  have hs : SzS k (.ln a b) := ⟨ha, hb⟩
  rw [callN_eq X.h61 rfl]
  unfold Zd.d_gone_past
  show fin (evS (callN TT κ cx wf (n + 5)) κ cx wf _ [.shr (sgP (.ln a b)), .shr (plP P), .un, .un, .un, .un, .un, .un, .un, .un]) = _
  -- flat?
  have fl : callN TT κ cx wf (n + 5) 60 [sgP (.ln a b)] = .ok (.shr (.bl (decide (a.2 = b.2)))) := by
    rw [callN_eq W.h60 rfl]
    unfold Zd.d_is_flat startS
    have na : cmpP .ne (frP a.2) (frP a.2) = .ok (.bl false) := by rw [ne_fr]; simp
    have nb := ne_fr b.2 a.2
    have cm : ∀ ρ0, ρ0 = [Slot.shr (sgP (.ln a b)), .un] → compL (stepC (callN TT κ cx wf (n + 4)) κ [1] (.tn 1) (.cmp .ne (.ix (.v 1) (.k (.int 1))) (.ix (.ix (.v 0) (.k (.int 0))) (.k (.int 1)))) (.v 1) ρ0) [plP a, plP b] = .ok (if b.2 = a.2 then [] else [plP b]) := fun ρ0 e => by
      subst e
      by_cases h : b.2 = a.2
      · rw [h] at nb
        have nb : cmpP .ne (frP b.2) (frP a.2) = .ok (.bl false) := by rw [h]; exact na
        simp [compL, stepC, sg_ln0, ixp1, na, nb, h]
      · rw [decide_eq_false h] at nb
        simp [compL, stepC, sg_ln0, ixp1, na, nb, h]
    have cm := cm _ rfl
    by_cases h : b.2 = a.2
    · simp only [h, if_true] at cm
      simp [sg_it_ln, cm, h]
    · have h' : ¬ a.2 = b.2 := fun e => h e.symm
      simp only [h, if_false] at cm
      simp [sg_it_ln, cm, h']
  by_cases hf : a.2 = b.2
  · -- flat
    have fh : callN TT κ cx wf (n + 5) 59 [sgP (.ln a b), plP P] = .ok (.shr (.bl (decide (a.2 = P.2) && (!decide (P.1 < lesR a.1 [b.1]) && !decide (grtR a.1 [b.1] < P.1))))) := by
      rw [callN_eq W.h59 rfl]
      unfold Zd.d_flat_hit startS
      have tt := turn_time_ok (κ := κ) (cx := cx) (n := n) Q V hk (by omega) hs false
      have tt : callN TT κ cx wf (n + 4) 51 [sgP (.ln a b), .int 0] = .ok (.shr .non) := tt
      have l := lesser_ok (κ := κ) (cx := cx) (wf := wf) (n := n + 2) Q.h32 Q.h33 (k := k) (by omega) ha.1 (xs := [b.1]) (by simpa using hb.1)
      have l : callN TT κ cx wf (n + 4) 33 [.lst [frP a.1, frP b.1]] = .ok (.shr (frP (lesR a.1 [b.1]))) := l
      have g := greater_ok (κ := κ) (cx := cx) (wf := wf) (n := n + 2) Q.h32 Q.h34 (k := k) (by omega) ha.1 (xs := [b.1]) (by simpa using hb.1)
      have g : callN TT κ cx wf (n + 4) 34 [.lst [frP a.1, frP b.1]] = .ok (.shr (frP (grtR a.1 [b.1]))) := g
      have c1 := Q.le (κ := κ) (cx := cx) (n := n + 3) (k := k) (by omega) hP.1 (lesR_sz [b.1] a.1 ha.1 (by simpa using hb.1))
      have c2 := Q.le (κ := κ) (cx := cx) (n := n + 3) (k := k) (by omega) (grtR_sz [b.1] a.1 ha.1 (by simpa using hb.1)) hP.1
      have ni : cmpP .nisn .non .non = .ok (.bl false) := rfl
      have eq := eq_fr a.2 P.2
      by_cases h1 : a.2 = P.2
      · rw [decide_eq_true h1, h1] at eq
        by_cases h2 : P.1 < lesR a.1 [b.1] <;> simp [sg_ln0, sg_lnm, ixp0, ixp1, tt, ni, l, g, eq, c1, c2, h1, h2]
      · rw [decide_eq_false h1] at eq
        simp [sg_ln0, sg_lnm, ixp0, ixp1, tt, ni, l, g, eq, h1]
    have e : goneLn a b P = if (decide (a.2 = P.2) && (!decide (P.1 < lesR a.1 [b.1]) && !decide (grtR a.1 [b.1] < P.1))) = true then none else some 0 := by
      unfold goneLn
      rw [if_pos hf]
      congr 1
      simp
    rw [e]
    rw [decide_eq_true hf] at fl
    cases hh : (decide (a.2 = P.2) && (!decide (P.1 < lesR a.1 [b.1]) && !decide (grtR a.1 [b.1] < P.1))) <;> rw [hh] at fh <;> simp [fl, fh, oiP]
  · rw [decide_eq_false hf] at fl
    have pc : callN TT κ cx wf (n + 5) 56 [sgP (.ln a b)] = .ok (.shr (.lst [frP 0, frP 1])) := by
      rw [callN_eq W.h56 rfl]
      unfold Zd.d_pieces startS
      have tt := turn_time_ok (κ := κ) (cx := cx) (n := n) Q V hk (by omega) hs true
      have tt : callN TT κ cx wf (n + 4) 51 [sgP (.ln a b), .int 1] = .ok (.shr .non) := tt
      have ni : cmpP .isn .non .non = .ok (.bl true) := rfl
      have w0 : callN TT κ cx wf (n + 4) 27 [.int 0] = .ok (.shr (frP 0)) := Q.wh (κ := κ) (cx := cx) (n := n + 3) 0
      have w1 : callN TT κ cx wf (n + 4) 27 [.int 1] = .ok (.shr (frP 1)) := Q.wh (κ := κ) (cx := cx) (n := n + 3) 1
      simp [tt, ni, w0, w1]
    have v0 : callN TT κ cx wf (n + 5) 50 [sgP (.ln a b), .int 1, frP 0] = .ok (.shr (frP a.2)) := by
      have := value_at_ok (κ := κ) (cx := cx) (n := n + 1) Q V hk (by omega) hs (Sz.zero (k := k) (by omega)) true
      have e : valAt (.ln a b) true 0 = a.2 := by show a.2 + 0 * (b.2 - a.2) = a.2; grind
      rw [e] at this
      exact this
    have v1 : callN TT κ cx wf (n + 5) 50 [sgP (.ln a b), .int 1, frP 1] = .ok (.shr (frP b.2)) := by
      have := value_at_ok (κ := κ) (cx := cx) (n := n + 1) Q V hk (by omega) hs (Sz.one (k := k) (by omega)) true
      have e : valAt (.ln a b) true 1 = b.2 := by show a.2 + 1 * (b.2 - a.2) = b.2; grind
      rw [e] at this
      exact this
    have hd0 : b.2 - a.2 ≠ 0 := fun e => hf (by grind)
    have sd : ∀ f l, callN TT κ cx wf (n + 5) 58 [sgP (.ln a b), f, l, plP P] = .ok (.shr (.int (sgn (a.1 + (P.2 - a.2) / (b.2 - a.2) * (b.1 - a.1) - P.1)))) := fun f l => by
      rw [callN_eq X.h58 rfl]
      unfold Zd.d_side_of startS
      have s1 := hb.2.sub ha.2
      have c1 := Q.mi (κ := κ) (cx := cx) (n := n + 1) (k := k) (by omega) hb.2 ha.2
      have s2 := hP.2.sub ha.2
      have c2 := Q.mi (κ := κ) (cx := cx) (n := n + 1) (k := k) (by omega) hP.2 ha.2
      have s3 := s2.div s1 hd0
      have c3 := Q.qu (κ := κ) (cx := cx) (n := n + 1) (k := 2 * k + 1) (by omega) s2 s1 hd0
      have hs2 : SzS (2 * (2 * k + 1)) (.ln a b) := ⟨ha.mono (by omega), hb.mono (by omega)⟩
      have c4 := value_at_ok (κ := κ) (cx := cx) (n := n) Q V (by omega) (by omega) hs2 s3 false
      have c4 : callN TT κ cx wf (n + 4) 50 [sgP (.ln a b), .int 0, frP ((P.2 - a.2) / (b.2 - a.2))] = .ok (.shr (frP (a.1 + (P.2 - a.2) / (b.2 - a.2) * (b.1 - a.1)))) := c4
      have s4 := valAt_sz (by omega) hs2 s3 false
      have s4 : Sz (32 * (2 * (2 * k + 1)) + 19) (a.1 + (P.2 - a.2) / (b.2 - a.2) * (b.1 - a.1)) := s4
      have c5 := Q.mi (κ := κ) (cx := cx) (n := n + 1) (k := 32 * (2 * (2 * k + 1)) + 19) (by omega) s4 (hP.1.mono (by omega))
      have c6 := Q.sg (κ := κ) (cx := cx) (n := n + 3) (x := a.1 + (P.2 - a.2) / (b.2 - a.2) * (b.1 - a.1) - P.1)
      have as2 : ∀ (ρ : List Slot), asgP (.tt (.cons (.tn 4) (.cons (.tn 5) .nil))) (plP P) ρ = .ok ((ρ.set 4 (.shr (frP P.1))).set 5 (.shr (frP P.2))) := fun ρ => rfl
      simp [as2, sg_len_ln, sg_ln0, sg_ln1, ixp1, c1, c2, c3, c4, c5, c6]
    have lss := Q.le (κ := κ) (cx := cx) (n := n + 4) (k := k) (by omega) ha.2 hb.2
    have l1 := Q.le (κ := κ) (cx := cx) (n := n + 4) (k := k) (by omega) hP.2 ha.2
    have l2 := Q.le (κ := κ) (cx := cx) (n := n + 4) (k := k) (by omega) hb.2 hP.2
    have l3 := Q.le (κ := κ) (cx := cx) (n := n + 4) (k := k) (by omega) hP.2 hb.2
    have l4 := Q.le (κ := κ) (cx := cx) (n := n + 4) (k := k) (by omega) ha.2 hP.2
    have zp : zipP (.lst [frP 0, frP 1]) (.lst [frP 1]) = .ok (.lst [.tup [frP 0, frP 1]]) := rfl
    have sk := sd (frP 0) (frP 1)
    generalize hsg : sgn (a.1 + (P.2 - a.2) / (b.2 - a.2) * (b.1 - a.1) - P.1) = s at sk
    have e : goneLn a b P = if a.2 < b.2 then (if ¬ P.2 < a.2 ∧ ¬ b.2 < P.2 then (if s = 0 then none else if 0 < s ∧ P.2 ≠ b.2 then some 1 else some 0) else some 0)
        else (if ¬ P.2 < b.2 ∧ ¬ a.2 < P.2 then (if s = 0 then none else if 0 < s ∧ P.2 ≠ a.2 then some (-1) else some 0) else some 0) := by
      unfold goneLn
      rw [if_neg hf]
      simp only [hsg]
    rw [e]
    refine seq_step _ _ (ρ' := [.shr (sgP (.ln a b)), .shr (plP P), .un, .un, .un, .un, .un, .un, .un, .un]) (by simp [fl]) ?_
    refine seq_step _ _ (ρ' := [.shr (sgP (.ln a b)), .shr (plP P), .shr (.int 0), .un, .un, .un, .un, .un, .un, .un]) (by simp) ?_
    refine seq_step _ _ (ρ' := [.shr (sgP (.ln a b)), .shr (plP P), .shr (.int 0), .shr (.lst [frP 0, frP 1]), .un, .un, .un, .un, .un, .un]) (by simp [pc]) ?_
    by_cases hr : a.2 < b.2
    · have g := gone_s4 (κ := κ) (cx := cx) (wf := wf) (callN TT κ cx wf (n + 5)) (seg := sgP (.ln a b)) (f := frP 0) (l := frP 1) (.lst [frP 0, frP 1]) P (lo := a.2) (hi := b.2) true 0 (s := s) .un (fun _ _ => sk) l1 l2
      have st : stepF (callN TT κ cx wf (n + 5)) κ cx wf (.tt (.cons (.tn 4) (.cons (.tn 5) .nil))) Zd.gone_past_b1 (.tup [frP 0, frP 1]) [.shr (sgP (.ln a b)), .shr (plP P), .shr (.int 0), .shr (.lst [frP 0, frP 1]), .un, .un, .un, .un, .un, .un] = evS (callN TT κ cx wf (n + 5)) κ cx wf (.scons gs4 .snil) [.shr (sgP (.ln a b)), .shr (plP P), .shr (.int 0), .shr (.lst [frP 0, frP 1]), .shr (frP 0), .shr (frP 1), .shr (frP a.2), .shr (frP b.2), .shr (.bl true), .un] := by
        unfold stepF Zd.gone_past_b1
        rw [asg_tt, asg_cons, asg_tn, rb_ok, asg_cons, asg_tn, rb_ok, asg_nil, lf_ok]
        refine (seq_nxt (ρ' := [.shr (sgP (.ln a b)), .shr (plP P), .shr (.int 0), .shr (.lst [frP 0, frP 1]), .shr (frP 0), .shr (frP 1), .shr (frP a.2), .shr (frP b.2), .un, .un]) (by simp [v0, v1])).trans ?_
        refine (seq_nxt (ρ' := [.shr (sgP (.ln a b)), .shr (plP P), .shr (.int 0), .shr (.lst [frP 0, frP 1]), .shr (frP 0), .shr (frP 1), .shr (frP a.2), .shr (frP b.2), .shr (.bl true), .un]) (by simp [lss, hr])).trans ?_
        refine (seq_nxt (ρ' := [.shr (sgP (.ln a b)), .shr (plP P), .shr (.int 0), .shr (.lst [frP 0, frP 1]), .shr (frP 0), .shr (frP 1), .shr (frP a.2), .shr (frP b.2), .shr (.bl true), .un]) (by simp)).trans ?_
        rfl
      rw [g] at st
      simp [cut1, zp, forL_cons, st]
      rw [if_pos hr]
      by_cases h1 : P.2 < a.2
      · simp [h1, oiP]
      · by_cases h2 : b.2 < P.2
        · simp [h1, h2, oiP]
        · by_cases h3 : s = 0
          · simp [h1, h2, h3, oiP]
          · by_cases h4 : 0 < s ∧ P.2 ≠ b.2
            · simp [h1, h2, h3, h4, oiP]
            · rw [if_neg h4]
              simp [h1, h2, h3, h4, oiP]
    · have g := gone_s4 (κ := κ) (cx := cx) (wf := wf) (callN TT κ cx wf (n + 5)) (seg := sgP (.ln a b)) (f := frP 0) (l := frP 1) (.lst [frP 0, frP 1]) P (lo := b.2) (hi := a.2) false 0 (s := s) .un (fun _ _ => sk) l3 l4
      have st : stepF (callN TT κ cx wf (n + 5)) κ cx wf (.tt (.cons (.tn 4) (.cons (.tn 5) .nil))) Zd.gone_past_b1 (.tup [frP 0, frP 1]) [.shr (sgP (.ln a b)), .shr (plP P), .shr (.int 0), .shr (.lst [frP 0, frP 1]), .un, .un, .un, .un, .un, .un] = evS (callN TT κ cx wf (n + 5)) κ cx wf (.scons gs4 .snil) [.shr (sgP (.ln a b)), .shr (plP P), .shr (.int 0), .shr (.lst [frP 0, frP 1]), .shr (frP 0), .shr (frP 1), .shr (frP b.2), .shr (frP a.2), .shr (.bl false), .un] := by
        unfold stepF Zd.gone_past_b1
        rw [asg_tt, asg_cons, asg_tn, rb_ok, asg_cons, asg_tn, rb_ok, asg_nil, lf_ok]
        refine (seq_nxt (ρ' := [.shr (sgP (.ln a b)), .shr (plP P), .shr (.int 0), .shr (.lst [frP 0, frP 1]), .shr (frP 0), .shr (frP 1), .shr (frP a.2), .shr (frP b.2), .un, .un]) (by simp [v0, v1])).trans ?_
        refine (seq_nxt (ρ' := [.shr (sgP (.ln a b)), .shr (plP P), .shr (.int 0), .shr (.lst [frP 0, frP 1]), .shr (frP 0), .shr (frP 1), .shr (frP a.2), .shr (frP b.2), .shr (.bl false), .un]) (by simp [lss, hr])).trans ?_
        refine (seq_nxt (ρ' := [.shr (sgP (.ln a b)), .shr (plP P), .shr (.int 0), .shr (.lst [frP 0, frP 1]), .shr (frP 0), .shr (frP 1), .shr (frP b.2), .shr (frP a.2), .shr (.bl false), .un]) (by simp)).trans ?_
        rfl
      rw [g] at st
      simp [cut1, zp, forL_cons, st]
      rw [if_neg hr]
      by_cases h1 : P.2 < b.2
      · simp [h1, oiP]
      · by_cases h2 : a.2 < P.2
        · simp [h1, h2, oiP]
        · by_cases h3 : s = 0
          · simp [h1, h2, h3, oiP]
          · by_cases h4 : 0 < s ∧ P.2 ≠ a.2
            · simp [h1, h2, h3, h4, oiP]
            · rw [if_neg h4]
              simp [h1, h2, h3, h4, oiP]
end
end Zp
end
section
/-! windings: sums that stop -/
namespace Zp
open Z
def sumG {α : Type} (gn : α → Option Int) (xs : List α) : Int := (xs.map fun x => (gn x).getD 0).sum
def wS {α : Type} (gn : α → Option Int) (xs : List α) : Option Int := if xs.any fun x => (gn x).isNone then none else some (sumG gn xs)
theorem forL_scan {α S : Type} {g : PV → List Slot → Out} {em : α → PV} {gn : α → Option Int} {st : Int → S → List Slot} {R : RV} : ∀ (xs : List α), (∀ x ∈ xs, ∀ f s, ∃ s', g (em x) (st f s) = (match gn x with | none => .ret R | some i => .nx (st (f + i) s'))) →
    ∀ (f : Int) (s : S), ∃ s', forL g (xs.map em) (st f s) = (match wS gn xs with | none => .ret R | some i => .nx (st (f + i) s'))
  | [], _, f, s => ⟨s, by
      show Out.nx (st f s) = Out.nx (st (f + 0) s)
      rw [Int.add_zero]⟩
  | x :: xs, h, f, s => by
    obtain ⟨s1, e1⟩ := h x (List.mem_cons_self ..) f s
    cases hg : gn x with
    | none =>
      rw [hg] at e1
      have e1 : g (em x) (st f s) = .ret R := e1
      refine ⟨s, ?_⟩
      have w : wS gn (x :: xs) = none := by unfold wS; rw [List.any_cons, hg]; rfl
      rw [List.map_cons, forL_cons, e1, w]
      rfl
    | some i =>
      rw [hg] at e1
      have e1 : g (em x) (st f s) = .nx (st (f + i) s1) := e1
      obtain ⟨s2, e2⟩ := forL_scan xs (fun y hy => h y (List.mem_cons_of_mem _ hy)) (f + i) s1
      refine ⟨s2, ?_⟩
      rw [List.map_cons, forL_cons, e1, next_nx, e2]
      unfold wS
      rw [List.any_cons, hg]
      show _ = (match (if (false || xs.any fun x => (gn x).isNone) = true then none else some (sumG gn (x :: xs))) with | none => _ | some i => _)
      rw [Bool.false_or]
      cases hb : xs.any fun x => (gn x).isNone
      · show Out.nx (st (f + i + sumG gn xs) s2) = Out.nx (st (f + sumG gn (x :: xs)) s2)
        have : sumG gn (x :: xs) = i + sumG gn xs := by
          unfold sumG
          rw [List.map_cons, List.sum_cons, hg]
          rfl
        rw [this, Int.add_assoc]
      · rfl
theorem wS_map {α β : Type} (gn : β → Option Int) (f : α → β) (xs : List α) : wS gn (xs.map f) = wS (fun x => gn (f x)) xs := by
  unfold wS sumG
  rw [List.any_map, List.map_map]
  rfl
theorem wS_congr {α : Type} {gn gm : α → Option Int} {xs : List α} (h : ∀ x ∈ xs, gn x = gm x) : wS gn xs = wS gm xs := by
  have e1 : (xs.any fun x => (gn x).isNone) = (xs.any fun x => (gm x).isNone) := by
    induction xs with
    | nil => rfl
    | cons x xs ih => rw [List.any_cons, List.any_cons, h x (List.mem_cons_self ..), ih fun y hy => h y (List.mem_cons_of_mem _ hy)]
  have e2 : sumG gn xs = sumG gm xs := by
    unfold sumG
    congr 1
    exact List.map_congr_left fun x hx => by rw [h x hx]
  unfold wS
  rw [e1, e2]
theorem wS_swap {α : Type} (gn : α → Option Int) (a : α) (xs : List α) : wS gn (xs ++ [a]) = wS gn (a :: xs) := by
  unfold wS sumG
  rw [List.any_append, List.any_cons, List.any_cons, List.any_nil, Bool.or_false, Bool.or_comm, List.map_append, List.sum_append, List.map_cons, List.map_nil, List.map_cons, List.sum_cons, List.sum_cons, List.sum_nil, Int.add_zero, Int.add_comm]
def pr {α : Type} : List α → List (α × α)
  | a :: b :: r => (a, b) :: pr (b :: r)
  | _ => []
section
variable {TT : Nat → Option FnD} {κ : Cons} {cx : Nat → Nat → Bool} {wf : Nat} {n : Nat} (X : HX TT)
include X
theorem winding_of_ok {gn : Seg → Option Int} {rows : List (List Seg)} {P : Pq} {m : Nat} (hg : ∀ r ∈ rows, ∀ s ∈ r, callN TT κ cx wf m 61 [sgP s, plP P] = .ok (.shr (oiP (gn s)))) : callN TT κ cx wf (m + 1) 62 [.lst (rows.map fun r => .lst (r.map sgP)), plP P] = .ok (.shr (oiP (wS (wS gn) rows))) := by
  rw [callN_eq X.h62 rfl]
  unfold Zd.d_winding_of
  show fin (evS (callN TT κ cx wf m) κ cx wf _ [.shr (.lst (rows.map fun r => .lst (r.map sgP))), .shr (plP P), .un, .un, .un, .un]) = _
  generalize hR : PV.lst (rows.map fun r => .lst (r.map sgP)) = R
  have inner : ∀ r ∈ rows, ∀ (f : Int) (x3 x4 x5 : Slot), ∃ s : Slot × Slot, forL (stepF (callN TT κ cx wf m) κ cx wf (.tn 4) Zd.winding_of_b1) (r.map sgP) [.shr R, .shr (plP P), .shr (.int f), x3, x4, x5] = (match wS gn r with | none => .ret (.shr .non) | some i => .nx [.shr R, .shr (plP P), .shr (.int (f + i)), x3, s.1, s.2]) := fun r hr f x3 x4 x5 => by
    refine forL_scan (gn := gn) (st := fun f (s : Slot × Slot) => [.shr R, .shr (plP P), .shr (.int f), x3, s.1, s.2]) r (fun s hs f ss => ⟨(.shr (sgP s), .shr (oiP (gn s))), ?_⟩) f (x4, x5)
    have c := hg r hr s hs
    cases h : gn s with
    | none =>
      rw [h] at c
      have c : callN TT κ cx wf m 61 [sgP s, plP P] = .ok (.shr .non) := c
      have ni : cmpP .isn .non .non = .ok (.bl true) := rfl
      simp [stepF, Zd.winding_of_b1, c, ni]
    | some i =>
      rw [h] at c
      have c : callN TT κ cx wf m 61 [sgP s, plP P] = .ok (.shr (.int i)) := c
      have ni : cmpP .isn (.int i) .non = .ok (.bl false) := rfl
      simp [stepF, Zd.winding_of_b1, c, ni, oiP]
  obtain ⟨s, outer⟩ := forL_scan (g := stepF (callN TT κ cx wf m) κ cx wf (.tn 3) Zd.winding_of_b2) (em := fun r : List Seg => PV.lst (r.map sgP)) (gn := wS gn) (R := .shr .non) (st := fun f (s : Slot × Slot × Slot) => [.shr R, .shr (plP P), .shr (.int f), s.1, s.2.1, s.2.2]) rows (fun r hr f ss => by
    obtain ⟨s', e⟩ := inner r hr f (.shr (.lst (r.map sgP))) ss.2.1 ss.2.2
    refine ⟨(.shr (.lst (r.map sgP)), s'.1, s'.2), ?_⟩
    unfold stepF Zd.winding_of_b2
    cases h : wS gn r with
    | none => rw [h] at e; simp [e]
    | some i => rw [h] at e; simp [e]) 0 (.un, .un, .un)
  refine seq_step _ _ (ρ' := [.shr R, .shr (plP P), .shr (.int 0), .un, .un, .un]) (by simp) ?_
  have it : itemsP R = .ok (.lst (rows.map fun r => .lst (r.map sgP))) := by rw [← hR]; rfl
  cases h : wS (wS gn) rows with
  | none =>
    rw [h] at outer
    have outer : forL (stepF (callN TT κ cx wf m) κ cx wf (.tn 3) Zd.winding_of_b2) (rows.map fun r => .lst (r.map sgP)) [.shr R, .shr (plP P), .shr (.int 0), .un, .un, .un] = .ret (.shr .non) := outer
    simp [it, outer, oiP]
  | some i =>
    rw [h] at outer
    have outer : forL (stepF (callN TT κ cx wf m) κ cx wf (.tn 3) Zd.winding_of_b2) (rows.map fun r => .lst (r.map sgP)) [.shr R, .shr (plP P), .shr (.int 0), .un, .un, .un] = .nx [.shr R, .shr (plP P), .shr (.int (0 + i)), s.1, s.2.1, s.2.2] := outer
    simp [it, outer, oiP]
end
/-! all points on -/
def AllOn (c : List Pt) : Prop := ∀ p ∈ c, p.2.2 = 1
def segLn : List Pq → List Seg
  | a :: b :: r => .ln a b :: segLn (b :: r)
  | _ => []
theorem wm_on (z : Pl) : ∀ l : List Pl, (∀ p ∈ l, p.2 = true) → wm z l = l
  | [], _ => rfl
  | a :: l, h => by
    show blk a (l.headD z) ++ wm z l = a :: l
    rw [wm_on z l fun p hp => h p (List.mem_cons_of_mem _ hp)]
    unfold blk
    rw [h a (List.mem_cons_self ..)]
    rfl
theorem segs_allOn : ∀ l : List Pl, (∀ p ∈ l, p.2 = true) → segs l = segLn (l.map (·.1))
  | [], _ => rfl
  | [a], _ => rfl
  | a :: b :: r, h => by
    rw [segs_on (h b (by simp)), segs_allOn (b :: r) fun p hp => h p (List.mem_cons_of_mem _ hp)]
    rfl
def ptq (p : Pt) : Pq := ((p.1 : Rat), (p.2.1 : Rat))
theorem coSegs_on {a : Pt} {r : List Pt} (h : AllOn (a :: r)) : coSegs (a :: r) = segLn ((a :: r ++ [a]).map ptq) := by
  have hon : ∀ p ∈ plOf (a :: r), p.2 = true := fun p hp => by
    unfold plOf at hp
    obtain ⟨q, hq, rfl⟩ := List.mem_map.mp hp
    show (q.2.2 == 1) = true
    rw [h q hq]
    rfl
  unfold coSegs
  have e1 : withMid (plOf (a :: r)) = plOf (a :: r) := by
    rw [wm_eq, wm_on _ _ hon]
  rw [e1]
  have e2 : firstOn (plOf (a :: r)) = 0 := by
    show (if (a.2.2 == 1) = true then 0 else _) = 0
    rw [h a (List.mem_cons_self ..)]
    rfl
  unfold segsOf rot
  rw [e2, List.drop_zero, segs_allOn]
  · congr 1
    unfold plOf
    simp [ptq, List.map_map]
  · intro p hp
    rcases List.mem_append.mp hp with hp | hp
    · exact hon p hp
    · exact hon p (List.mem_of_mem_take hp)
theorem segLn_pr : ∀ l : List Pq, segLn l = (pr l).map fun q => .ln q.1 q.2
  | [] => rfl
  | [a] => rfl
  | a :: b :: r => by
    show _ :: segLn (b :: r) = _ :: (pr (b :: r)).map _
    rw [segLn_pr (b :: r)]
theorem pr_map {α β : Type} (f : α → β) : ∀ l : List α, pr (l.map f) = (pr l).map fun q => (f q.1, f q.2)
  | [] => rfl
  | [a] => rfl
  | a :: b :: r => by
    show (f a, f b) :: pr ((b :: r).map f) = (f a, f b) :: (pr (b :: r)).map _
    rw [pr_map f (b :: r)]
theorem pr_app {α : Type} : ∀ (l : List α) (b a : α), pr (l ++ [b, a]) = pr (l ++ [b]) ++ [(b, a)]
  | [], b, a => rfl
  | [x], b, a => rfl
  | x :: y :: l, b, a => by
    show (x, y) :: pr (y :: l ++ [b, a]) = (x, y) :: (pr (y :: l ++ [b]) ++ [(b, a)])
    rw [pr_app (y :: l) b a]
theorem pr_range {α : Type} [Inhabited α] (l : List α) : pr l = (List.range (l.length - 1)).map fun i => (l.getD i default, l.getD (i + 1) default) := by
  induction l with
  | nil => rfl
  | cons a l ih =>
    cases l with
    | nil => rfl
    | cons b r =>
      show (a, b) :: pr (b :: r) = _
      rw [ih]
      have : (a :: b :: r).length - 1 = (b :: r).length - 1 + 1 := by simp
      rw [this, List.range_succ_eq_map, List.map_cons, List.map_map]
      rfl
end Zp
end
section
/-! the law's own segments -/
namespace Zd
open Z
def law_common_b1 : Z.C := (.scons (.sasg (.tt (.cons (.tn 0) (.cons (.tn 1) .nil))) (.tup (.cons (.v 1) (.cons (.bin .mod (.v 0) (.v 1)) .nil)))) .snil)
def d_law_common : Z.FnD := ⟨2, 2, (.scons (.swh (.cmp .ne (.v 1) (.k (.int 0))) law_common_b1) (.scons (.sret (.bi .abs (.cons (.v 0) .nil))) .snil))⟩
def d_law_least : Z.FnD := ⟨2, 3, (.scons (.sset 2 (.call 82 (.cons (.v 0) (.cons (.v 1) .nil)))) (.scons (.sset 2 (.ife (.cmp .lt (.v 1) (.k (.int 0))) (.neg (.v 2)) (.v 2))) (.scons (.sret (.tup (.cons (.bin .fdv (.v 0) (.v 2)) (.cons (.bin .fdv (.v 1) (.v 2)) .nil)))) .snil)))⟩
def law_segments_b1 : Z.C := (.scons (.sasg (.tt (.cons (.tn 3) (.cons (.tn 4) (.cons (.tn 5) .nil)))) (.ix (.v 0) (.v 2))) (.scons (.sapp 1 (.tup (.cons (.tup (.cons (.v 3) (.cons (.k (.int 1)) .nil))) (.cons (.tup (.cons (.v 4) (.cons (.k (.int 1)) .nil))) (.cons (.v 5) .nil))))) (.scons (.sset 6 (.ix (.v 0) (.bin .sub (.bin .add (.v 2) (.k (.int 1))) (.bi .len (.cons (.v 0) .nil))))) (.scons (.sif (.an (.cmp .eq (.v 5) (.k (.int 0))) (.cmp .eq (.ix (.v 6) (.k (.int 2))) (.k (.int 0)))) (.scons (.sapp 1 (.tup (.cons (.call 83 (.cons (.bin .add (.v 3) (.ix (.v 6) (.k (.int 0)))) (.cons (.k (.int 2)) .nil))) (.cons (.call 83 (.cons (.bin .add (.v 4) (.ix (.v 6) (.k (.int 1)))) (.cons (.k (.int 2)) .nil))) (.cons (.k (.int 1)) .nil))))) .snil) .snil) .snil))))
def law_segments_b2 : Z.C := (.scons (.sown 1 (.bin .add (.sl (.rd 1) (.k (.int 1)) .nop) (.sl (.rd 1) .nop (.k (.int 1))))) .snil)
def law_segments_b3 : Z.C := (.scons (.sapp 8 (.tup (.cons (.v 3) (.cons (.v 4) .nil)))) (.scons (.sif (.an (.cmp .eq (.v 5) (.k (.int 1))) (.cmp .gt (.bi .len (.cons (.rd 8) .nil)) (.k (.int 1)))) (.scons (.sapp 7 (.bi .tuple (.cons (.rd 8) .nil))) (.scons (.sown 8 (.dsp (.cons (.tup (.cons (.v 3) (.cons (.v 4) .nil))) .nil))) .snil)) .snil) .snil))
def d_law_segments : Z.FnD := ⟨1, 9, (.scons (.sown 1 (.dsp .nil)) (.scons (.sfor (.tn 2) (.rng1 (.bi .len (.cons (.v 0) .nil))) law_segments_b1) (.scons (.swh (.cmp .eq (.ix (.ix (.rd 1) (.k (.int 0))) (.k (.int 2))) (.k (.int 0))) law_segments_b2) (.scons (.sapp 1 (.ix (.rd 1) (.k (.int 0)))) (.scons (.sown 7 (.dsp .nil)) (.scons (.sown 8 (.dsp .nil)) (.scons (.sfrz 1) (.scons (.sfor (.tt (.cons (.tn 3) (.cons (.tn 4) (.cons (.tn 5) .nil)))) (.seq (.v 1)) law_segments_b3) (.scons (.sreo 7) .snil)))))))))⟩
end Zd
namespace Zp
open Z
structure HLS (TT : Nat → Option FnD) : Prop where
  h82 : TT 82 = some Zd.d_law_common
  h83 : TT 83 = some Zd.d_law_least
  h84 : TT 84 = some Zd.d_law_segments
section
variable {TT : Nat → Option FnD} {κ : Cons} {cx : Nat → Nat → Bool} {wf : Nat} {n : Nat}
theorem law_least_ls (S82 : TT 82 = some Zd.d_law_common) (S83 : TT 83 = some Zd.d_law_least) (hw : 100000 ≤ wf) : LsAt TT κ cx wf 83 := fun n t b k hk h0 hb => by
  have hc := common_ok (κ := κ) (cx := cx) (n := n) (i := 82) S82 hw (a := t) (by omega) hb
  obtain ⟨T', t1, t2⟩ : ∃ T' : Nat → Option FnD, T' 82 = some Zd.d_common ∧ T' 83 = some (lsT 82) := ⟨fun i => if i = 82 then some Zd.d_common else some (lsT 82), rfl, rfl⟩
  have l := least_ok (TT := T') (κ := κ) (cx := cx) (wf := wf) (n := n) (i := 82) (j := 83) t1 t2 hw hk h0 hb (t := t)
  have hc2 := common_ok (TT := T') (κ := κ) (cx := cx) (n := n) (i := 82) t1 hw (a := t) (by omega) hb
  rw [callN_eq t2 rfl] at l
  rw [callN_eq S83 rfl, ← l]
  unfold Zd.d_law_least lsT startS
  by_cases hn : b < 0 <;> simp [hc, hc2, hn]
end
def lwP (r : Pl) : PV := .tup [frP r.1.1, frP r.1.2, .int (if r.2 then 1 else 0)]
theorem headD_any {α : Type} {l : List α} {x y : α} (h : l ≠ []) : l.headD x = l.headD y := by
  cases l with
  | nil => exact absurd rfl h
  | cons a l => rfl
theorem take_off : ∀ (p : List Pl), ∀ x ∈ p.take (firstOn p), x.2 = false
  | [], x, h => by cases h
  | a :: r, x, h => by
    unfold firstOn at h
    by_cases ha : a.2 = true
    · rw [if_pos ha, List.take_zero] at h; cases h
    · rw [if_neg ha, List.take_succ_cons] at h
      rcases List.mem_cons.mp h with rfl | h
      · simpa using ha
      · exact take_off r x h
theorem half_eq (a b : Int) : Rat.divInt (a + b) 2 = ((a : Rat) + (b : Rat)) / 2 := by
  rw [Rat.divInt_eq_div]
  push_cast
  rfl
section
variable {TT : Nat → Option FnD} {κ : Cons} {cx : Nat → Nat → Bool} {wf : Nat} {n : Nat}
theorem rot_loop (φ : Fns) (b0 b2 b3 b4 b5 b6 b7 b8 : Slot) (a : Pl) (ha : a.2 = true) : ∀ (l1 l2 l3 : List Pl) (fuel : Nat), (∀ x ∈ l1, x.2 = false) → l1.length + 1 ≤ fuel → l1.length + l2.length + l3.length ≤ 10000 →
    whL (fun ρ' => (ev φ κ (.cmp .eq (.ix (.ix (.rd 1) (.k (.int 0))) (.k (.int 2))) (.k (.int 0))) ρ').bind truP) (fun ρ' => evS φ κ cx wf Zd.law_segments_b2 ρ') fuel [b0, .own ((l1 ++ a :: l2 ++ l3).map lwP), b2, b3, b4, b5, b6, b7, b8] = .nx [b0, .own ((a :: l2 ++ l3 ++ l1).map lwP), b2, b3, b4, b5, b6, b7, b8]
  | [], l2, l3, fuel, h, hf, hl => by
    obtain ⟨f, rfl⟩ : ∃ f, fuel = f + 1 := ⟨fuel - 1, by omega⟩
    have i2 : ixP (lwP a) (.int 2) = .ok (.int 1) := by
      show Res.ok (PV.int (if a.2 then 1 else 0)) = _
      rw [ha]; rfl
    rw [whL_end (by simp [ix_lst0, i2])]
    simp
  | b :: l1, l2, l3, fuel, h, hf, hl => by
    obtain ⟨f, rfl⟩ : ∃ f, fuel = f + 1 := ⟨fuel - 1, by omega⟩
    have hb := h b (List.mem_cons_self ..)
    rw [List.length_cons] at hf hl
    have i2 : ixP (lwP b) (.int 2) = .ok (.int 0) := by
      show Res.ok (PV.int (if b.2 then 1 else 0)) = _
      rw [hb]; rfl
    have ih := rot_loop φ b0 b2 b3 b4 b5 b6 b7 b8 a ha l1 l2 (l3 ++ [b]) f (fun x hx => h x (List.mem_cons_of_mem _ hx)) (by omega) (by simp; omega)
    have ba : ∀ xs : List PV, xs.length ≤ 10000 → binP .add (.lst xs) (.lst [lwP b]) = .ok (.lst (xs ++ [lwP b])) := fun xs hx => bin_addL (by simp; omega)
    have ct : ∀ (x : PV) (xs : List PV), cutP (x :: xs) none (some 1) = [x] := fun x xs => by rw [cut_hi _ (by decide)]; rfl
    rw [whL_step (ρ' := [b0, .own ((l1 ++ a :: l2 ++ (l3 ++ [b])).map lwP), b2, b3, b4, b5, b6, b7, b8]) (by simp [ix_lst0, i2]) (by
      simp [Zd.law_segments_b2, cut1, ct]
      rw [ba _ (by simp; omega)]
      simp), ih]
    simp
theorem grp_loop (φ : Fns) (b0 b1 b2 b6 : Slot) : ∀ (m : Nat) (rem : List Pl) (A : Pl) (acc : List Seg) (x3 x4 x5 : Slot), rem.length ≤ m → acc.length + rem.length ≤ 10000 → A.2 = true → adj (A :: rem) → lastOn (A :: rem) → ∃ y3 y4 y5 y8,
    forL (stepF φ κ cx wf (.tt (.cons (.tn 3) (.cons (.tn 4) (.cons (.tn 5) .nil)))) Zd.law_segments_b3) (rem.map lwP) [b0, b1, b2, x3, x4, x5, b6, .own (acc.map sgP), .own [plP A.1]] = .nx [b0, b1, b2, y3, y4, y5, b6, .own ((acc ++ segs (A :: rem)).map sgP), .own y8] := by
  have ent : ∀ (r : Pl) (ρ : List Slot), asgP (.tt (.cons (.tn 3) (.cons (.tn 4) (.cons (.tn 5) .nil)))) (lwP r) ρ = .ok (((ρ.set 3 (.shr (frP r.1.1))).set 4 (.shr (frP r.1.2))).set 5 (.shr (.int (if r.2 then 1 else 0)))) := fun r ρ => rfl
  have f1 : fits 2 = true := rfl
  have f2 : fits 3 = true := rfl
  intro m
  induction m with
  | zero =>
    intro rem A acc x3 x4 x5 hm hl hA h1 h2
    have : rem = [] := List.length_eq_zero_iff.mp (by omega)
    subst this
    exact ⟨x3, x4, x5, [plP A.1], by simp [segs]⟩
  | succ m ih =>
    intro rem A acc x3 x4 x5 hm hl hA h1 h2
    cases rem with
    | nil => exact ⟨x3, x4, x5, [plP A.1], by simp [segs]⟩
    | cons b r =>
      rw [List.length_cons] at hm hl
      have fa : fits (acc.length + 1) = true := fits_of (by omega)
      by_cases hb : b.2 = true
      · obtain ⟨y3, y4, y5, y8, e⟩ := ih r b (acc ++ [.ln A.1 b.1]) (.shr (frP b.1.1)) (.shr (frP b.1.2)) (.shr (.int 1)) (by omega) (by simp; omega) hb h1.2 (lastOn_tail h2)
        refine ⟨y3, y4, y5, y8, ?_⟩
        have st : stepF φ κ cx wf (.tt (.cons (.tn 3) (.cons (.tn 4) (.cons (.tn 5) .nil)))) Zd.law_segments_b3 (lwP b) [b0, b1, b2, x3, x4, x5, b6, .own (acc.map sgP), .own [plP A.1]] = .nx [b0, b1, b2, .shr (frP b.1.1), .shr (frP b.1.2), .shr (.int 1), b6, .own ((acc ++ [Seg.ln A.1 b.1]).map sgP), .own [plP b.1]] := by
          unfold stepF Zd.law_segments_b3
          rw [ent]
          simp [hb, f1, fa, sgP, plP]
        rw [List.map_cons, forL_cons, st, next_nx, e, segs_on hb]
        simp
      · have hb' : b.2 = false := by simpa using hb
        cases r with
        | nil =>
          obtain ⟨l, x, e, hx⟩ := lastOn_tail h2
          cases l with
          | nil => cases e; exact absurd hx hb
          | cons y l => simp at e
        | cons c r =>
          rw [List.length_cons] at hm hl
          have hc : c.2 = true := by
            rcases h1.2.1 with h | h
            · exact absurd h hb
            · exact h
          obtain ⟨y3, y4, y5, y8, e⟩ := ih r c (acc ++ [.bd A.1 b.1 c.1]) (.shr (frP c.1.1)) (.shr (frP c.1.2)) (.shr (.int 1)) (by omega) (by simp; omega) hc h1.2.2 (lastOn_tail (lastOn_tail h2))
          refine ⟨y3, y4, y5, y8, ?_⟩
          have st : stepF φ κ cx wf (.tt (.cons (.tn 3) (.cons (.tn 4) (.cons (.tn 5) .nil)))) Zd.law_segments_b3 (lwP b) [b0, b1, b2, x3, x4, x5, b6, .own (acc.map sgP), .own [plP A.1]] = .nx [b0, b1, b2, .shr (frP b.1.1), .shr (frP b.1.2), .shr (.int 0), b6, .own (acc.map sgP), .own [plP A.1, plP b.1]] := by
            unfold stepF Zd.law_segments_b3
            rw [ent]
            simp [hb', f1, plP]
          have st2 : stepF φ κ cx wf (.tt (.cons (.tn 3) (.cons (.tn 4) (.cons (.tn 5) .nil)))) Zd.law_segments_b3 (lwP c) [b0, b1, b2, .shr (frP b.1.1), .shr (frP b.1.2), .shr (.int 0), b6, .own (acc.map sgP), .own [plP A.1, plP b.1]] = .nx [b0, b1, b2, .shr (frP c.1.1), .shr (frP c.1.2), .shr (.int 1), b6, .own ((acc ++ [Seg.bd A.1 b.1 c.1]).map sgP), .own [plP c.1]] := by
            unfold stepF Zd.law_segments_b3
            rw [ent]
            simp [hc, f2, fa, sgP, plP]
          rw [List.map_cons, forL_cons, st, next_nx, List.map_cons, forL_cons, st2, next_nx, e, segs_off hb']
          simp
theorem law_segments_ok (w : 100000 ≤ wf) (S : HLS TT) {c : List Pt} (hc : ∀ p ∈ c, p.1.natAbs < 2 ^ 20 ∧ p.2.1.natAbs < 2 ^ 20 ∧ (p.2.2 = 0 ∨ p.2.2 = 1)) (h0 : c ≠ []) (hl : c.length ≤ 400) : callN TT κ cx wf (n + 3) 84 [coP c] = .ok (.own ((coSegs c).map sgP)) := by
  rw [callN_eq S.h84 rfl]
  unfold Zd.d_law_segments
  show fin (evS (callN TT κ cx wf (n + 2)) κ cx wf _ [.shr (coP c), .un, .un, .un, .un, .un, .un, .un, .un]) = _
  have LS := law_least_ls (κ := κ) (cx := cx) S.h82 S.h83 w
  have hpl : ∀ i (h : i < c.length), (plOf c)[i]'(by unfold plOf; rw [List.length_map]; exact h) = (ptq c[i], c[i].2.2 == 1) := fun i h => by
    unfold plOf
    rw [List.getElem_map]
    rfl
  have hplen : (plOf c).length = c.length := by unfold plOf; rw [List.length_map]
  -- the row
  obtain ⟨ρ1, e1, acc, b2, b3, b4, b5, b6, h1, _, rfl⟩ := forL_range (g := stepF (callN TT κ cx wf (n + 2)) κ cx wf (.tn 2) Zd.law_segments_b1) (n := c.length)
    (I := fun i ρ => ∃ acc b2 b3 b4 b5 b6, acc ++ wm ((plOf c).headD ((0, 0), false)) ((plOf c).drop i) = withMid (plOf c) ∧ acc.length ≤ 2 * i ∧ ρ = [.shr (coP c), .own (acc.map lwP), b2, b3, b4, b5, b6, .un, .un]) (fun i ρ hi ⟨acc, b2, b3, b4, b5, b6, h1, h2, h3⟩ => by
      subst h3
      have hi' : i < (plOf c).length := by omega
      have hm : (i + 1) % (plOf c).length < (plOf c).length := Nat.mod_lt _ (by omega)
      have hnx : ((plOf c).drop (i + 1)).headD ((plOf c).headD ((0, 0), false)) = (plOf c)[(i + 1) % (plOf c).length] := by
        have := headD_drop hi'
        rw [← this, headD_any (x := ((0, 0), false)) (y := (plOf c)[i]) (by intro e; rw [e] at hi'; simp at hi')]
      have hmc : (i + 1) % c.length < c.length := Nat.mod_lt _ (by omega)
      have hd : (plOf c).drop i = (ptq c[i], c[i].2.2 == 1) :: (plOf c).drop (i + 1) := by rw [List.drop_eq_getElem_cons hi', hpl i hi]
      have hq : (plOf c)[(i + 1) % (plOf c).length] = (ptq c[(i + 1) % c.length], c[(i + 1) % c.length].2.2 == 1) := by
        have := hpl ((i + 1) % c.length) hmc
        simp only [hplen]
        exact this
      rw [hd] at h1
      have h1 : acc ++ (blk (ptq c[i], c[i].2.2 == 1) (((plOf c).drop (i + 1)).headD ((plOf c).headD ((0, 0), false))) ++ wm ((plOf c).headD ((0, 0), false)) ((plOf c).drop (i + 1))) = withMid (plOf c) := h1
      rw [hnx, hq] at h1
      have hp := hc c[i] (List.getElem_mem hi)
      have hqq := hc c[(i + 1) % c.length] (List.getElem_mem hmc)
      have ixp : ixP (coP c) (.int (i : Int)) = .ok (ptP c[i]) := by
        rw [coP, ix_tup, at_nat (x := ptP c[i]) (by omega) (by rw [List.getElem?_map, Int.toNat_natCast, List.getElem?_eq_getElem hi]; rfl)]
        rfl
      have ixq : ixP (coP c) (.int ((i : Int) + 1 - (c.length : Int))) = .ok (ptP c[(i + 1) % c.length]) := by
        rw [coP, ix_tup]
        have : L2.atI (c.map ptP) ((i : Int) + 1 - (c.length : Int)) = some (ptP c[(i + 1) % c.length]) := by
          unfold L2.atI
          rw [List.length_map]
          by_cases hlast : i + 1 = c.length
          · have z : (i : Int) + 1 - (c.length : Int) = 0 := by omega
            rw [z, ixN_nat (by omega) (by omega)]
            show (c.map ptP)[0]? = _
            have z2 : (i + 1) % c.length = 0 := by rw [hlast, Nat.mod_self]
            rw [List.getElem?_map, List.getElem?_eq_getElem (by omega)]
            simp [z2]
          · have z2 : (i + 1) % c.length = i + 1 := Nat.mod_eq_of_lt (by omega)
            rw [ixN_neg (by omega) (by omega)]
            have z3 : ((i : Int) + 1 - (c.length : Int) + (c.length : Int)).toNat = i + 1 := by omega
            show (c.map ptP)[((i : Int) + 1 - (c.length : Int) + (c.length : Int)).toNat]? = _
            rw [z3, List.getElem?_map, List.getElem?_eq_getElem (by omega)]
            simp [z2]
        rw [this]
        rfl
      generalize c[i] = p at *
      generalize c[(i + 1) % c.length] = q at *
      obtain ⟨px, py, po⟩ := p
      obtain ⟨qx, qy, qo⟩ := q
      have f1 : fits (acc.length + 1) = true := fits_of (by omega)
      have f2 : fits (acc.length + 1 + 1) = true := fits_of (by omega)
      have ln : biP .len [coP c] = .ok (.int c.length) := by show Res.ok (PV.int ((c.map ptP).length : Nat)) = _; rw [List.length_map]
      have ent : ∀ ρ : List Slot, asgP (.tt (.cons (.tn 3) (.cons (.tn 4) (.cons (.tn 5) .nil)))) (ptP (px, py, po)) ρ = .ok (((ρ.set 3 (.shr (.int px))).set 4 (.shr (.int py))).set 5 (.shr (.int po))) := fun ρ => rfl
      have k0 : ixP (ptP (qx, qy, qo)) (.int 0) = .ok (.int qx) := rfl
      have k1 : ixP (ptP (qx, qy, qo)) (.int 1) = .ok (.int qy) := rfl
      have k2 : ixP (ptP (qx, qy, qo)) (.int 2) = .ok (.int qo) := rfl
      have lp : PV.tup [.tup [.int px, .int 1], .tup [.int py, .int 1], .int po] = lwP (ptq (px, py, po), po == 1) := by
        show _ = PV.tup [frP (px : Rat), frP (py : Rat), .int (if (po == 1) = true then 1 else 0)]
        rcases hp.2.2 with h | h <;> (have h : po = _ := h; subst h; rfl)
      unfold stepF Zd.law_segments_b1
      rw [asg_tn, lf_ok]
      simp only [List.set_cons_zero, List.set_cons_succ]
      have s123 : ∀ rest, evS (callN TT κ cx wf (n + 2)) κ cx wf (.scons (.sasg (.tt (.cons (.tn 3) (.cons (.tn 4) (.cons (.tn 5) .nil)))) (.ix (.v 0) (.v 2))) (.scons (.sapp 1 (.tup (.cons (.tup (.cons (.v 3) (.cons (.k (.int 1)) .nil))) (.cons (.tup (.cons (.v 4) (.cons (.k (.int 1)) .nil))) (.cons (.v 5) .nil))))) (.scons (.sset 6 (.ix (.v 0) (.bin .sub (.bin .add (.v 2) (.k (.int 1))) (.bi .len (.cons (.v 0) .nil))))) rest))) [.shr (coP c), .own (acc.map lwP), .shr (.int (i : Int)), b3, b4, b5, b6, .un, .un] =
          evS (callN TT κ cx wf (n + 2)) κ cx wf rest [.shr (coP c), .own (acc.map lwP ++ [lwP (ptq (px, py, po), po == 1)]), .shr (.int (i : Int)), .shr (.int px), .shr (.int py), .shr (.int po), .shr (ptP (qx, qy, qo)), .un, .un] := fun rest => by
        refine (seq_nxt (ρ' := [.shr (coP c), .own (acc.map lwP), .shr (.int (i : Int)), .shr (.int px), .shr (.int py), .shr (.int po), b6, .un, .un]) (by simp [ixp, ent])).trans ?_
        refine (seq_nxt (ρ' := [.shr (coP c), .own (acc.map lwP ++ [lwP (ptq (px, py, po), po == 1)]), .shr (.int (i : Int)), .shr (.int px), .shr (.int py), .shr (.int po), b6, .un, .un]) (by simp [f1, lp])).trans ?_
        exact seq_nxt (by simp [ln, ixq])
      rw [s123]
      have hp2 := hp.2.2
      have hq2 := hqq.2.2
      by_cases hb : po = 0 ∧ qo = 0
      · obtain ⟨z1, z2⟩ := hb
        subst z1 z2
        have eb : blk (ptq (px, py, 0), (0 : Int) == 1) (ptq (qx, qy, 0), (0 : Int) == 1) = [(ptq (px, py, 0), (0 : Int) == 1), (mid2 (ptq (px, py, 0)) (ptq (qx, qy, 0)), true)] := by
          rfl
        rw [eb] at h1
        have l1 := LS n (px + qx) 2 2 (by decide) (by decide) (by decide)
        have l2 := LS n (py + qy) 2 2 (by decide) (by decide) (by decide)
        rw [half_eq] at l1 l2
        refine ⟨_, ?_, acc ++ [(ptq (px, py, 0), (0 : Int) == 1), (mid2 (ptq (px, py, 0)) (ptq (qx, qy, 0)), true)], .shr (.int (i : Int)), .shr (.int px), .shr (.int py), .shr (.int 0), .shr (ptP (qx, qy, 0)), by rw [← h1]; simp, by simp; omega, rfl⟩
        have mp : PV.tup [frP (((px : Rat) + qx) / 2), frP (((py : Rat) + qy) / 2), .int 1] = lwP (mid2 (ptq (px, py, 0)) (ptq (qx, qy, 0)), true) := rfl
        simp [k0, k1, k2, l1, l2, f2, mp]
      · have eb : blk (ptq (px, py, po), po == 1) (ptq (qx, qy, qo), qo == 1) = [(ptq (px, py, po), po == 1)] := by
          unfold blk
          rcases hp2 with h | h <;> rcases hq2 with h' | h' <;> (have h : po = _ := h; have h' : qo = _ := h'; subst h; subst h'; first | rfl | exact absurd ⟨rfl, rfl⟩ hb)
        rw [eb] at h1
        refine ⟨_, ?_, acc ++ [(ptq (px, py, po), po == 1)], .shr (.int (i : Int)), .shr (.int px), .shr (.int py), .shr (.int po), .shr (ptP (qx, qy, qo)), by rw [← h1]; simp, by simp; omega, rfl⟩
        by_cases z : po = 0
        · have z' : ¬ qo = 0 := fun h => hb ⟨z, h⟩
          simp [z, z', k2]
        · simp [z]) (ρ := [.shr (coP c), .own [], .un, .un, .un, .un, .un, .un, .un]) ⟨[], .un, .un, .un, .un, .un, by rw [wm_eq]; rfl, by simp, rfl⟩
  have hdl : (plOf c).drop c.length = [] := List.drop_eq_nil_of_le (by omega)
  rw [hdl] at h1
  have h1 : acc ++ [] = withMid (plOf c) := h1
  rw [List.append_nil] at h1
  subst h1
  have hne : plOf c ≠ [] := by unfold plOf; simpa using h0
  obtain ⟨z, r, ez, ha⟩ := withMid_adj hne
  have hlen : (withMid (plOf c)).length ≤ 800 := by
    rw [wm_eq]
    have := withMid_len ((plOf c).headD ((0, 0), false)) (plOf c)
    omega
  generalize hp : withMid (plOf c) = p at *
  have ho := exists_on ez ha
  obtain ⟨hf, hon⟩ := firstOn_ok p ho
  have hra := rot_adj ez ha hf
  have hrl := rot_last hf hon
  obtain ⟨A, D, Tk, eD, eT, hAon, hTo, ep, hTl⟩ : ∃ A D Tk, p.drop (firstOn p) = A :: D ∧ p.take (firstOn p + 1) = Tk ++ [A] ∧ A.2 = true ∧ (∀ x ∈ Tk, x.2 = false) ∧ p = Tk ++ A :: D ∧ Tk.length + D.length + 1 = p.length := by
    refine ⟨p[firstOn p], p.drop (firstOn p + 1), p.take (firstOn p), List.drop_eq_getElem_cons hf, List.take_succ_eq_append_getElem hf, hon, take_off p, ?_, ?_⟩
    · rw [← List.drop_eq_getElem_cons hf, List.take_append_drop]
    · rw [List.length_take, List.length_drop]; omega
  have hrot : rot p (firstOn p) = A :: (D ++ Tk ++ [A]) := by
    unfold rot
    rw [eD, eT]
    simp
  have lp := rot_loop (κ := κ) (cx := cx) (wf := wf) (callN TT κ cx wf (n + 2)) (.shr (coP c)) b2 b3 b4 b5 b6 .un .un A hAon Tk D [] wf hTo (by omega) (by simp; omega)
  rw [List.append_nil, List.append_nil, ← ep] at lp
  have eln : biP .len [coP c] = .ok (.int c.length) := by show Res.ok (PV.int ((c.map ptP).length : Nat)) = _; rw [List.length_map]
  have erg := rng_nat (n := c.length) (by omega)
  refine seq_step _ _ (ρ' := [.shr (coP c), .own [], .un, .un, .un, .un, .un, .un, .un]) (by simp) ?_
  refine seq_step _ _ (ρ' := [.shr (coP c), .own (p.map lwP), b2, b3, b4, b5, b6, .un, .un]) (by simp [eln, erg]; exact e1) ?_
  refine seq_step _ _ ((es_wh _ _).trans lp) ?_
  have fa : fits (D.length + 1 + Tk.length + 1) = true := fits_of (by omega)
  have fa2 : fits (D.length + Tk.length + 1 + 1) = true := fits_of (by omega)
  refine seq_step _ _ (ρ' := [.shr (coP c), .own ((rot p (firstOn p)).map lwP), b2, b3, b4, b5, b6, .un, .un]) (by
    rw [hrot]
    simp [ix_lst0, fa, fa2]) ?_
  refine seq_step _ _ (ρ' := [.shr (coP c), .own ((rot p (firstOn p)).map lwP), b2, b3, b4, b5, b6, .own [], .un]) (by simp) ?_
  refine seq_step _ _ (ρ' := [.shr (coP c), .own ((rot p (firstOn p)).map lwP), b2, b3, b4, b5, b6, .own [], .own []]) (by simp) ?_
  refine seq_step _ _ (ρ' := [.shr (coP c), .shr (.lst ((rot p (firstOn p)).map lwP)), b2, b3, b4, b5, b6, .own [], .own []]) (by simp) ?_
  generalize hrem : (D ++ Tk ++ [A]) = rem at *
  have hreml : rem.length ≤ 2000 := by rw [← hrem]; simp; omega
  rw [hrot] at hra hrl
  have ent : ∀ (r : Pl) (ρ : List Slot), asgP (.tt (.cons (.tn 3) (.cons (.tn 4) (.cons (.tn 5) .nil)))) (lwP r) ρ = .ok (((ρ.set 3 (.shr (frP r.1.1))).set 4 (.shr (frP r.1.2))).set 5 (.shr (.int (if r.2 then 1 else 0)))) := fun r ρ => rfl
  have f1 : fits 1 = true := rfl
  obtain ⟨y3, y4, y5, y8, eg⟩ := grp_loop (κ := κ) (cx := cx) (wf := wf) (callN TT κ cx wf (n + 2)) (.shr (coP c)) (.shr (.lst ((A :: rem).map lwP))) b2 b6 rem.length rem A [] (.shr (frP A.1.1)) (.shr (frP A.1.2)) (.shr (.int 1)) (Nat.le_refl _) (by simp; omega) hAon hra hrl
  have st : stepF (callN TT κ cx wf (n + 2)) κ cx wf (.tt (.cons (.tn 3) (.cons (.tn 4) (.cons (.tn 5) .nil)))) Zd.law_segments_b3 (lwP A) [.shr (coP c), .shr (.lst ((A :: rem).map lwP)), b2, b3, b4, b5, b6, .own [], .own []] = .nx [.shr (coP c), .shr (.lst ((A :: rem).map lwP)), b2, .shr (frP A.1.1), .shr (frP A.1.2), .shr (.int 1), b6, .own [], .own [plP A.1]] := by
    unfold stepF Zd.law_segments_b3
    rw [ent]
    simp [hAon, f1, plP]
  rw [hrot]
  rw [List.map_nil, List.nil_append] at eg
  refine seq_step _ _ (ρ' := [.shr (coP c), .shr (.lst ((A :: rem).map lwP)), b2, y3, y4, y5, b6, .own ((segs (A :: rem)).map sgP), .own y8]) ?_ ?_
  · simp only [es_for, ev_seq, ev_v, List.getElem?_cons_succ, List.getElem?_cons_zero, getV_shr, rb_ok, it_lst, lo_lst, lf_ok, List.map_cons, forL_cons]
    rw [List.map_cons] at st
    rw [st, next_nx]
    exact eg
  · unfold coSegs segsOf
    rw [hp, hrot]
    simp
end
end Zp
end
section
namespace Zd
open Z
def d_segments : Z.FnD := ⟨1, 1, (.scons (.sexp (.call 4 (.cons (.v 0) .nil))) (.scons (.sret (.call 42 (.cons (.v 0) .nil))) .snil))⟩
def law_5_b1 : Z.C := (.scons (.sif (.cmp .ne (.ix (.v 4) (.neg (.k (.int 1)))) (.ix (.v 5) (.k (.int 0)))) (.scons (.sret (.k (.bl false))) .snil) .snil) .snil)
def law_5_b2 : Z.C := (.scons (.sfor (.tt (.cons (.tn 4) (.cons (.tn 5) .nil))) (.zip (.v 3) (.bin .add (.sl (.v 3) (.k (.int 1)) .nop) (.sl (.v 3) .nop (.k (.int 1))))) law_5_b1) .snil)
def d_law_5 : Z.FnD := ⟨1, 7, (.scons (.sset 1 (.call 14 (.cons (.v 0) (.cons (.k (.int 2)) .nil)))) (.scons (.sset 2 (.call 43 (.cons (.v 1) .nil))) (.scons (.sif (.cmp .ne (.v 2) (.comp [6] (.tn 6) (.seq (.v 1)) (.k (.bl true)) (.call 84 (.cons (.v 6) .nil)))) (.scons (.sret (.k (.bl false))) .snil) .snil) (.scons (.sfor (.tn 3) (.seq (.v 2)) law_5_b2) (.scons (.sret (.k (.bl true))) .snil)))))⟩
end Zd
namespace Zp
open Z
def sSt : Seg → Pq
  | .ln a _ => a
  | .bd a _ _ => a
def sEn : Seg → Pq
  | .ln _ b => b
  | .bd _ _ b => b
theorem ix_st (s : Seg) : ixP (sgP s) (.int 0) = .ok (plP (sSt s)) := by cases s <;> rfl
theorem ix_en (s : Seg) : ixP (sgP s) (.int (-1)) = .ok (plP (sEn s)) := by cases s <;> rfl
def chn : Pq → List Seg → Pq → Prop
  | p, [], q => p = q
  | p, s :: r, q => sSt s = p ∧ chn (sEn s) r q
theorem segs_chn : ∀ (m : Nat) (rem : List Pl) (A : Pl), rem.length ≤ m → adj (A :: rem) → ∀ (l : List Pl) (Z : Pl), A :: rem = l ++ [Z] → Z.2 = true → chn A.1 (segs (A :: rem)) Z.1
  | 0, rem, A, hm, h1, l, Z, e, hZ => by
    have : rem = [] := List.length_eq_zero_iff.mp (by omega)
    subst this
    cases l with
    | nil => cases e; rfl
    | cons y l => simp at e
  | m + 1, [], A, hm, h1, l, Z, e, hZ => by
    cases l with
    | nil => cases e; rfl
    | cons y l => simp at e
  | m + 1, b :: r, A, hm, h1, l, Z, e, hZ => by
    rw [List.length_cons] at hm
    cases l with
    | nil => simp at e
    | cons y l =>
      have e1 : A = y ∧ b :: r = l ++ [Z] := by simpa using e
      by_cases hb : b.2 = true
      · rw [segs_on hb]
        exact ⟨rfl, segs_chn m r b (by omega) h1.2 l Z e1.2 hZ⟩
      · have hb' : b.2 = false := by simpa using hb
        cases r with
        | nil =>
          cases l with
          | nil =>
            have : b = Z := by simpa using e1.2
            subst this
            exact absurd hZ hb
          | cons y l => simp at e1
        | cons c r =>
          cases l with
          | nil => simp at e1
          | cons y2 l =>
            have e2 : b = y2 ∧ c :: r = l ++ [Z] := by simpa using e1.2
            rw [segs_off hb']
            rw [List.length_cons] at hm
            exact ⟨rfl, segs_chn m r c (by omega) h1.2.2 l Z e2.2 hZ⟩
theorem segs_len : ∀ (m : Nat) (l : List Pl), l.length ≤ m → (segs l).length ≤ l.length
  | 0, l, h => by
    have : l = [] := List.length_eq_zero_iff.mp (by omega)
    subst this
    exact Nat.le_refl _
  | m + 1, [], h => Nat.le_refl _
  | m + 1, [a], h => Nat.zero_le _
  | m + 1, a :: b :: r, h => by
    rw [List.length_cons, List.length_cons] at h
    by_cases hb : b.2 = true
    · rw [segs_on hb]
      have := segs_len m (b :: r) (by rw [List.length_cons]; omega)
      simp at this ⊢
      omega
    · have hb' : b.2 = false := by simpa using hb
      cases r with
      | nil => simp [segs, hb']
      | cons c r =>
        rw [segs_off hb']
        rw [List.length_cons] at h
        have := segs_len m (c :: r) (by rw [List.length_cons]; omega)
        simp at this ⊢
        omega
theorem coSegs_len (c : List Pt) : (coSegs c).length ≤ 4 * c.length + 1 := by
  unfold coSegs segsOf
  have h1 := segs_len _ (rot (withMid (plOf c)) (firstOn (withMid (plOf c)))) (Nat.le_refl _)
  have h2 : (rot (withMid (plOf c)) (firstOn (withMid (plOf c)))).length ≤ 2 * (withMid (plOf c)).length + 1 := by
    unfold rot
    rw [List.length_append, List.length_drop, List.length_take]
    omega
  have h3 : (withMid (plOf c)).length ≤ 2 * c.length := by
    rw [wm_eq]
    have := withMid_len ((plOf c).headD ((0, 0), false)) (plOf c)
    have e : (plOf c).length = c.length := by unfold plOf; rw [List.length_map]
    omega
  omega
def mat : List Seg → List Seg → Prop
  | x :: xs, y :: ys => sEn x = sSt y ∧ mat xs ys
  | _, _ => True
theorem chn_mat : ∀ (xs : List Seg) (x z : Seg) (p q : Pq), chn p (x :: xs) q → sSt z = q → mat (x :: xs) (xs ++ [z])
  | [], x, z, p, q, h, hz => ⟨by rw [hz]; exact h.2, trivial⟩
  | y :: xs, x, z, p, q, h, hz => ⟨h.2.1.symm, chn_mat xs y z _ q h.2 hz⟩
theorem coSegs_cyc {c : List Pt} (h0 : c ≠ []) : coSegs c = [] ∨ ∃ x xs, coSegs c = x :: xs ∧ mat (x :: xs) (xs ++ [x]) := by
  have hne : plOf c ≠ [] := by unfold plOf; simpa using h0
  obtain ⟨z, r, ez, ha⟩ := withMid_adj hne
  generalize hp : withMid (plOf c) = p at *
  have ho := exists_on ez ha
  obtain ⟨hf, hon⟩ := firstOn_ok p ho
  have hra := rot_adj ez ha hf
  have e : coSegs c = segs (rot p (firstOn p)) := by unfold coSegs segsOf; rw [hp]
  have hrot : rot p (firstOn p) = p[firstOn p] :: (p.drop (firstOn p + 1) ++ p.take (firstOn p + 1)) := by
    unfold rot
    rw [List.drop_eq_getElem_cons hf, List.cons_append]
  have hrot2 : rot p (firstOn p) = (p.drop (firstOn p) ++ p.take (firstOn p)) ++ [p[firstOn p]] := by
    unfold rot
    rw [List.take_succ_eq_append_getElem hf, List.append_assoc]
  rw [hrot] at hra hrot2
  have ch := segs_chn _ _ _ (Nat.le_refl _) hra _ _ hrot2 hon
  rw [← hrot, ← e] at ch
  cases hs : coSegs c with
  | nil => exact .inl rfl
  | cons x xs =>
    rw [hs] at ch
    exact .inr ⟨x, xs, rfl, chn_mat xs x x _ _ ch ch.1⟩
theorem dep_pl (a : Pq) : dep (plP a) 20 = true := rfl
theorem dep_sg (s : Seg) (n : Nat) : dep (sgP s) (n + 3) = true := by cases s <;> rfl
structure H03 (TT : Nat → Option FnD) (κ : Cons) (wf : Nat) : Prop where
  T : HS TT κ
  L : HLs TT
  Q : HQ0 TT wf
  G : HG TT
  S : HLS TT
  h43 : TT 43 = some Zd.d_segments
  h85 : TT 85 = some Zd.d_law_5
theorem Good_bd {s : List (List Pt)} (hg : GoodSh s) : ∀ c ∈ s, c ≠ [] ∧ c.length ≤ 400 ∧ ∀ p ∈ c, p.1.natAbs < 2 ^ 20 ∧ p.2.1.natAbs < 2 ^ 20 ∧ (p.2.2 = 0 ∨ p.2.2 = 1) := fun c hc => by
  obtain ⟨h1, h2, h3⟩ := hg.2 c hc
  refine ⟨by intro e; rw [e] at h1; simp at h1, by omega, fun p hp => ?_⟩
  obtain ⟨k1, k2, k3, k4, k5⟩ := h3 p hp
  exact ⟨Nat.lt_of_le_of_lt (show p.1.natAbs ≤ 1600 by omega) (by decide), Nat.lt_of_le_of_lt (show p.2.1.natAbs ≤ 1600 by omega) (by decide), k5⟩
section
variable {TT : Nat → Option FnD} {κ : Cons} {cx : Nat → Nat → Bool} {wf : Nat} {n : Nat} (Y : H03 TT κ wf)
include Y
theorem plain03 (ns : List Int) : callN TT κ cx wf (n + 9) 85 [.scr ns] = .ok (.shr (.bl true)) := by
  obtain ⟨s, hg, es⟩ := lshape_ok (κ := κ) (cx := cx) (wf := wf) (n := n + 5) Y.L (ns := ns) (a := 2) (by decide)
  have bd := Good_bd hg
  have bd2 : ∀ c ∈ s, c ≠ [] ∧ c.length ≤ 400 ∧ ∀ p ∈ c, p.1.natAbs < 2 ^ 20 ∧ p.2.1.natAbs < 2 ^ 20 := fun c hc => ⟨(bd c hc).1, (bd c hc).2.1, fun p hp => ⟨((bd c hc).2.2 p hp).1, ((bd c hc).2.2 p hp).2.1⟩⟩
  have a1 := look_ok (cx := cx) (wf := wf) (n := n + 2) Y.T (GoodSh.ok hg)
  have a2 := all_segments_ok (κ := κ) (cx := cx) (n := n + 1) Y.Q Y.G bd2
  have sg : callN TT κ cx wf (n + 8) 43 [shP s] = .ok (.shr (.lst (s.map fun c => .lst ((coSegs c).map sgP)))) := by
    rw [callN_eq Y.h43 rfl]
    unfold Zd.d_segments startS
    simp [a1, a2]
  have it : itemsP (shP s) = .ok (.lst (s.map coP)) := rfl
  have cm : ∀ x2 : Slot, compL (stepC (callN TT κ cx wf (n + 8)) κ [6] (.tn 6) (.k (.bl true)) (.call 84 (.cons (.v 6) .nil)) [.shr (.scr ns), .shr (shP s), x2, .un, .un, .un, .un]) (s.map coP) = .ok (s.map fun c => .lst ((coSegs c).map sgP)) := fun x2 => by
    refine compL_of fun c hc => ?_
    obtain ⟨h0, h1, h2⟩ := bd c hc
    have l := law_segments_ok (κ := κ) (cx := cx) (n := n + 5) Y.Q.w Y.S h2 h0 h1
    simp [stepC, l]
  have ce : cmpP .ne (.lst (s.map fun c => .lst ((coSegs c).map sgP))) (.lst (s.map fun c => .lst ((coSegs c).map sgP))) = .ok (.bl false) := cmp_ne_self (by
    show depL (s.map fun c => .lst ((coSegs c).map sgP)) 19 = true
    refine depL_map fun c _ => ?_
    show depL ((coSegs c).map sgP) 18 = true
    exact depL_map fun x _ => dep_sg x 15)
  have ne1 : ∀ a : Pq, cmpP .ne (plP a) (plP a) = .ok (.bl false) := fun a => cmp_ne_self (dep_pl a)
  have inner : ∀ (xs ys : List Seg) (b0 b1 b2 b3 b4 b5 b6 : Slot), mat xs ys → ∃ c4 c5, forL (stepF (callN TT κ cx wf (n + 8)) κ cx wf (.tt (.cons (.tn 4) (.cons (.tn 5) .nil))) Zd.law_5_b1) (zipL (xs.map sgP) (ys.map sgP)) [b0, b1, b2, b3, b4, b5, b6] = .nx [b0, b1, b2, b3, c4, c5, b6] := by
    intro xs
    induction xs with
    | nil => intro ys b0 b1 b2 b3 b4 b5 b6 _; exact ⟨b4, b5, rfl⟩
    | cons x xs ih =>
      intro ys b0 b1 b2 b3 b4 b5 b6 hm
      cases ys with
      | nil => exact ⟨b4, b5, rfl⟩
      | cons y ys =>
        obtain ⟨c4, c5, e⟩ := ih ys b0 b1 b2 b3 (.shr (sgP x)) (.shr (sgP y)) b6 hm.2
        refine ⟨c4, c5, ?_⟩
        show forL _ (.tup [sgP x, sgP y] :: zipL (xs.map sgP) (ys.map sgP)) _ = _
        rw [forL_cons]
        have st : stepF (callN TT κ cx wf (n + 8)) κ cx wf (.tt (.cons (.tn 4) (.cons (.tn 5) .nil))) Zd.law_5_b1 (.tup [sgP x, sgP y]) [b0, b1, b2, b3, b4, b5, b6] = .nx [b0, b1, b2, b3, .shr (sgP x), .shr (sgP y), b6] := by
          unfold stepF Zd.law_5_b1
          simp [ix_st, ix_en, hm.1, ne1]
        rw [st, next_nx, e]
  obtain ⟨ρ', e1, b3, b4, b5, _, rfl⟩ := forL_inv (g := stepF (callN TT κ cx wf (n + 8)) κ cx wf (.tn 3) Zd.law_5_b2) (em := fun c => PV.lst ((coSegs c).map sgP)) (I := fun cs ρ => ∃ b3 b4 b5, (∀ c ∈ cs, c ∈ s) ∧ ρ = [.shr (.scr ns), .shr (shP s), .shr (.lst (s.map fun c => .lst ((coSegs c).map sgP))), b3, b4, b5, .un]) (fun c cs ρ ⟨b3, b4, b5, h1, h2⟩ => by
    subst h2
    have hcs := coSegs_cyc (bd c (h1 c (List.mem_cons_self ..))).1
    have szc : (coSegs c).length ≤ 16777215 := by
      have := coSegs_len c
      have := (bd c (h1 c (List.mem_cons_self ..))).2.1
      omega
    rcases hcs with hcs | ⟨x, xs, hcs, hm⟩
    · refine ⟨_, ?_, .shr (.lst []), b4, b5, fun d hd => h1 d (List.mem_cons_of_mem _ hd), rfl⟩
      have z1 : cutP ([] : List PV) (some 1) none = [] := rfl
      have z2 : cutP ([] : List PV) none (some 1) = [] := rfl
      have z3 : binP .add (.lst []) (.lst []) = .ok (.lst []) := rfl
      have z4 : zipP (.lst []) (.lst []) = .ok (.lst []) := rfl
      unfold stepF Zd.law_5_b2
      simp [hcs, z1, z2, z3, z4]
    · obtain ⟨c4, c5, e⟩ := inner (x :: xs) (xs ++ [x]) (.shr (.scr ns)) (.shr (shP s)) (.shr (.lst (s.map fun c => .lst ((coSegs c).map sgP)))) (.shr (.lst ((x :: xs).map sgP))) b4 b5 .un hm
      refine ⟨_, ?_, .shr (.lst ((x :: xs).map sgP)), c4, c5, fun d hd => h1 d (List.mem_cons_of_mem _ hd), rfl⟩
      have ct : ∀ (x : PV) (xs : List PV), cutP (x :: xs) none (some 1) = [x] := fun x xs => by rw [cut_hi _ (by decide)]; rfl
      have ba : binP .add (.lst (xs.map sgP)) (.lst [sgP x]) = .ok (.lst ((xs ++ [x]).map sgP)) := by
        rw [bin_addL (by rw [hcs] at szc; simp at szc ⊢; omega), List.map_append]
        rfl
      have zp : zipP (.lst ((x :: xs).map sgP)) (.lst ((xs ++ [x]).map sgP)) = .ok (.lst (zipL ((x :: xs).map sgP) ((xs ++ [x]).map sgP))) := rfl
      unfold stepF Zd.law_5_b2
      rw [asg_tn, lf_ok, hcs]
      simp only [List.set_cons_zero, List.set_cons_succ, es_cons, es_for, ev_zip, ev_v, ev_bin, ev_sl, part_nop, part_k, ev_k, rb_ok, intP_int, List.getElem?_cons_zero, List.getElem?_cons_succ, getV_shr, slV_lst, List.map_cons, cut1, ct]
      rw [ba]
      rw [List.map_cons] at zp e
      simp only [rb_ok, zp, lo_lst, lf_ok, e, seq_nx, es_nil]) s [.shr (.scr ns), .shr (shP s), .shr (.lst (s.map fun c => .lst ((coSegs c).map sgP))), .un, .un, .un, .un] ⟨.un, .un, .un, fun c h => h, rfl⟩
  rw [callN_eq Y.h85 rfl]
  unfold Zd.d_law_5
  show fin (evS _ _ _ _ _ [.shr (.scr ns), .un, .un, .un, .un, .un, .un]) = _
  apply seq_step
  · simp [es]; exact rfl
  apply seq_step
  · simp [sg]; exact rfl
  apply seq_step
  · simp [it, cm, ce]; exact rfl
  apply seq_step
  · simp; exact e1
  simp
end
end Zp
end
section
/-! areas -/
namespace Zd
open Z
def d_cross : Z.FnD := ⟨2, 2, (.scons (.sret (.call 29 (.cons (.call 30 (.cons (.ix (.v 0) (.k (.int 0))) (.cons (.ix (.v 1) (.k (.int 1))) .nil))) (.cons (.call 30 (.cons (.ix (.v 0) (.k (.int 1))) (.cons (.ix (.v 1) (.k (.int 0))) .nil))) .nil)))) .snil)⟩
def d_part_area : Z.FnD := ⟨1, 5, (.scons (.sif (.cmp .eq (.bi .len (.cons (.v 0) .nil)) (.k (.int 2))) (.scons (.sret (.call 44 (.cons (.ix (.v 0) (.k (.int 0))) (.cons (.ix (.v 0) (.k (.int 1))) .nil)))) .snil) .snil) (.scons (.sasg (.tt (.cons (.tn 1) (.cons (.tn 2) (.cons (.tn 3) .nil)))) (.v 0)) (.scons (.sset 4 (.call 28 (.cons (.call 30 (.cons (.call 27 (.cons (.k (.int 2)) .nil)) (.cons (.call 28 (.cons (.call 44 (.cons (.v 1) (.cons (.v 2) .nil))) (.cons (.call 44 (.cons (.v 2) (.cons (.v 3) .nil))) .nil))) .nil))) (.cons (.call 44 (.cons (.v 1) (.cons (.v 3) .nil))) .nil)))) (.scons (.sret (.call 31 (.cons (.v 4) (.cons (.call 27 (.cons (.k (.int 3)) .nil)) .nil)))) .snil))))⟩
def contour_area_b1 : Z.C := (.scons (.sset 1 (.call 28 (.cons (.v 1) (.cons (.call 45 (.cons (.v 2) .nil)) .nil)))) .snil)
def d_contour_area : Z.FnD := ⟨1, 3, (.scons (.sset 1 (.call 27 (.cons (.k (.int 0)) .nil))) (.scons (.sfor (.tn 2) (.seq (.v 0)) contour_area_b1) (.scons (.sret (.call 31 (.cons (.v 1) (.cons (.call 27 (.cons (.k (.int 2)) .nil)) .nil)))) .snil)))⟩
def d_areas_of : Z.FnD := ⟨1, 2, (.scons (.sref (.comp [1] (.tn 1) (.seq (.call 42 (.cons (.v 0) .nil))) (.k (.bl true)) (.call 46 (.cons (.v 1) .nil)))) .snil)⟩
def d_areas : Z.FnD := ⟨1, 1, (.scons (.sexp (.call 4 (.cons (.v 0) .nil))) (.scons (.sret (.call 47 (.cons (.v 0) .nil))) .snil))⟩
def area_b1 : Z.C := (.scons (.sset 1 (.call 28 (.cons (.v 1) (.cons (.v 2) .nil)))) .snil)
def d_area : Z.FnD := ⟨1, 3, (.scons (.sset 1 (.call 27 (.cons (.k (.int 0)) .nil))) (.scons (.sfor (.tn 2) (.seq (.call 48 (.cons (.v 0) .nil))) area_b1) (.scons (.sret (.v 1)) .snil)))⟩
end Zd
namespace Zp
open Z
/-- a fraction of so many parts -/
def Fr (d M : Nat) (q : Rat) : Prop := ∃ i : Int, q = (i : Rat) / (d : Rat) ∧ i.natAbs ≤ M
theorem Fr.sz {d M k : Nat} {q : Rat} (h : Fr d M q) (h0 : 0 < d) (hd : d < 2 ^ k) (hM : M < 2 ^ k) : Sz k q := by
  obtain ⟨i, e, hi⟩ := h
  have : q = Rat.divInt i (d : Int) := by rw [Rat.divInt_eq_div, e]; rfl
  rw [this]
  exact divInt_sz (by omega) (by omega) (by omega)
theorem Fr.mono {d M N : Nat} {q : Rat} (h : Fr d M q) (hM : M ≤ N) : Fr d N q := by
  obtain ⟨i, e, hi⟩ := h
  exact ⟨i, e, by omega⟩
theorem natRat_ne {d : Nat} (h : 0 < d) : (d : Rat) ≠ 0 := by
  have : (0 : Rat) < (d : Rat) := by exact_mod_cast h
  grind
theorem Fr.add {d M N : Nat} {x y : Rat} (h : Fr d M x) (h' : Fr d N y) : Fr d (M + N) (x + y) := by
  obtain ⟨i, e, hi⟩ := h
  obtain ⟨j, f, hj⟩ := h'
  refine ⟨i + j, ?_, by omega⟩
  rw [e, f]
  push_cast
  grind
theorem Fr.sub {d M N : Nat} {x y : Rat} (h : Fr d M x) (h' : Fr d N y) : Fr d (M + N) (x - y) := by
  obtain ⟨i, e, hi⟩ := h
  obtain ⟨j, f, hj⟩ := h'
  refine ⟨i - j, ?_, by omega⟩
  rw [e, f]
  push_cast
  grind
theorem Fr.mul {d c M N : Nat} {x y : Rat} (h : Fr d M x) (h' : Fr c N y) (hd : 0 < d) (hc : 0 < c) : Fr (d * c) (M * N) (x * y) := by
  obtain ⟨i, e, hi⟩ := h
  obtain ⟨j, f, hj⟩ := h'
  refine ⟨i * j, ?_, by rw [Int.natAbs_mul]; exact Nat.mul_le_mul hi hj⟩
  have h1 := natRat_ne hd
  have h2 := natRat_ne hc
  rw [e, f]
  push_cast
  grind
theorem Fr.up {d M : Nat} {x : Rat} (h : Fr d M x) (c : Nat) (hd : 0 < d) (hc : 0 < c) : Fr (d * c) (M * c) x := by
  obtain ⟨i, e, hi⟩ := h
  refine ⟨i * c, ?_, by rw [Int.natAbs_mul, Int.natAbs_natCast]; exact Nat.mul_le_mul_right _ hi⟩
  have h1 := natRat_ne hd
  have h2 := natRat_ne hc
  rw [e]
  push_cast
  grind
theorem Fr.div {d M : Nat} {x : Rat} (h : Fr d M x) (c : Nat) (hd : 0 < d) (hc : 0 < c) : Fr (d * c) M (x / (c : Rat)) := by
  obtain ⟨i, e, hi⟩ := h
  refine ⟨i, ?_, hi⟩
  have h1 := natRat_ne hd
  have h2 := natRat_ne hc
  rw [e]
  push_cast
  grind
theorem Fr.int (i : Int) : Fr 1 i.natAbs (i : Rat) := ⟨i, by grind, Nat.le_refl _⟩
theorem Fr.nat (c : Nat) : Fr 1 c (c : Rat) := ⟨(c : Int), by push_cast; grind, by omega⟩
/-! places of segments -/
def AllS (P : Pq → Prop) : Seg → Prop
  | .ln a b => P a ∧ P b
  | .bd a o b => P a ∧ P o ∧ P b
theorem segs_all {P : Pq → Prop} : ∀ (m : Nat) (l : List Pl), l.length ≤ m → (∀ p ∈ l, P p.1) → ∀ s ∈ segs l, AllS P s
  | _, [], _, _, s, hs => by simp [segs] at hs
  | _, [_], _, _, s, hs => by simp [segs] at hs
  | 0, _ :: _ :: _, h, _, _, _ => by simp at h
  | m + 1, a :: b :: r, h, hp, s, hs => by
    rw [List.length_cons] at h
    have pa := hp a (by simp)
    have pb := hp b (by simp)
    cases hb : b.2
    · cases r with
      | nil => unfold segs at hs; rw [hb] at hs; cases hs
      | cons c r =>
        rw [segs_off hb] at hs
        rcases List.mem_cons.mp hs with rfl | hs
        · exact ⟨pa, pb, hp c (by simp)⟩
        · exact segs_all m (c :: r) (by simp at h ⊢; omega) (fun p q => hp p (List.mem_cons_of_mem _ (List.mem_cons_of_mem _ q))) s hs
    · rw [segs_on hb] at hs
      rcases List.mem_cons.mp hs with rfl | hs
      · exact ⟨pa, pb⟩
      · exact segs_all m (b :: r) (by simp at h ⊢; omega) (fun p q => hp p (List.mem_cons_of_mem _ q)) s hs
theorem wm_all {P Q : Pq → Prop} (hPQ : ∀ a, P a → Q a) (hm : ∀ a b, P a → P b → Q (mid2 a b)) {z : Pl} (hz : P z.1) : ∀ l : List Pl, (∀ p ∈ l, P p.1) → ∀ p ∈ wm z l, Q p.1
  | [], _, p, hp => by simp [wm] at hp
  | a :: l, h, p, hp => by
    have pa := h a (by simp)
    have ph : P (l.headD z).1 := by
      cases l with
      | nil => exact hz
      | cons b l => exact h b (by simp)
    have hp : p ∈ blk a (l.headD z) ++ wm z l := hp
    rcases List.mem_append.mp hp with hp | hp
    · unfold blk at hp
      split at hp
      · rw [List.mem_singleton] at hp; subst hp; exact hPQ _ pa
      · rcases List.mem_cons.mp hp with rfl | hp
        · exact hPQ _ pa
        · rw [List.mem_singleton] at hp; subst hp; exact hm _ _ pa ph
    · exact wm_all hPQ hm hz l (fun q hq => h q (List.mem_cons_of_mem _ hq)) p hp
theorem coSegs_all {P Q : Pq → Prop} (hPQ : ∀ a, P a → Q a) (hm : ∀ a b, P a → P b → Q (mid2 a b)) {c : List Pt} (h : ∀ p ∈ c, P ((p.1 : Rat), (p.2.1 : Rat))) : ∀ s ∈ coSegs c, AllS Q s := by
  unfold coSegs segsOf
  apply segs_all _ _ (Nat.le_refl _)
  intro p hp
  have hp : p ∈ withMid (plOf c) := by
    unfold rot at hp
    rcases List.mem_append.mp hp with hp | hp
    · exact List.mem_of_mem_drop hp
    · exact List.mem_of_mem_take hp
  cases c with
  | nil => cases hp
  | cons a r =>
    refine wm_all hPQ hm (z := (((a.1 : Rat), (a.2.1 : Rat)), a.2.2 == 1)) (h a (by simp)) (plOf (a :: r)) (fun q hq => ?_) p hp
    obtain ⟨t, ht, rfl⟩ := List.mem_map.mp hq
    exact h t ht
def Hf (p : Pq) : Prop := Fr 2 (2 ^ 22) p.1 ∧ Fr 2 (2 ^ 22) p.2
theorem coSegs_hf {c : List Pt} (h : ∀ p ∈ c, p.1.natAbs < 2 ^ 20 ∧ p.2.1.natAbs < 2 ^ 20) : ∀ s ∈ coSegs c, AllS Hf s := by
  refine coSegs_all (P := fun a => (∃ i : Int, a.1 = (i : Rat) ∧ i.natAbs < 2 ^ 20) ∧ ∃ i : Int, a.2 = (i : Rat) ∧ i.natAbs < 2 ^ 20) (fun a ⟨⟨i, e, hi⟩, j, f, hj⟩ => ⟨⟨2 * i, by rw [e]; push_cast; grind, by omega⟩, ⟨2 * j, by rw [f]; push_cast; grind, by omega⟩⟩) (fun a b ⟨⟨i, e, hi⟩, j, f, hj⟩ ⟨⟨i', e', hi'⟩, j', f', hj'⟩ => ⟨⟨i + i', ?_, by omega⟩, ⟨j + j', ?_, by omega⟩⟩) fun p hp => ⟨⟨p.1, rfl, (h p hp).1⟩, ⟨p.2.1, rfl, (h p hp).2⟩⟩
  · show (a.1 + b.1) / 2 = _; rw [e, e']; push_cast; grind
  · show (a.2 + b.2) / 2 = _; rw [f, f']; push_cast; grind
/-! areas -/
def crR (a b : Pq) : Rat := a.1 * b.2 - a.2 * b.1
def partA : Seg → Rat
  | .ln a b => crR a b
  | .bd a o b => (2 * (crR a o + crR o b) + crR a b) / 3
def sumA (ss : List Seg) : Rat := ss.foldl (fun f s => f + partA s) 0
def coA (ss : List Seg) : Rat := sumA ss / 2
theorem crR_fr {a b : Pq} (ha : Hf a) (hb : Hf b) : Fr 4 (2 ^ 45) (crR a b) := Fr.mono (Fr.sub (Fr.mul ha.1 hb.2 (by decide) (by decide)) (Fr.mul ha.2 hb.1 (by decide) (by decide))) (by decide)
theorem partA_fr {s : Seg} (h : AllS Hf s) : Fr 12 (2 ^ 48) (partA s) := by
  cases s with
  | ln a b => exact Fr.mono (Fr.up (crR_fr h.1 h.2) 3 (by decide) (by decide)) (by decide)
  | bd a o b =>
    have f1 := crR_fr h.1 h.2.1
    have f2 := crR_fr h.2.1 h.2.2
    have f3 := crR_fr h.1 h.2.2
    have f4 := Fr.mul (Fr.nat 2) (Fr.add f1 f2) (by decide) (by decide)
    exact Fr.mono (Fr.div (Fr.add f4 f3) 3 (by decide) (by decide)) (by decide)
theorem Hf.sz {p : Pq} (h : Hf p) : SzP 60 p := ⟨h.1.sz (by decide) (by decide) (by decide), h.2.sz (by decide) (by decide) (by decide)⟩
structure HA (TT : Nat → Option FnD) : Prop where
  h44 : TT 44 = some Zd.d_cross
  h45 : TT 45 = some Zd.d_part_area
  h46 : TT 46 = some Zd.d_contour_area
  h47 : TT 47 = some Zd.d_areas_of
  h48 : TT 48 = some Zd.d_areas
structure HQA (TT : Nat → Option FnD) (wf : Nat) : Prop where
  w : 100000 ≤ wf
  h25 : TT 25 = some Zd.d_common
  h26 : TT 26 = some Zd.d_least
  h27 : TT 27 = some Zd.d_whole
  h28 : TT 28 = some Zd.d_plus
  h29 : TT 29 = some Zd.d_minus
  h30 : TT 30 = some Zd.d_times
  h31 : TT 31 = some Zd.d_quotient
section
variable {TT : Nat → Option FnD} {κ : Cons} {cx : Nat → Nat → Bool} {wf : Nat} {n : Nat} {k : Nat} {x y : Rat} (Q : HQA TT wf)
include Q
theorem HQA.ls : LsAt TT κ cx wf 26 := lsAt Q.h25 Q.h26 Q.w
theorem HQA.wh (a : Int) : callN TT κ cx wf (n + 1) 27 [.int a] = .ok (.shr (frP (a : Rat))) := whole_fr Q.h27 a
theorem HQA.pl (hk : k ≤ 4000) (hx : Sz k x) (hy : Sz k y) : callN TT κ cx wf (n + 3) 28 [frP x, frP y] = .ok (.shr (frP (x + y))) := plT_ok Q.ls Q.h28 hk hx hy
theorem HQA.mi (hk : k ≤ 4000) (hx : Sz k x) (hy : Sz k y) : callN TT κ cx wf (n + 3) 29 [frP x, frP y] = .ok (.shr (frP (x - y))) := miT_ok Q.ls Q.h29 hk hx hy
theorem HQA.ti (hk : k ≤ 4000) (hx : Sz k x) (hy : Sz k y) : callN TT κ cx wf (n + 3) 30 [frP x, frP y] = .ok (.shr (frP (x * y))) := tiT_ok Q.ls Q.h30 hk hx hy
theorem HQA.qu (hk : k ≤ 4000) (hx : Sz k x) (hy : Sz k y) (h0 : y ≠ 0) : callN TT κ cx wf (n + 3) 31 [frP x, frP y] = .ok (.shr (frP (x / y))) := quT_ok Q.ls Q.h31 hk hx hy h0
theorem cross_ok (A : HA TT) {a b : Pq} (ha : SzP 60 a) (hb : SzP 60 b) : callN TT κ cx wf (n + 4) 44 [plP a, plP b] = .ok (.shr (frP (crR a b))) := by
  rw [callN_eq A.h44 rfl]
  unfold Zd.d_cross startS
  have t1 := HQA.ti (κ := κ) (cx := cx) (n := n) Q (by decide) ha.1 hb.2
  have t2 := HQA.ti (κ := κ) (cx := cx) (n := n) Q (by decide) ha.2 hb.1
  have m := HQA.mi (κ := κ) (cx := cx) (n := n) Q (k := 120) (by decide) (Sz.mul ha.1 hb.2) (Sz.mul ha.2 hb.1)
  have e : a.1 * b.2 - a.2 * b.1 = crR a b := rfl
  rw [e] at m
  simp [ixp0, ixp1, t1, t2, m]
theorem part_ok (A : HA TT) {s : Seg} (h : AllS Hf s) : callN TT κ cx wf (n + 5) 45 [sgP s] = .ok (.shr (frP (partA s))) := by
  rw [callN_eq A.h45 rfl]
  unfold Zd.d_part_area startS
  cases s with
  | ln a b =>
    have c := cross_ok (κ := κ) (cx := cx) (n := n) Q A h.1.sz h.2.sz
    have e : crR a b = partA (.ln a b) := rfl
    rw [e] at c
    simp [sg_len_ln, sg_ln0, sg_ln1, c]
  | bd a o b =>
    have c1 := cross_ok (κ := κ) (cx := cx) (n := n) Q A h.1.sz h.2.1.sz
    have c2 := cross_ok (κ := κ) (cx := cx) (n := n) Q A h.2.1.sz h.2.2.sz
    have c3 := cross_ok (κ := κ) (cx := cx) (n := n) Q A h.1.sz h.2.2.sz
    have f1 := crR_fr h.1 h.2.1
    have f2 := crR_fr h.2.1 h.2.2
    have f3 := crR_fr h.1 h.2.2
    have w2 := HQA.wh (κ := κ) (cx := cx) (n := n + 3) Q 2
    have w3 := HQA.wh (κ := κ) (cx := cx) (n := n + 3) Q 3
    have p1 := HQA.pl (κ := κ) (cx := cx) (n := n + 1) Q (k := 60) (by decide) (f1.sz (by decide) (by decide) (by decide)) (f2.sz (by decide) (by decide) (by decide))
    have t1 := HQA.ti (κ := κ) (cx := cx) (n := n + 1) Q (k := 60) (by decide) (Sz.int (i := 2) (by decide) (by decide)) ((Fr.add f1 f2).sz (by decide) (by decide) (by decide))
    have f4 : Fr 4 (2 ^ 47) (((2 : Int) : Rat) * (crR a o + crR o b)) := Fr.mono (Fr.mul (Fr.int 2) (Fr.add f1 f2) (by decide) (by decide)) (by decide)
    have p2 := HQA.pl (κ := κ) (cx := cx) (n := n + 1) Q (k := 60) (by decide) (f4.sz (by decide) (by decide) (by decide)) (f3.sz (by decide) (by decide) (by decide))
    have q := HQA.qu (κ := κ) (cx := cx) (n := n + 1) Q (k := 60) (by decide) ((Fr.add f4 f3).sz (by decide) (by decide) (by decide)) (Sz.int (i := 3) (by decide) (by decide)) (by decide)
    have e : (((2 : Int) : Rat) * (crR a o + crR o b) + crR a b) / ((3 : Int) : Rat) = partA (.bd a o b) := rfl
    rw [e] at q
    have as : ∀ ρ, asgP (.tt (.cons (.tn 1) (.cons (.tn 2) (.cons (.tn 3) .nil)))) (sgP (.bd a o b)) ρ = asgP (.tt (.cons (.tn 1) (.cons (.tn 2) (.cons (.tn 3) .nil)))) (.tup [plP a, plP o, plP b]) ρ := fun _ => rfl
    generalize ((2 : Int) : Rat) = two at *
    generalize ((3 : Int) : Rat) = three at *
    simp [sg_len_bd, as, c1, c2, c3, w2, w3, p1, t1, p2, q]
theorem contour_area_ok (A : HA TT) {ss : List Seg} (h : ∀ s ∈ ss, AllS Hf s) (hl : ss.length ≤ 2000) : callN TT κ cx wf (n + 6) 46 [.lst (ss.map sgP)] = .ok (.shr (frP (coA ss))) := by
  rw [callN_eq A.h46 rfl]
  unfold Zd.d_contour_area
  show fin (evS (callN TT κ cx wf (n + 5)) κ cx wf _ [.shr (.lst (ss.map sgP)), .un, .un]) = _
  have w0 := HQA.wh (κ := κ) (cx := cx) (n := n + 4) Q 0
  have w2 := HQA.wh (κ := κ) (cx := cx) (n := n + 4) Q 2
  have key : ∀ (r : List Seg) (f : Rat) (m : Nat) (x2 : Slot), (∀ s ∈ r, AllS Hf s) → Fr 12 (m * 2 ^ 48) f → m + r.length ≤ 2000 → Fr 12 ((m + r.length) * 2 ^ 48) (r.foldl (fun f s => f + partA s) f) ∧ ∃ y2, forL (stepF (callN TT κ cx wf (n + 5)) κ cx wf (.tn 2) Zd.contour_area_b1) (r.map sgP) [.shr (.lst (ss.map sgP)), .shr (frP f), x2] = .nx [.shr (.lst (ss.map sgP)), .shr (frP (r.foldl (fun f s => f + partA s) f)), y2] := by
    intro r
    induction r with
    | nil => intro f m x2 _ hf _; exact ⟨hf, x2, rfl⟩
    | cons s r ih =>
      intro f m x2 hr hf hm
      rw [List.length_cons] at hm
      have hs := hr s (List.mem_cons_self ..)
      have pf := partA_fr hs
      have f2 : Fr 12 ((m + 1) * 2 ^ 48) (f + partA s) := Fr.mono (Fr.add hf pf) (by omega)
      obtain ⟨g1, y2, e⟩ := ih (f + partA s) (m + 1) (.shr (sgP s)) (fun t ht => hr t (List.mem_cons_of_mem _ ht)) f2 (by omega)
      refine ⟨?_, y2, ?_⟩
      · rw [List.length_cons, List.foldl_cons]
        have : m + (r.length + 1) = m + 1 + r.length := by omega
        rw [this]
        exact g1
      · have pa := part_ok (κ := κ) (cx := cx) (n := n) Q A hs
        have hb : m * 2 ^ 48 < 2 ^ 60 := by omega
        have pl := HQA.pl (κ := κ) (cx := cx) (n := n + 2) Q (k := 60) (by decide) (hf.sz (by decide) (by decide) hb) (pf.sz (by decide) (by decide) (by decide))
        have st : stepF (callN TT κ cx wf (n + 5)) κ cx wf (.tn 2) Zd.contour_area_b1 (sgP s) [.shr (.lst (ss.map sgP)), .shr (frP f), x2] = .nx [.shr (.lst (ss.map sgP)), .shr (frP (f + partA s)), .shr (sgP s)] := by
          unfold stepF Zd.contour_area_b1
          simp [pa, pl]
        rw [List.map_cons, forL_cons, st, next_nx, e]
        rfl
  obtain ⟨g1, y2, e⟩ := key ss 0 0 .un h ⟨0, by grind, by decide⟩ (by omega)
  have z : ((0 : Int) : Rat) = 0 := rfl
  rw [z] at w0
  have hb : (0 + ss.length) * 2 ^ 48 < 2 ^ 60 := by omega
  have q := HQA.qu (κ := κ) (cx := cx) (n := n + 2) Q (k := 60) (by decide) (g1.sz (by decide) (by decide) hb) (Sz.int (i := 2) (by decide) (by decide)) (by decide)
  have e2 : (ss.foldl (fun f s => f + partA s) 0) / ((2 : Int) : Rat) = coA ss := rfl
  rw [e2] at q
  refine seq_step _ _ (ρ' := [.shr (.lst (ss.map sgP)), .shr (frP 0), .un]) (by simp [w0]) ?_
  refine seq_step _ _ (ρ' := [.shr (.lst (ss.map sgP)), .shr (frP (ss.foldl (fun f s => f + partA s) 0)), y2]) (by simp [e]) ?_
  generalize ((2 : Int) : Rat) = two at *
  simp [w2, q]
theorem areas_of_ok (A : HA TT) (G : HG TT) (h42 : TT 42 = some Zd.d_all_segments) {s : List (List Pt)} (hs : ∀ c ∈ s, c ≠ [] ∧ c.length ≤ 400 ∧ ∀ p ∈ c, p.1.natAbs < 2 ^ 20 ∧ p.2.1.natAbs < 2 ^ 20) (hall : callN TT κ cx wf (n + 6) 42 [shP s] = .ok (.own (s.map fun c => .lst ((coSegs c).map sgP)))) : callN TT κ cx wf (n + 7) 47 [shP s] = .ok (.own (s.map fun c => frP (coA (coSegs c)))) := by
  rw [callN_eq A.h47 rfl]
  unfold Zd.d_areas_of startS
  have c1 : compL (stepC (callN TT κ cx wf (n + 6)) κ [1] (.tn 1) (.k (.bl true)) (.call 46 (.cons (.v 1) .nil)) [.shr (shP s), .un]) (s.map fun c => .lst ((coSegs c).map sgP)) = .ok (s.map fun c => frP (coA (coSegs c))) := by
    refine compL_of fun c hc => ?_
    obtain ⟨h0, hl, hp⟩ := hs c hc
    have a := contour_area_ok (κ := κ) (cx := cx) (n := n) Q A (coSegs_hf hp) (by have := coSegs_len c; omega)
    simp [stepC, a]
  simp [hall, c1]
theorem areas_ok (A : HA TT) (G : HG TT) (h42 : TT 42 = some Zd.d_all_segments) {κ : Cons} (T : HS TT κ) {s : List (List Pt)} (hk : okSh s = true) (hs : ∀ c ∈ s, c ≠ [] ∧ c.length ≤ 400 ∧ ∀ p ∈ c, p.1.natAbs < 2 ^ 20 ∧ p.2.1.natAbs < 2 ^ 20) (hall : callN TT κ cx wf (n + 6) 42 [shP s] = .ok (.own (s.map fun c => .lst ((coSegs c).map sgP)))) : callN TT κ cx wf (n + 8) 48 [shP s] = .ok (.shr (.lst (s.map fun c => frP (coA (coSegs c))))) := by
  rw [callN_eq A.h48 rfl]
  unfold Zd.d_areas startS
  have a1 := look_ok (cx := cx) (wf := wf) (n := n + 2) T hk
  have a2 := areas_of_ok (κ := κ) (cx := cx) (n := n) Q A G h42 hs hall
  simp [a1, a2]
theorem coA_fr {ss : List Seg} (h : ∀ s ∈ ss, AllS Hf s) (hl : ss.length ≤ 2000) : Fr 24 (2 ^ 59) (coA ss) := by
  have key : ∀ (r : List Seg) (f : Rat) (m : Nat), (∀ s ∈ r, AllS Hf s) → Fr 12 (m * 2 ^ 48) f → Fr 12 ((m + r.length) * 2 ^ 48) (r.foldl (fun f s => f + partA s) f) := by
    intro r
    induction r with
    | nil => intro f m _ hf; exact hf
    | cons s r ih =>
      intro f m hr hf
      have f2 : Fr 12 ((m + 1) * 2 ^ 48) (f + partA s) := Fr.mono (Fr.add hf (partA_fr (hr s (List.mem_cons_self ..)))) (by omega)
      have g := ih (f + partA s) (m + 1) (fun t ht => hr t (List.mem_cons_of_mem _ ht)) f2
      rw [List.length_cons, List.foldl_cons]
      have : m + (r.length + 1) = m + 1 + r.length := by omega
      rw [this]
      exact g
  have g := key ss 0 0 h ⟨0, by grind, by decide⟩
  exact Fr.mono (Fr.div g 2 (by decide) (by decide)) (by omega)
theorem area_ok (h49 : TT 49 = some Zd.d_area) {qs : List Rat} (hq : ∀ q ∈ qs, Fr 24 (2 ^ 59) q) (hl : qs.length ≤ 400) {p : PV} {m : Nat} (hm : m = n + 4) (ha : callN TT κ cx wf m 48 [p] = .ok (.shr (.lst (qs.map frP)))) : callN TT κ cx wf (m + 1) 49 [p] = .ok (.shr (frP (qs.foldl (· + ·) 0))) := by
  subst hm
  rw [callN_eq h49 rfl]
  unfold Zd.d_area
  show fin (evS (callN TT κ cx wf (n + 4)) κ cx wf _ [.shr p, .un, .un]) = _
  have w0 := HQA.wh (κ := κ) (cx := cx) (n := n + 3) Q 0
  have z : ((0 : Int) : Rat) = 0 := rfl
  rw [z] at w0
  have key : ∀ (r : List Rat) (f : Rat) (m : Nat) (x2 : Slot), (∀ s ∈ r, Fr 24 (2 ^ 59) s) → Fr 24 (m * 2 ^ 59) f → m + r.length ≤ 400 → ∃ y2, forL (stepF (callN TT κ cx wf (n + 4)) κ cx wf (.tn 2) Zd.area_b1) (r.map frP) [.shr p, .shr (frP f), x2] = .nx [.shr p, .shr (frP (r.foldl (· + ·) f)), y2] := by
    intro r
    induction r with
    | nil => intro f m x2 _ hf _; exact ⟨x2, rfl⟩
    | cons s r ih =>
      intro f m x2 hr hf hm
      rw [List.length_cons] at hm
      have hs := hr s (List.mem_cons_self ..)
      obtain ⟨y2, e⟩ := ih (f + s) (m + 1) (.shr (frP s)) (fun t ht => hr t (List.mem_cons_of_mem _ ht)) (Fr.mono (Fr.add hf hs) (by omega)) (by omega)
      refine ⟨y2, ?_⟩
      have hb : m * 2 ^ 59 < 2 ^ 70 := by omega
      have pl := HQA.pl (κ := κ) (cx := cx) (n := n + 1) Q (k := 70) (by decide) (hf.sz (by decide) (by decide) hb) (hs.sz (by decide) (by decide) (by decide))
      have st : stepF (callN TT κ cx wf (n + 4)) κ cx wf (.tn 2) Zd.area_b1 (frP s) [.shr p, .shr (frP f), x2] = .nx [.shr p, .shr (frP (f + s)), .shr (frP s)] := by
        unfold stepF Zd.area_b1
        simp [pl]
      rw [List.map_cons, forL_cons, st, next_nx, e]
      rfl
  obtain ⟨y2, e⟩ := key qs 0 0 .un hq ⟨0, by grind, by decide⟩ (by omega)
  refine seq_step _ _ (ρ' := [.shr p, .shr (frP 0), .un]) (by simp [w0]) ?_
  refine seq_step _ _ (ρ' := [.shr p, .shr (frP (qs.foldl (· + ·) 0)), y2]) (by simp [ha, e]) ?_
  simp
end
end Zp
end
section
/-! the law's own areas -/
namespace Zd
open Z
def d_law_cross : Z.FnD := ⟨2, 4, (.scons (.sset 2 (.call 88 (.cons (.ix (.v 0) (.k (.int 0))) (.cons (.ix (.v 1) (.k (.int 1))) .nil)))) (.scons (.sset 3 (.call 88 (.cons (.ix (.v 0) (.k (.int 1))) (.cons (.ix (.v 1) (.k (.int 0))) .nil)))) (.scons (.sret (.call 87 (.cons (.v 2) (.cons (.tup (.cons (.neg (.ix (.v 3) (.k (.int 0)))) (.cons (.ix (.v 3) (.k (.int 1))) .nil))) .nil)))) .snil)))⟩
def law_area_b1 : Z.C := (.scons (.sif (.cmp .eq (.bi .len (.cons (.v 2) .nil)) (.k (.int 2))) (.scons (.sset 1 (.call 87 (.cons (.v 1) (.cons (.call 88 (.cons (.tup (.cons (.k (.int 3)) (.cons (.k (.int 1)) .nil))) (.cons (.call 89 (.cons (.ix (.v 2) (.k (.int 0))) (.cons (.ix (.v 2) (.k (.int 1))) .nil))) .nil))) .nil)))) .snil) (.scons (.sasg (.tt (.cons (.tn 3) (.cons (.tn 4) (.cons (.tn 5) .nil)))) (.v 2)) (.scons (.sset 6 (.call 87 (.cons (.call 89 (.cons (.v 3) (.cons (.v 4) .nil))) (.cons (.call 89 (.cons (.v 4) (.cons (.v 5) .nil))) .nil)))) (.scons (.sset 1 (.call 87 (.cons (.v 1) (.cons (.call 87 (.cons (.call 88 (.cons (.tup (.cons (.k (.int 2)) (.cons (.k (.int 1)) .nil))) (.cons (.v 6) .nil))) (.cons (.call 89 (.cons (.v 3) (.cons (.v 5) .nil))) .nil))) .nil)))) .snil)))) .snil)
def d_law_area : Z.FnD := ⟨1, 7, (.scons (.sset 1 (.tup (.cons (.k (.int 0)) (.cons (.k (.int 1)) .nil)))) (.scons (.sfor (.tn 2) (.seq (.call 84 (.cons (.v 0) .nil))) law_area_b1) (.scons (.sret (.call 88 (.cons (.v 1) (.cons (.tup (.cons (.k (.int 1)) (.cons (.k (.int 6)) .nil))) .nil)))) .snil)))⟩
end Zd
namespace Zp
open Z
def partL : Seg → Rat
  | .ln a b => 3 * crR a b
  | .bd a o b => 2 * (crR a o + crR o b) + crR a b
theorem partL_eq (s : Seg) : partL s = 3 * partA s := by
  cases s with
  | ln a b => rfl
  | bd a o b =>
    show 2 * (crR a o + crR o b) + crR a b = 3 * ((2 * (crR a o + crR o b) + crR a b) / 3)
    generalize 2 * (crR a o + crR o b) + crR a b = q
    grind
theorem partL_fr {s : Seg} (h : AllS Hf s) : Fr 4 (2 ^ 48) (partL s) := by
  cases s with
  | ln a b => exact Fr.mono (Fr.mul (Fr.nat 3) (crR_fr h.1 h.2) (by decide) (by decide)) (by decide)
  | bd a o b => exact Fr.mono (Fr.add (Fr.mul (Fr.nat 2) (Fr.add (crR_fr h.1 h.2.1) (crR_fr h.2.1 h.2.2)) (by decide) (by decide)) (crR_fr h.1 h.2.2)) (by decide)
theorem sumL_eq (ss : List Seg) : (ss.foldl (fun f s => f + partL s) 0) * Rat.divInt 1 6 = coA ss := by
  have key : ∀ (r : List Seg) (f g : Rat), f = 3 * g → r.foldl (fun f s => f + partL s) f = 3 * r.foldl (fun f s => f + partA s) g := by
    intro r
    induction r with
    | nil => intro f g h; exact h
    | cons s r ih =>
      intro f g h
      exact ih _ _ (by show f + partL s = 3 * (g + partA s); rw [partL_eq, h]; grind)
  rw [key ss 0 0 (by grind)]
  show 3 * sumA ss * Rat.divInt 1 6 = sumA ss / 2
  generalize sumA ss = q
  rw [Rat.divInt_eq_div]
  push_cast
  grind
structure HLA (TT : Nat → Option FnD) : Prop where
  h87 : TT 87 = some (plT 83)
  h88 : TT 88 = some (tiT 83)
  h89 : TT 89 = some Zd.d_law_cross
  h90 : TT 90 = some Zd.d_law_area
section
variable {TT : Nat → Option FnD} {κ : Cons} {cx : Nat → Nat → Bool} {wf : Nat} {n : Nat} (S : HLS TT) (L : HLA TT) (w : 100000 ≤ wf)
include S L w
theorem lcross_ok {a b : Pq} (ha : SzP 60 a) (hb : SzP 60 b) : callN TT κ cx wf (n + 4) 89 [plP a, plP b] = .ok (.shr (frP (crR a b))) := by
  have LS : LsAt TT κ cx wf 83 := law_least_ls S.h82 S.h83 w
  rw [callN_eq L.h89 rfl]
  unfold Zd.d_law_cross startS
  have t1 := tiT_ok (TT := TT) (κ := κ) (cx := cx) (wf := wf) (n := n) LS L.h88 (by decide) ha.1 hb.2
  have t2 := tiT_ok (TT := TT) (κ := κ) (cx := cx) (wf := wf) (n := n) LS L.h88 (by decide) ha.2 hb.1
  have m := plT_ok (TT := TT) (κ := κ) (cx := cx) (wf := wf) (n := n) LS L.h87 (k := 120) (by decide) (Sz.mul ha.1 hb.2) (Sz.neg (Sz.mul ha.2 hb.1))
  have e : a.1 * b.2 + -(a.2 * b.1) = crR a b := by unfold crR; grind
  have e2 : frP (-(a.2 * b.1)) = .tup [.int (-(a.2 * b.1).num), .int ((a.2 * b.1).den : Int)] := rfl
  rw [e, e2] at m
  generalize a.2 * b.1 = t at *
  generalize a.1 * b.2 = u at *
  simp [ixp0, ixp1, t1, t2, ixf0, ixf1, m]
theorem law_area_ok {c : List Pt} (hc : ∀ p ∈ c, p.1.natAbs < 2 ^ 20 ∧ p.2.1.natAbs < 2 ^ 20 ∧ (p.2.2 = 0 ∨ p.2.2 = 1)) (h0 : c ≠ []) (hl : c.length ≤ 400) : callN TT κ cx wf (n + 5) 90 [coP c] = .ok (.shr (frP (coA (coSegs c)))) := by
  have LS : LsAt TT κ cx wf 83 := law_least_ls S.h82 S.h83 w
  have sg := law_segments_ok (κ := κ) (cx := cx) (n := n + 1) w S hc h0 hl
  have hs := coSegs_hf (c := c) fun p hp => ⟨(hc p hp).1, (hc p hp).2.1⟩
  have hn : (coSegs c).length ≤ 2000 := by have := coSegs_len c; omega
  rw [← sumL_eq]
  rw [callN_eq L.h90 rfl]
  unfold Zd.d_law_area
  show fin (evS (callN TT κ cx wf (n + 4)) κ cx wf _ [.shr (coP c), .un, .un, .un, .un, .un, .un]) = _
  generalize coSegs c = ss at sg hs hn
  have key : ∀ (r : List Seg) (f : Rat) (m : Nat) (x2 x3 x4 x5 x6 : Slot), (∀ s ∈ r, AllS Hf s) → Fr 4 (m * 2 ^ 48) f → m + r.length ≤ 2000 → Fr 4 ((m + r.length) * 2 ^ 48) (r.foldl (fun f s => f + partL s) f) ∧ ∃ y2 y3 y4 y5 y6, forL (stepF (callN TT κ cx wf (n + 4)) κ cx wf (.tn 2) Zd.law_area_b1) (r.map sgP) [.shr (coP c), .shr (frP f), x2, x3, x4, x5, x6] = .nx [.shr (coP c), .shr (frP (r.foldl (fun f s => f + partL s) f)), y2, y3, y4, y5, y6] := by
    intro r
    induction r with
    | nil => intro f m x2 x3 x4 x5 x6 _ hf _; exact ⟨hf, x2, x3, x4, x5, x6, rfl⟩
    | cons s r ih =>
      intro f m x2 x3 x4 x5 x6 hr hf hm
      rw [List.length_cons] at hm
      have hs := hr s (List.mem_cons_self ..)
      have pf := partL_fr hs
      have f2 : Fr 4 ((m + 1) * 2 ^ 48) (f + partL s) := Fr.mono (Fr.add hf pf) (by omega)
      have hb : m * 2 ^ 48 < 2 ^ 60 := by omega
      have pl := plT_ok (TT := TT) (κ := κ) (cx := cx) (wf := wf) (n := n + 1) LS L.h87 (k := 60) (by decide) (hf.sz (by decide) (by decide) hb) (pf.sz (by decide) (by decide) (by decide))
      obtain ⟨z3, z4, z5, z6, st⟩ : ∃ z3 z4 z5 z6, stepF (callN TT κ cx wf (n + 4)) κ cx wf (.tn 2) Zd.law_area_b1 (sgP s) [.shr (coP c), .shr (frP f), x2, x3, x4, x5, x6] = .nx [.shr (coP c), .shr (frP (f + partL s)), .shr (sgP s), z3, z4, z5, z6] := by
        cases s with
        | ln a b =>
          refine ⟨x3, x4, x5, x6, ?_⟩
          have c1 := lcross_ok (κ := κ) (cx := cx) (n := n) S L w hs.1.sz hs.2.sz
          have f1 := crR_fr hs.1 hs.2
          have t1 := tiT_ok (TT := TT) (κ := κ) (cx := cx) (wf := wf) (n := n + 1) LS L.h88 (k := 60) (by decide) (Sz.int (i := 3) (by decide) (by decide)) (f1.sz (by decide) (by decide) (by decide))
          rw [fr_int] at t1
          have e : ((3 : Int) : Rat) * crR a b = partL (.ln a b) := rfl
          rw [e] at t1
          unfold stepF Zd.law_area_b1
          simp [sg_len_ln, sg_ln0, sg_ln1, c1, t1, pl]
        | bd a o b =>
          have c1 := lcross_ok (κ := κ) (cx := cx) (n := n) S L w hs.1.sz hs.2.1.sz
          have c2 := lcross_ok (κ := κ) (cx := cx) (n := n) S L w hs.2.1.sz hs.2.2.sz
          have c3 := lcross_ok (κ := κ) (cx := cx) (n := n) S L w hs.1.sz hs.2.2.sz
          have f1 := crR_fr hs.1 hs.2.1
          have f2 := crR_fr hs.2.1 hs.2.2
          have f3 := crR_fr hs.1 hs.2.2
          have p1 := plT_ok (TT := TT) (κ := κ) (cx := cx) (wf := wf) (n := n + 1) LS L.h87 (k := 60) (by decide) (f1.sz (by decide) (by decide) (by decide)) (f2.sz (by decide) (by decide) (by decide))
          have t1 := tiT_ok (TT := TT) (κ := κ) (cx := cx) (wf := wf) (n := n + 1) LS L.h88 (k := 60) (by decide) (Sz.int (i := 2) (by decide) (by decide)) ((Fr.add f1 f2).sz (by decide) (by decide) (by decide))
          have f4 : Fr 4 (2 ^ 47) (((2 : Int) : Rat) * (crR a o + crR o b)) := Fr.mono (Fr.mul (Fr.int 2) (Fr.add f1 f2) (by decide) (by decide)) (by decide)
          have p2 := plT_ok (TT := TT) (κ := κ) (cx := cx) (wf := wf) (n := n + 1) LS L.h87 (k := 60) (by decide) (f4.sz (by decide) (by decide) (by decide)) (f3.sz (by decide) (by decide) (by decide))
          have e : ((2 : Int) : Rat) * (crR a o + crR o b) + crR a b = partL (.bd a o b) := rfl
          rw [e] at p2
          rw [fr_int] at t1
          have as : ∀ ρ, asgP (.tt (.cons (.tn 3) (.cons (.tn 4) (.cons (.tn 5) .nil)))) (sgP (.bd a o b)) ρ = asgP (.tt (.cons (.tn 3) (.cons (.tn 4) (.cons (.tn 5) .nil)))) (.tup [plP a, plP o, plP b]) ρ := fun _ => rfl
          refine ⟨.shr (plP a), .shr (plP o), .shr (plP b), .shr (frP (crR a o + crR o b)), ?_⟩
          generalize ((2 : Int) : Rat) * (crR a o + crR o b) = u at *
          unfold stepF Zd.law_area_b1
          simp [sg_len_bd, as, c1, c2, c3, p1, t1, p2, pl]
      obtain ⟨g1, y2, y3, y4, y5, y6, e⟩ := ih (f + partL s) (m + 1) (.shr (sgP s)) z3 z4 z5 z6 (fun t ht => hr t (List.mem_cons_of_mem _ ht)) f2 (by omega)
      refine ⟨?_, y2, y3, y4, y5, y6, ?_⟩
      · rw [List.length_cons, List.foldl_cons]
        have : m + (r.length + 1) = m + 1 + r.length := by omega
        rw [this]
        exact g1
      · rw [List.map_cons, forL_cons, st, next_nx, e]
        rfl
  obtain ⟨g1, y2, y3, y4, y5, y6, e⟩ := key ss 0 0 .un .un .un .un .un hs ⟨0, by grind, by decide⟩ (by omega)
  have hb : (0 + ss.length) * 2 ^ 48 < 2 ^ 60 := by omega
  have q := tiT_ok (TT := TT) (κ := κ) (cx := cx) (wf := wf) (n := n + 1) LS L.h88 (k := 60) (by decide) (g1.sz (by decide) (by decide) hb) (divInt_sz (t := 1) (b := 6) (by decide) (by decide) (by decide))
  have e6 : frP (Rat.divInt 1 6) = .tup [.int 1, .int 6] := rfl
  rw [e6] at q
  refine seq_step _ _ (ρ' := [.shr (coP c), .shr (frP 0), .un, .un, .un, .un, .un]) (by simp; rfl) ?_
  refine seq_step _ _ (ρ' := [.shr (coP c), .shr (frP (ss.foldl (fun f s => f + partL s) 0)), y2, y3, y4, y5, y6]) (by simp [sg, e]) ?_
  simp [q]
end
end Zp
end
section
/-! areas: the law -/
namespace Zd
open Z
def d_ways_round_2 : Z.FnD := ⟨1, 2, (.scons (.sref (.comp [1] (.tn 1) (.seq (.call 48 (.cons (.v 0) .nil))) (.k (.bl true)) (.pick [(1, [108, 101, 102, 116]), (-1, [114, 105, 103, 104, 116]), (0, [102, 108, 97, 116])] (.call 35 (.cons (.v 1) .nil))))) .snil)⟩
def law_14_b1 : Z.C := (.scons (.sset 3 (.call 87 (.cons (.v 3) (.cons (.v 5) .nil)))) (.scons (.sapp 4 (.ife (.cmp .eq (.ix (.v 5) (.k (.int 0))) (.k (.int 0))) (.k (.str [102, 108, 97, 116])) (.ife (.cmp .gt (.ix (.v 5) (.k (.int 0))) (.k (.int 0))) (.k (.str [108, 101, 102, 116])) (.k (.str [114, 105, 103, 104, 116]))))) .snil))
def d_law_14 : Z.FnD := ⟨1, 7, (.scons (.sset 1 (.call 14 (.cons (.v 0) (.cons (.k (.int 2)) .nil)))) (.scons (.sset 2 (.comp [6] (.tn 6) (.seq (.v 1)) (.k (.bl true)) (.call 90 (.cons (.v 6) .nil)))) (.scons (.sif (.cmp .ne (.call 48 (.cons (.v 1) .nil)) (.v 2)) (.scons (.sret (.k (.bl false))) .snil) .snil) (.scons (.sset 3 (.tup (.cons (.k (.int 0)) (.cons (.k (.int 1)) .nil)))) (.scons (.sown 4 (.dsp .nil)) (.scons (.sfor (.tn 5) (.seq (.v 2)) law_14_b1) (.scons (.sret (.an (.cmp .eq (.call 49 (.cons (.v 1) .nil)) (.v 3)) (.cmp .eq (.call 141 (.cons (.v 1) .nil)) (.rd 4)))) .snil)))))))⟩
end Zd
namespace Zp
open Z
def wayS (q : Rat) : List Nat := if q.num = 0 then [102, 108, 97, 116] else if 0 < q.num then [108, 101, 102, 116] else [114, 105, 103, 104, 116]
theorem pick_way (q : Rat) : pickP [(1, [108, 101, 102, 116]), (-1, [114, 105, 103, 104, 116]), (0, [102, 108, 97, 116])] (.int (sgn q)) = .ok (.str (wayS q)) := by
  unfold sgn wayS
  by_cases h1 : 0 < q
  · have h2 : ¬ q < 0 := by grind
    have h3 := (num_pos_iff q).mpr h1
    rw [if_pos h1, if_neg h2, if_neg (by omega), if_pos h3]
    rfl
  · have h3 : ¬ 0 < q.num := fun z => h1 ((num_pos_iff q).mp z)
    by_cases h2 : q < 0
    · have h4 := (num_neg_iff q).mpr h2
      rw [if_neg h1, if_pos h2, if_neg (by omega), if_neg h3]
      rfl
    · have h4 : ¬ q.num < 0 := fun z => h2 ((num_neg_iff q).mp z)
      rw [if_neg h1, if_neg h2, if_pos (by omega)]
      rfl
structure H04 (TT : Nat → Option FnD) (κ : Cons) (wf : Nat) : Prop where
  T : HS TT κ
  L : HLs TT
  Q : HQA TT wf
  G : HG TT
  A : HA TT
  S : HLS TT
  LA : HLA TT
  h35 : TT 35 = some Zd.d_sign_of
  h49 : TT 49 = some Zd.d_area
  h141 : TT 141 = some Zd.d_ways_round_2
  h142 : TT 142 = some Zd.d_law_14
theorem dep_frs (qs : List Rat) : dep (.lst (qs.map frP)) 20 = true := by
  show depL (qs.map frP) 19 = true
  exact depL_map fun _ _ => rfl
theorem dep_strs (qs : List Rat) : dep (.lst (qs.map fun q => PV.str (wayS q))) 20 = true := by
  show depL (qs.map fun q => PV.str (wayS q)) 19 = true
  exact depL_map fun _ _ => rfl
section
variable {TT : Nat → Option FnD} {κ : Cons} {cx : Nat → Nat → Bool} {wf : Nat} {n : Nat} (Y : H04 TT κ wf)
include Y
theorem plain04 (ns : List Int) : callN TT κ cx wf (n + 10) 142 [.scr ns] = .ok (.shr (.bl true)) := by
  obtain ⟨s, hg, es⟩ := lshape_ok (κ := κ) (cx := cx) (wf := wf) (n := n + 6) Y.L (ns := ns) (a := 2) (by decide)
  have hb := Good_bd hg
  have hb2 : ∀ c ∈ s, c ≠ [] ∧ c.length ≤ 400 ∧ ∀ p ∈ c, p.1.natAbs < 2 ^ 20 ∧ p.2.1.natAbs < 2 ^ 20 := fun c hc => ⟨(hb c hc).1, (hb c hc).2.1, fun p hp => ⟨((hb c hc).2.2 p hp).1, ((hb c hc).2.2 p hp).2.1⟩⟩
  have Q0 : HQ0 TT wf := ⟨Y.Q.w, Y.Q.h25, Y.Q.h26, Y.Q.h27, Y.Q.h28, Y.Q.h31⟩
  have hall := all_segments_ok (κ := κ) (cx := cx) (n := n) Q0 Y.G hb2
  have ar := areas_ok (cx := cx) (n := n) Y.Q Y.A Y.G Y.G.h42 Y.T hg.ok hb2 hall
  have hall1 := all_segments_ok (κ := κ) (cx := cx) (n := n + 1) Q0 Y.G hb2
  have ar1 := areas_ok (cx := cx) (n := n + 1) Y.Q Y.A Y.G Y.G.h42 Y.T hg.ok hb2 hall1
  have it : itemsP (shP s) = .ok (.lst (s.map coP)) := rfl
  have fr : ∀ q ∈ s.map (fun c => coA (coSegs c)), Fr 24 (2 ^ 59) q := fun q hq => by
    obtain ⟨c, hc, rfl⟩ := List.mem_map.mp hq
    exact coA_fr Y.Q (coSegs_hf (hb2 c hc).2.2) (by have := coSegs_len c; have := (hb2 c hc).2.1; omega)
  have hlen : (s.map (fun c => coA (coSegs c))).length ≤ 2 := by rw [List.length_map]; exact hg.1
  have la : compL (stepC (callN TT κ cx wf (n + 9)) κ [6] (.tn 6) (.k (.bl true)) (.call 90 (.cons (.v 6) .nil)) [.shr (.scr ns), .shr (shP s), .un, .un, .un, .un, .un]) (s.map coP) = .ok ((s.map (fun c => coA (coSegs c))).map frP) := by
    rw [List.map_map]
    refine compL_of fun c hc => ?_
    have l := law_area_ok (κ := κ) (cx := cx) (n := n + 4) Y.S Y.LA Y.Q.w (hb c hc).2.2 (hb c hc).1 (hb c hc).2.1
    simp [stepC, l]
  have eqs : (s.map fun c => frP (coA (coSegs c))) = (s.map (fun c => coA (coSegs c))).map frP := by rw [List.map_map]; rfl
  rw [eqs] at ar ar1
  generalize s.map (fun c => coA (coSegs c)) = qs at *
  have ag := area_ok (κ := κ) (cx := cx) (n := n + 4) Y.Q Y.h49 fr (by omega) (m := n + 8) rfl ar
  have wr : callN TT κ cx wf (n + 9) 141 [shP s] = .ok (.own (qs.map fun q => PV.str (wayS q))) := by
    rw [callN_eq Y.h141 rfl]
    unfold Zd.d_ways_round_2 startS
    have c1 : compL (stepC (callN TT κ cx wf (n + 8)) κ [1] (.tn 1) (.k (.bl true)) (.pick [(1, [108, 101, 102, 116]), (-1, [114, 105, 103, 104, 116]), (0, [102, 108, 97, 116])] (.call 35 (.cons (.v 1) .nil))) [.shr (shP s), .un]) (qs.map frP) = .ok (qs.map fun q => PV.str (wayS q)) := by
      refine compL_of fun q _ => ?_
      have sg := sign_ok (TT := TT) (κ := κ) (cx := cx) (wf := wf) (n := n + 7) (x := q) Y.h35
      have pw := pick_way q
      simp [stepC, sg, pw]
    simp [ar, c1]
  rw [callN_eq Y.h142 rfl]
  unfold Zd.d_law_14
  show fin (evS (callN TT κ cx wf (n + 9)) κ cx wf _ [.shr (.scr ns), .un, .un, .un, .un, .un, .un]) = _
  refine seq_step _ _ (ρ' := [.shr (.scr ns), .shr (shP s), .un, .un, .un, .un, .un]) (by simp [es]) ?_
  refine seq_step _ _ (ρ' := [.shr (.scr ns), .shr (shP s), .shr (.lst (qs.map frP)), .un, .un, .un, .un]) ?_ ?_
  · simp only [es_set, ev_comp, ev_seq, ev_v, List.getElem?_cons_zero, List.getElem?_cons_succ, getV_shr, rb_ok, it, lo_lst, la, lf_ok, List.set_cons_zero, List.set_cons_succ]
  have ne := cmp_ne_self (dep_frs qs)
  refine seq_step _ _ (ρ' := [.shr (.scr ns), .shr (shP s), .shr (.lst (qs.map frP)), .un, .un, .un, .un]) (by simp [ar1, ne]) ?_
  refine seq_step _ _ (ρ' := [.shr (.scr ns), .shr (shP s), .shr (.lst (qs.map frP)), .shr (frP 0), .un, .un, .un]) (by simp; rfl) ?_
  refine seq_step _ _ (ρ' := [.shr (.scr ns), .shr (shP s), .shr (.lst (qs.map frP)), .shr (frP 0), .own [], .un, .un]) (by simp) ?_
  have LS : LsAt TT κ cx wf 83 := law_least_ls Y.S.h82 Y.S.h83 Y.Q.w
  have key : ∀ (r : List Rat) (f : Rat) (m : Nat) (ws : List (List Nat)) (x5 : Slot), (∀ s ∈ r, Fr 24 (2 ^ 59) s) → Fr 24 (m * 2 ^ 59) f → m + r.length ≤ 400 → ws.length + r.length ≤ 400 → ∃ y5, forL (stepF (callN TT κ cx wf (n + 9)) κ cx wf (.tn 5) Zd.law_14_b1) (r.map frP) [.shr (.scr ns), .shr (shP s), .shr (.lst (qs.map frP)), .shr (frP f), .own (ws.map PV.str), x5, .un] = .nx [.shr (.scr ns), .shr (shP s), .shr (.lst (qs.map frP)), .shr (frP (r.foldl (· + ·) f)), .own ((ws ++ r.map wayS).map PV.str), y5, .un] := by
    intro r
    induction r with
    | nil => intro f m ws x5 _ hf _ _; exact ⟨x5, by simp⟩
    | cons q r ih =>
      intro f m ws x5 hr hf hm hw
      rw [List.length_cons] at hm hw
      have hs := hr q (List.mem_cons_self ..)
      obtain ⟨y5, e⟩ := ih (f + q) (m + 1) (ws ++ [wayS q]) (.shr (frP q)) (fun t ht => hr t (List.mem_cons_of_mem _ ht)) (Fr.mono (Fr.add hf hs) (by omega)) (by omega) (by rw [List.length_append, List.length_singleton]; omega)
      refine ⟨y5, ?_⟩
      have hb : m * 2 ^ 59 < 2 ^ 70 := by omega
      have pl := plT_ok (TT := TT) (κ := κ) (cx := cx) (wf := wf) (n := n + 6) LS Y.LA.h87 (k := 70) (by decide) (hf.sz (by decide) (by decide) hb) (hs.sz (by decide) (by decide) (by decide))
      have ft : fits (ws.length + 1) = true := fits_of (by omega)
      have st : stepF (callN TT κ cx wf (n + 9)) κ cx wf (.tn 5) Zd.law_14_b1 (frP q) [.shr (.scr ns), .shr (shP s), .shr (.lst (qs.map frP)), .shr (frP f), .own (ws.map PV.str), x5, .un] = .nx [.shr (.scr ns), .shr (shP s), .shr (.lst (qs.map frP)), .shr (frP (f + q)), .own ((ws ++ [wayS q]).map PV.str), .shr (frP q), .un] := by
        unfold stepF Zd.law_14_b1 wayS
        by_cases h1 : q.num = 0
        · simp [pl, ixf0, h1, ft]
        · by_cases h2 : 0 < q.num <;> simp [pl, ixf0, h1, h2, ft]
      rw [List.map_cons, forL_cons, st, next_nx, e]
      simp
  obtain ⟨y5, e⟩ := key qs 0 0 [] .un fr ⟨0, by grind, by decide⟩ (by omega) (by simp; omega)
  rw [List.nil_append, List.map_nil, List.map_map] at e
  have ew : (qs.map (PV.str ∘ wayS)) = qs.map fun q => PV.str (wayS q) := rfl
  rw [ew] at e
  refine seq_step _ _ (ρ' := [.shr (.scr ns), .shr (shP s), .shr (.lst (qs.map frP)), .shr (frP (qs.foldl (· + ·) 0)), .own (qs.map fun q => PV.str (wayS q)), y5, .un]) ?_ ?_
  · simp only [es_for, ev_seq, ev_v, List.getElem?_cons_zero, List.getElem?_cons_succ, getV_shr, rb_ok, it_lst, lo_lst, lf_ok, e]
  have q1 : cmpP .eq (frP (qs.foldl (· + ·) 0)) (frP (qs.foldl (· + ·) 0)) = .ok (.bl true) := by rw [eq_fr]; simp
  have q2 := cmp_eq_self (dep_strs qs)
  simp [ag, wr, q1, q2]
end
end Zp
end
section
open PySem PySem.Spec PyProof.Rows L2 Z
namespace Zd
def d_law_plus : Z.FnD := ⟨2, 2, (.scons (.sret (.call 83 (.cons (.bin .add (.bin .mul (.ix (.v 0) (.k (.int 0))) (.ix (.v 1) (.k (.int 1)))) (.bin .mul (.ix (.v 1) (.k (.int 0))) (.ix (.v 0) (.k (.int 1))))) (.cons (.bin .mul (.ix (.v 0) (.k (.int 1))) (.ix (.v 1) (.k (.int 1)))) .nil)))) .snil)⟩
def d_law_times : Z.FnD := ⟨2, 2, (.scons (.sret (.call 83 (.cons (.bin .mul (.ix (.v 0) (.k (.int 0))) (.ix (.v 1) (.k (.int 0)))) (.cons (.bin .mul (.ix (.v 0) (.k (.int 1))) (.ix (.v 1) (.k (.int 1)))) .nil)))) .snil)⟩
end Zd
namespace Zw
abbrev PP : Program := PySem.Challenge.pw_typehall_k04_areas
def top (i : Nat) : Stmt := PP.main.body.getD i (.Pass ⟨0, 0, 0, 0⟩)
def Fs : List (Nat × Str × Z.FnD) := [(0, ("is_within" : Str), Zd.d_is_within),
  (25, ("common" : Str), Zd.d_common),
  (26, ("least" : Str), Zd.d_least),
  (27, ("whole" : Str), Zd.d_whole),
  (28, ("plus" : Str), Zd.d_plus),
  (29, ("minus" : Str), Zd.d_minus),
  (30, ("times" : Str), Zd.d_times),
  (31, ("quotient" : Str), Zd.d_quotient),
  (35, ("sign_of" : Str), Zd.d_sign_of),
  (1, ("is_point" : Str), Zd.d_is_point),
  (2, ("is_contour" : Str), Zd.d_is_contour),
  (3, ("is_shape" : Str), Zd.d_is_shape),
  (4, ("look" : Str), Zd.d_look),
  (39, ("with_middles" : Str), Zd.d_with_middles),
  (40, ("places_of" : Str), Zd.d_places_of),
  (41, ("segments_of" : Str), Zd.d_segments_of),
  (42, ("all_segments" : Str), Zd.d_all_segments),
  (44, ("cross" : Str), Zd.d_cross),
  (45, ("part_area" : Str), Zd.d_part_area),
  (46, ("contour_area" : Str), Zd.d_contour_area),
  (47, ("areas_of" : Str), Zd.d_areas_of),
  (48, ("areas" : Str), Zd.d_areas),
  (49, ("area" : Str), Zd.d_area),
  (141, ("ways_round" : Str), Zd.d_ways_round_2),
  (9, ("_law_cell" : Str), Zd.d_law_cell),
  (11, ("_law_row" : Str), Zd.d_law_row),
  (82, ("_law_common" : Str), Zd.d_law_common),
  (83, ("_law_least" : Str), Zd.d_law_least),
  (87, ("_law_plus" : Str), Zd.d_law_plus),
  (88, ("_law_times" : Str), Zd.d_law_times),
  (13, ("_law_contour" : Str), Zd.d_law_contour),
  (14, ("_law_shape" : Str), Zd.d_law_shape),
  (84, ("_law_segments" : Str), Zd.d_law_segments),
  (89, ("_law_cross" : Str), Zd.d_law_cross),
  (90, ("_law_area" : Str), Zd.d_law_area),
  (142, ("law" : Str), Zd.d_law_14)]
def Cs : List (Nat × Str × PV) := [(0, ("MOST_PLACE" : Str), .int 2000), (1, ("MOST_POINTS" : Str), .int 20), (2, ("MOST_CONTOURS" : Str), .int 8)]
def Xs : List (Nat × Str) := [(0, ("CastError" : Str)), (1, ("BadShape" : Str))]
def cx : Nat → Nat → Bool := fun a b => (([(0, [0]), (1, [1, 0])] : List (Nat × List Nat)).lookup a |>.getD []).contains b
abbrev B : Tb := tbL Fs Cs Xs cx 100000
abbrev more : PySem.W.Frag → Bool := moreB Cs Xs cx
def fa : List He.Fa := [.glo ("is_within" : Str), .glo ("common" : Str), .glo ("least" : Str), .glo ("whole" : Str), .glo ("plus" : Str), .glo ("minus" : Str), .glo ("times" : Str), .glo ("quotient" : Str), .glo ("sign_of" : Str), .glo ("is_point" : Str), .glo ("is_contour" : Str), .glo ("is_shape" : Str), .glo ("look" : Str), .glo ("with_middles" : Str), .glo ("places_of" : Str), .glo ("segments_of" : Str), .glo ("all_segments" : Str), .glo ("cross" : Str), .glo ("part_area" : Str), .glo ("contour_area" : Str), .glo ("areas_of" : Str), .glo ("areas" : Str), .glo ("area" : Str), .glo ("ways_round" : Str), .glo ("_law_cell" : Str), .glo ("_law_row" : Str), .glo ("_law_common" : Str), .glo ("_law_least" : Str), .glo ("_law_plus" : Str), .glo ("_law_times" : Str), .glo ("_law_contour" : Str), .glo ("_law_shape" : Str), .glo ("_law_segments" : Str), .glo ("_law_cross" : Str), .glo ("_law_area" : Str), .glo ("law" : Str)]
abbrev de (x nm : Str) (i : Nat) : He.DefD := ⟨(x, none), nm, nm, defArgs (top i), defBody (top i), defScope (top i), [], []⟩
def fn : List He.DefD := [de ("is_within" : Str) ("is_within" : Str) 1, de ("common" : Str) ("common" : Str) 2, de ("least" : Str) ("least" : Str) 3, de ("whole" : Str) ("whole" : Str) 4, de ("plus" : Str) ("plus" : Str) 5, de ("minus" : Str) ("minus" : Str) 6, de ("times" : Str) ("times" : Str) 7, de ("quotient" : Str) ("quotient" : Str) 8, de ("sign_of" : Str) ("sign_of" : Str) 9, de ("is_point" : Str) ("is_point" : Str) 17, de ("is_contour" : Str) ("is_contour" : Str) 18, de ("is_shape" : Str) ("is_shape" : Str) 19, de ("look" : Str) ("look" : Str) 20, de ("with_middles" : Str) ("with_middles" : Str) 21, de ("places_of" : Str) ("places_of" : Str) 22, de ("segments_of" : Str) ("segments_of" : Str) 23, de ("all_segments" : Str) ("all_segments" : Str) 24, de ("cross" : Str) ("cross" : Str) 26, de ("part_area" : Str) ("part_area" : Str) 27, de ("contour_area" : Str) ("contour_area" : Str) 28, de ("areas_of" : Str) ("areas_of" : Str) 29, de ("areas" : Str) ("areas" : Str) 30, de ("area" : Str) ("area" : Str) 31, de ("ways_round" : Str) ("ways_round" : Str) 32, de ("_law_cell" : Str) ("_law_cell" : Str) 34, de ("_law_row" : Str) ("_law_row" : Str) 35, de ("_law_common" : Str) ("_law_common" : Str) 36, de ("_law_least" : Str) ("_law_least" : Str) 37, de ("_law_plus" : Str) ("_law_plus" : Str) 38, de ("_law_times" : Str) ("_law_times" : Str) 39, de ("_law_contour" : Str) ("_law_contour" : Str) 40, de ("_law_shape" : Str) ("_law_shape" : Str) 41, de ("_law_segments" : Str) ("_law_segments" : Str) 42, de ("_law_cross" : Str) ("_law_cross" : Str) 43, de ("_law_area" : Str) ("_law_area" : Str) 44, de ("law" : Str) ("law" : Str) 45]
abbrev R : PySem.W.OpenRow := PySem.W.OpenLaw.row PySem.Challenge.rw_typehall_k04_areas
abbrev hk : PySem.W.Hook := hookZ 5 fa fn more
def ob (s : PySem.W.SharedT) : Bool × He.AlD := obsZ 5 fa fn more (HandSHeadRun.getT s)
theorem ob_eq (s : PySem.W.SharedT) : ob s = hk.obs s.abs := obsZ_eq (HandSHeadRun.getT_eq s)
def loose0 : List PySem.Str := ["is_within", "common", "least", "whole", "plus", "minus", "times", "quotient", "sign_of", "CastError", "BadShape", "MOST_PLACE", "MOST_POINTS", "MOST_CONTOURS", "is_point", "is_contour", "is_shape", "look", "with_middles", "places_of", "segments_of", "all_segments", "cross", "part_area", "contour_area", "areas_of", "areas", "area", "ways_round", "_law_cell"]
def loose1 : List PySem.Str := ["_law_row", "_law_common", "_law_least", "_law_plus", "_law_times", "_law_contour", "_law_shape", "_law_segments", "_law_cross", "_law_area"]
abbrev loose : List PySem.Str := loose0 ++ loose1
theorem run (w : World) : HandSHeadRun.RunEq R (PySem.W.view R.prog [45]) hk ob 4000 loose w := by
  intro os
  kernel_rfl
section
variable {K : PySem.W.Frag} {mg : Str → Option Value} {h : Heap}
theorem sc0 : FnScope ["thing", "low", "high"] ["thing", "low", "high"] (defScope (top 1)) := ⟨rfl, rfl, rfl, by decide +kernel, rfl, by decide +kernel, by decide +kernel⟩
theorem ck0 : (cks B ["thing", "low", "high"] Zd.d_is_within.body).b (defScope (top 1)) (defBody (top 1)) = true := by decide +kernel
theorem fs0 (X : K.In h) (G : h.Ns mainGlobals mg) (c : He.SaysD fa fn K) : FS B K mg "is_within" Zd.d_is_within := fs_of X G c 0 0 rfl rfl sc0 (fun _ _ _ _ _ _ us hl => match us, hl with | [_, _, _], _ => rfl) rfl rfl ck0
theorem sc1 : FnScope ["one", "other"] ["one", "other"] (defScope (top 2)) := ⟨rfl, rfl, rfl, by decide +kernel, rfl, by decide +kernel, by decide +kernel⟩
theorem ck1 : (cks B ["one", "other"] Zd.d_common.body).b (defScope (top 2)) (defBody (top 2)) = true := by decide +kernel
theorem fs1 (X : K.In h) (G : h.Ns mainGlobals mg) (c : He.SaysD fa fn K) : FS B K mg "common" Zd.d_common := fs_of X G c 1 1 rfl rfl sc1 (fun _ _ _ _ _ _ us hl => match us, hl with | [_, _], _ => rfl) rfl rfl ck1
theorem sc2 : FnScope ["top", "bottom", "part"] ["top", "bottom"] (defScope (top 3)) := ⟨rfl, rfl, rfl, by decide +kernel, rfl, by decide +kernel, by decide +kernel⟩
theorem ck2 : (cks B ["top", "bottom", "part"] Zd.d_least.body).b (defScope (top 3)) (defBody (top 3)) = true := by decide +kernel
theorem fs2 (X : K.In h) (G : h.Ns mainGlobals mg) (c : He.SaysD fa fn K) : FS B K mg "least" Zd.d_least := fs_of X G c 2 2 rfl rfl sc2 (fun _ _ _ _ _ _ us hl => match us, hl with | [_, _], _ => rfl) rfl rfl ck2
theorem sc3 : FnScope ["number"] ["number"] (defScope (top 4)) := ⟨rfl, rfl, rfl, by decide +kernel, rfl, by decide +kernel, by decide +kernel⟩
theorem ck3 : (cks B ["number"] Zd.d_whole.body).b (defScope (top 4)) (defBody (top 4)) = true := by decide +kernel
theorem fs3 (X : K.In h) (G : h.Ns mainGlobals mg) (c : He.SaysD fa fn K) : FS B K mg "whole" Zd.d_whole := fs_of X G c 3 3 rfl rfl sc3 (fun _ _ _ _ _ _ us hl => match us, hl with | [_], _ => rfl) rfl rfl ck3
theorem sc4 : FnScope ["one", "other"] ["one", "other"] (defScope (top 5)) := ⟨rfl, rfl, rfl, by decide +kernel, rfl, by decide +kernel, by decide +kernel⟩
theorem ck4 : (cks B ["one", "other"] Zd.d_plus.body).b (defScope (top 5)) (defBody (top 5)) = true := by decide +kernel
theorem fs4 (X : K.In h) (G : h.Ns mainGlobals mg) (c : He.SaysD fa fn K) : FS B K mg "plus" Zd.d_plus := fs_of X G c 4 4 rfl rfl sc4 (fun _ _ _ _ _ _ us hl => match us, hl with | [_, _], _ => rfl) rfl rfl ck4
theorem sc5 : FnScope ["one", "other"] ["one", "other"] (defScope (top 6)) := ⟨rfl, rfl, rfl, by decide +kernel, rfl, by decide +kernel, by decide +kernel⟩
theorem ck5 : (cks B ["one", "other"] Zd.d_minus.body).b (defScope (top 6)) (defBody (top 6)) = true := by decide +kernel
theorem fs5 (X : K.In h) (G : h.Ns mainGlobals mg) (c : He.SaysD fa fn K) : FS B K mg "minus" Zd.d_minus := fs_of X G c 5 5 rfl rfl sc5 (fun _ _ _ _ _ _ us hl => match us, hl with | [_, _], _ => rfl) rfl rfl ck5
theorem sc6 : FnScope ["one", "other"] ["one", "other"] (defScope (top 7)) := ⟨rfl, rfl, rfl, by decide +kernel, rfl, by decide +kernel, by decide +kernel⟩
theorem ck6 : (cks B ["one", "other"] Zd.d_times.body).b (defScope (top 7)) (defBody (top 7)) = true := by decide +kernel
theorem fs6 (X : K.In h) (G : h.Ns mainGlobals mg) (c : He.SaysD fa fn K) : FS B K mg "times" Zd.d_times := fs_of X G c 6 6 rfl rfl sc6 (fun _ _ _ _ _ _ us hl => match us, hl with | [_, _], _ => rfl) rfl rfl ck6
theorem sc7 : FnScope ["one", "other"] ["one", "other"] (defScope (top 8)) := ⟨rfl, rfl, rfl, by decide +kernel, rfl, by decide +kernel, by decide +kernel⟩
theorem ck7 : (cks B ["one", "other"] Zd.d_quotient.body).b (defScope (top 8)) (defBody (top 8)) = true := by decide +kernel
theorem fs7 (X : K.In h) (G : h.Ns mainGlobals mg) (c : He.SaysD fa fn K) : FS B K mg "quotient" Zd.d_quotient := fs_of X G c 7 7 rfl rfl sc7 (fun _ _ _ _ _ _ us hl => match us, hl with | [_, _], _ => rfl) rfl rfl ck7
theorem sc8 : FnScope ["one"] ["one"] (defScope (top 9)) := ⟨rfl, rfl, rfl, by decide +kernel, rfl, by decide +kernel, by decide +kernel⟩
theorem ck8 : (cks B ["one"] Zd.d_sign_of.body).b (defScope (top 9)) (defBody (top 9)) = true := by decide +kernel
theorem fs8 (X : K.In h) (G : h.Ns mainGlobals mg) (c : He.SaysD fa fn K) : FS B K mg "sign_of" Zd.d_sign_of := fs_of X G c 8 8 rfl rfl sc8 (fun _ _ _ _ _ _ us hl => match us, hl with | [_], _ => rfl) rfl rfl ck8
theorem sc9 : FnScope ["thing"] ["thing"] (defScope (top 17)) := ⟨rfl, rfl, rfl, by decide +kernel, rfl, by decide +kernel, by decide +kernel⟩
theorem ck9 : (cks B ["thing"] Zd.d_is_point.body).b (defScope (top 17)) (defBody (top 17)) = true := by decide +kernel
theorem fs9 (X : K.In h) (G : h.Ns mainGlobals mg) (c : He.SaysD fa fn K) : FS B K mg "is_point" Zd.d_is_point := fs_of X G c 9 9 rfl rfl sc9 (fun _ _ _ _ _ _ us hl => match us, hl with | [_], _ => rfl) rfl rfl ck9
theorem sc10 : FnScope ["thing", "one"] ["thing"] (defScope (top 18)) := ⟨rfl, rfl, rfl, by decide +kernel, rfl, by decide +kernel, by decide +kernel⟩
theorem ck10 : (cks B ["thing", "one"] Zd.d_is_contour.body).b (defScope (top 18)) (defBody (top 18)) = true := by decide +kernel
theorem fs10 (X : K.In h) (G : h.Ns mainGlobals mg) (c : He.SaysD fa fn K) : FS B K mg "is_contour" Zd.d_is_contour := fs_of X G c 10 10 rfl rfl sc10 (fun _ _ _ _ _ _ us hl => match us, hl with | [_], _ => rfl) rfl rfl ck10
theorem sc11 : FnScope ["thing", "one"] ["thing"] (defScope (top 19)) := ⟨rfl, rfl, rfl, by decide +kernel, rfl, by decide +kernel, by decide +kernel⟩
theorem ck11 : (cks B ["thing", "one"] Zd.d_is_shape.body).b (defScope (top 19)) (defBody (top 19)) = true := by decide +kernel
theorem fs11 (X : K.In h) (G : h.Ns mainGlobals mg) (c : He.SaysD fa fn K) : FS B K mg "is_shape" Zd.d_is_shape := fs_of X G c 11 11 rfl rfl sc11 (fun _ _ _ _ _ _ us hl => match us, hl with | [_], _ => rfl) rfl rfl ck11
theorem sc12 : FnScope ["shape"] ["shape"] (defScope (top 20)) := ⟨rfl, rfl, rfl, by decide +kernel, rfl, by decide +kernel, by decide +kernel⟩
theorem ck12 : (cks B ["shape"] Zd.d_look.body).b (defScope (top 20)) (defBody (top 20)) = true := by decide +kernel
theorem fs12 (X : K.In h) (G : h.Ns mainGlobals mg) (c : He.SaysD fa fn K) : FS B K mg "look" Zd.d_look := fs_of X G c 12 12 rfl rfl sc12 (fun _ _ _ _ _ _ us hl => match us, hl with | [_], _ => rfl) rfl rfl ck12
theorem sc13 : FnScope ["row", "found", "at", "place", "on", "then", "other", "middle", "axis"] ["row"] (defScope (top 21)) := ⟨rfl, rfl, rfl, by decide +kernel, rfl, by decide +kernel, by decide +kernel⟩
theorem ck13 : (cks B ["row", "found", "at", "place", "on", "then", "other", "middle", "axis"] Zd.d_with_middles.body).b (defScope (top 21)) (defBody (top 21)) = true := by decide +kernel
theorem fs13 (X : K.In h) (G : h.Ns mainGlobals mg) (c : He.SaysD fa fn K) : FS B K mg "with_middles" Zd.d_with_middles := fs_of X G c 13 13 rfl rfl sc13 (fun _ _ _ _ _ _ us hl => match us, hl with | [_], _ => rfl) rfl rfl ck13
theorem sc14 : FnScope ["contour", "x", "y", "on"] ["contour"] (defScope (top 22)) := ⟨rfl, rfl, rfl, by decide +kernel, rfl, by decide +kernel, by decide +kernel⟩
theorem ck14 : (cks B ["contour", "x", "y", "on"] Zd.d_places_of.body).b (defScope (top 22)) (defBody (top 22)) = true := by decide +kernel
theorem fs14 (X : K.In h) (G : h.Ns mainGlobals mg) (c : He.SaysD fa fn K) : FS B K mg "places_of" Zd.d_places_of := fs_of X G c 14 14 rfl rfl sc14 (fun _ _ _ _ _ _ us hl => match us, hl with | [_], _ => rfl) rfl rfl ck14
theorem sc15 : FnScope ["places", "first", "row", "found", "at", "place", "on"] ["places"] (defScope (top 23)) := ⟨rfl, rfl, rfl, by decide +kernel, rfl, by decide +kernel, by decide +kernel⟩
theorem ck15 : (cks B ["places", "first", "row", "found", "at", "place", "on"] Zd.d_segments_of.body).b (defScope (top 23)) (defBody (top 23)) = true := by decide +kernel
theorem fs15 (X : K.In h) (G : h.Ns mainGlobals mg) (c : He.SaysD fa fn K) : FS B K mg "segments_of" Zd.d_segments_of := fs_of X G c 15 15 rfl rfl sc15 (fun _ _ _ _ _ _ us hl => match us, hl with | [_], _ => rfl) rfl rfl ck15
theorem sc16 : FnScope ["shape", "contour"] ["shape"] (defScope (top 24)) := ⟨rfl, rfl, rfl, by decide +kernel, rfl, by decide +kernel, by decide +kernel⟩
theorem ck16 : (cks B ["shape", "contour"] Zd.d_all_segments.body).b (defScope (top 24)) (defBody (top 24)) = true := by decide +kernel
theorem fs16 (X : K.In h) (G : h.Ns mainGlobals mg) (c : He.SaysD fa fn K) : FS B K mg "all_segments" Zd.d_all_segments := fs_of X G c 16 16 rfl rfl sc16 (fun _ _ _ _ _ _ us hl => match us, hl with | [_], _ => rfl) rfl rfl ck16
theorem sc17 : FnScope ["one", "other"] ["one", "other"] (defScope (top 26)) := ⟨rfl, rfl, rfl, by decide +kernel, rfl, by decide +kernel, by decide +kernel⟩
theorem ck17 : (cks B ["one", "other"] Zd.d_cross.body).b (defScope (top 26)) (defBody (top 26)) = true := by decide +kernel
theorem fs17 (X : K.In h) (G : h.Ns mainGlobals mg) (c : He.SaysD fa fn K) : FS B K mg "cross" Zd.d_cross := fs_of X G c 17 17 rfl rfl sc17 (fun _ _ _ _ _ _ us hl => match us, hl with | [_, _], _ => rfl) rfl rfl ck17
theorem sc18 : FnScope ["segment", "first", "off", "last", "found"] ["segment"] (defScope (top 27)) := ⟨rfl, rfl, rfl, by decide +kernel, rfl, by decide +kernel, by decide +kernel⟩
theorem ck18 : (cks B ["segment", "first", "off", "last", "found"] Zd.d_part_area.body).b (defScope (top 27)) (defBody (top 27)) = true := by decide +kernel
theorem fs18 (X : K.In h) (G : h.Ns mainGlobals mg) (c : He.SaysD fa fn K) : FS B K mg "part_area" Zd.d_part_area := fs_of X G c 18 18 rfl rfl sc18 (fun _ _ _ _ _ _ us hl => match us, hl with | [_], _ => rfl) rfl rfl ck18
theorem sc19 : FnScope ["segments", "found", "segment"] ["segments"] (defScope (top 28)) := ⟨rfl, rfl, rfl, by decide +kernel, rfl, by decide +kernel, by decide +kernel⟩
theorem ck19 : (cks B ["segments", "found", "segment"] Zd.d_contour_area.body).b (defScope (top 28)) (defBody (top 28)) = true := by decide +kernel
theorem fs19 (X : K.In h) (G : h.Ns mainGlobals mg) (c : He.SaysD fa fn K) : FS B K mg "contour_area" Zd.d_contour_area := fs_of X G c 19 19 rfl rfl sc19 (fun _ _ _ _ _ _ us hl => match us, hl with | [_], _ => rfl) rfl rfl ck19
theorem sc20 : FnScope ["shape", "segments"] ["shape"] (defScope (top 29)) := ⟨rfl, rfl, rfl, by decide +kernel, rfl, by decide +kernel, by decide +kernel⟩
theorem ck20 : (cks B ["shape", "segments"] Zd.d_areas_of.body).b (defScope (top 29)) (defBody (top 29)) = true := by decide +kernel
theorem fs20 (X : K.In h) (G : h.Ns mainGlobals mg) (c : He.SaysD fa fn K) : FS B K mg "areas_of" Zd.d_areas_of := fs_of X G c 20 20 rfl rfl sc20 (fun _ _ _ _ _ _ us hl => match us, hl with | [_], _ => rfl) rfl rfl ck20
theorem sc21 : FnScope ["shape"] ["shape"] (defScope (top 30)) := ⟨rfl, rfl, rfl, by decide +kernel, rfl, by decide +kernel, by decide +kernel⟩
theorem ck21 : (cks B ["shape"] Zd.d_areas.body).b (defScope (top 30)) (defBody (top 30)) = true := by decide +kernel
theorem fs21 (X : K.In h) (G : h.Ns mainGlobals mg) (c : He.SaysD fa fn K) : FS B K mg "areas" Zd.d_areas := fs_of X G c 21 21 rfl rfl sc21 (fun _ _ _ _ _ _ us hl => match us, hl with | [_], _ => rfl) rfl rfl ck21
theorem sc22 : FnScope ["shape", "found", "one"] ["shape"] (defScope (top 31)) := ⟨rfl, rfl, rfl, by decide +kernel, rfl, by decide +kernel, by decide +kernel⟩
theorem ck22 : (cks B ["shape", "found", "one"] Zd.d_area.body).b (defScope (top 31)) (defBody (top 31)) = true := by decide +kernel
theorem fs22 (X : K.In h) (G : h.Ns mainGlobals mg) (c : He.SaysD fa fn K) : FS B K mg "area" Zd.d_area := fs_of X G c 22 22 rfl rfl sc22 (fun _ _ _ _ _ _ us hl => match us, hl with | [_], _ => rfl) rfl rfl ck22
theorem sc23 : FnScope ["shape", "one"] ["shape"] (defScope (top 32)) := ⟨rfl, rfl, rfl, by decide +kernel, rfl, by decide +kernel, by decide +kernel⟩
theorem ck23 : (cks B ["shape", "one"] Zd.d_ways_round_2.body).b (defScope (top 32)) (defBody (top 32)) = true := by decide +kernel
theorem fs23 (X : K.In h) (G : h.Ns mainGlobals mg) (c : He.SaysD fa fn K) : FS B K mg "ways_round" Zd.d_ways_round_2 := fs_of X G c 23 23 rfl rfl sc23 (fun _ _ _ _ _ _ us hl => match us, hl with | [_], _ => rfl) rfl rfl ck23
theorem sc24 : FnScope ["script", "k"] ["script", "k"] (defScope (top 34)) := ⟨rfl, rfl, rfl, by decide +kernel, rfl, by decide +kernel, by decide +kernel⟩
theorem ck24 : (cks B ["script", "k"] Zd.d_law_cell.body).b (defScope (top 34)) (defBody (top 34)) = true := by decide +kernel
theorem fs24 (X : K.In h) (G : h.Ns mainGlobals mg) (c : He.SaysD fa fn K) : FS B K mg "_law_cell" Zd.d_law_cell := fs_of X G c 24 24 rfl rfl sc24 (fun _ _ _ _ _ _ us hl => match us, hl with | [_, _], _ => rfl) rfl rfl ck24
theorem sc25 : FnScope ["script", "at", "cell", "found", "time"] ["script", "at"] (defScope (top 35)) := ⟨rfl, rfl, rfl, by decide +kernel, rfl, by decide +kernel, by decide +kernel⟩
theorem ck25 : (cks B ["script", "at", "cell", "found", "time"] Zd.d_law_row.body).b (defScope (top 35)) (defBody (top 35)) = true := by decide +kernel
theorem fs25 (X : K.In h) (G : h.Ns mainGlobals mg) (c : He.SaysD fa fn K) : FS B K mg "_law_row" Zd.d_law_row := fs_of X G c 25 25 rfl rfl sc25 (fun _ _ _ _ _ _ us hl => match us, hl with | [_, _], _ => rfl) rfl rfl ck25
theorem sc26 : FnScope ["one", "other"] ["one", "other"] (defScope (top 36)) := ⟨rfl, rfl, rfl, by decide +kernel, rfl, by decide +kernel, by decide +kernel⟩
theorem ck26 : (cks B ["one", "other"] Zd.d_law_common.body).b (defScope (top 36)) (defBody (top 36)) = true := by decide +kernel
theorem fs26 (X : K.In h) (G : h.Ns mainGlobals mg) (c : He.SaysD fa fn K) : FS B K mg "_law_common" Zd.d_law_common := fs_of X G c 26 26 rfl rfl sc26 (fun _ _ _ _ _ _ us hl => match us, hl with | [_, _], _ => rfl) rfl rfl ck26
theorem sc27 : FnScope ["top", "bottom", "part"] ["top", "bottom"] (defScope (top 37)) := ⟨rfl, rfl, rfl, by decide +kernel, rfl, by decide +kernel, by decide +kernel⟩
theorem ck27 : (cks B ["top", "bottom", "part"] Zd.d_law_least.body).b (defScope (top 37)) (defBody (top 37)) = true := by decide +kernel
theorem fs27 (X : K.In h) (G : h.Ns mainGlobals mg) (c : He.SaysD fa fn K) : FS B K mg "_law_least" Zd.d_law_least := fs_of X G c 27 27 rfl rfl sc27 (fun _ _ _ _ _ _ us hl => match us, hl with | [_, _], _ => rfl) rfl rfl ck27
theorem sc28 : FnScope ["one", "other"] ["one", "other"] (defScope (top 38)) := ⟨rfl, rfl, rfl, by decide +kernel, rfl, by decide +kernel, by decide +kernel⟩
theorem ck28 : (cks B ["one", "other"] Zd.d_law_plus.body).b (defScope (top 38)) (defBody (top 38)) = true := by decide +kernel
theorem fs28 (X : K.In h) (G : h.Ns mainGlobals mg) (c : He.SaysD fa fn K) : FS B K mg "_law_plus" Zd.d_law_plus := fs_of X G c 28 28 rfl rfl sc28 (fun _ _ _ _ _ _ us hl => match us, hl with | [_, _], _ => rfl) rfl rfl ck28
theorem sc29 : FnScope ["one", "other"] ["one", "other"] (defScope (top 39)) := ⟨rfl, rfl, rfl, by decide +kernel, rfl, by decide +kernel, by decide +kernel⟩
theorem ck29 : (cks B ["one", "other"] Zd.d_law_times.body).b (defScope (top 39)) (defBody (top 39)) = true := by decide +kernel
theorem fs29 (X : K.In h) (G : h.Ns mainGlobals mg) (c : He.SaysD fa fn K) : FS B K mg "_law_times" Zd.d_law_times := fs_of X G c 29 29 rfl rfl sc29 (fun _ _ _ _ _ _ us hl => match us, hl with | [_, _], _ => rfl) rfl rfl ck29
theorem sc30 : FnScope ["row", "at", "far_wide", "found", "time", "spot", "x", "y"] ["row", "at", "far_wide"] (defScope (top 40)) := ⟨rfl, rfl, rfl, by decide +kernel, rfl, by decide +kernel, by decide +kernel⟩
theorem ck30 : (cks B ["row", "at", "far_wide", "found", "time", "spot", "x", "y"] Zd.d_law_contour.body).b (defScope (top 40)) (defBody (top 40)) = true := by decide +kernel
theorem fs30 (X : K.In h) (G : h.Ns mainGlobals mg) (c : He.SaysD fa fn K) : FS B K mg "_law_contour" Zd.d_law_contour := fs_of X G c 30 30 rfl rfl sc30 (fun _ _ _ _ _ _ us hl => match us, hl with | [_, _, _], _ => rfl) rfl rfl ck30
theorem sc31 : FnScope ["script", "at", "row", "far_wide", "time"] ["script", "at"] (defScope (top 41)) := ⟨rfl, rfl, rfl, by decide +kernel, rfl, by decide +kernel, by decide +kernel⟩
theorem ck31 : (cks B ["script", "at", "row", "far_wide", "time"] Zd.d_law_shape.body).b (defScope (top 41)) (defBody (top 41)) = true := by decide +kernel
theorem fs31 (X : K.In h) (G : h.Ns mainGlobals mg) (c : He.SaysD fa fn K) : FS B K mg "_law_shape" Zd.d_law_shape := fs_of X G c 31 31 rfl rfl sc31 (fun _ _ _ _ _ _ us hl => match us, hl with | [_, _], _ => rfl) rfl rfl ck31
theorem sc32 : FnScope ["contour", "row", "at", "x", "y", "on", "other", "found", "here"] ["contour"] (defScope (top 42)) := ⟨rfl, rfl, rfl, by decide +kernel, rfl, by decide +kernel, by decide +kernel⟩
theorem ck32 : (cks B ["contour", "row", "at", "x", "y", "on", "other", "found", "here"] Zd.d_law_segments.body).b (defScope (top 42)) (defBody (top 42)) = true := by decide +kernel
theorem fs32 (X : K.In h) (G : h.Ns mainGlobals mg) (c : He.SaysD fa fn K) : FS B K mg "_law_segments" Zd.d_law_segments := fs_of X G c 32 32 rfl rfl sc32 (fun _ _ _ _ _ _ us hl => match us, hl with | [_], _ => rfl) rfl rfl ck32
theorem sc33 : FnScope ["one", "other", "left", "right"] ["one", "other"] (defScope (top 43)) := ⟨rfl, rfl, rfl, by decide +kernel, rfl, by decide +kernel, by decide +kernel⟩
theorem ck33 : (cks B ["one", "other", "left", "right"] Zd.d_law_cross.body).b (defScope (top 43)) (defBody (top 43)) = true := by decide +kernel
theorem fs33 (X : K.In h) (G : h.Ns mainGlobals mg) (c : He.SaysD fa fn K) : FS B K mg "_law_cross" Zd.d_law_cross := fs_of X G c 33 33 rfl rfl sc33 (fun _ _ _ _ _ _ us hl => match us, hl with | [_, _], _ => rfl) rfl rfl ck33
theorem sc34 : FnScope ["contour", "found", "segment", "first", "off", "last", "twice"] ["contour"] (defScope (top 44)) := ⟨rfl, rfl, rfl, by decide +kernel, rfl, by decide +kernel, by decide +kernel⟩
theorem ck34 : (cks B ["contour", "found", "segment", "first", "off", "last", "twice"] Zd.d_law_area.body).b (defScope (top 44)) (defBody (top 44)) = true := by decide +kernel
theorem fs34 (X : K.In h) (G : h.Ns mainGlobals mg) (c : He.SaysD fa fn K) : FS B K mg "_law_area" Zd.d_law_area := fs_of X G c 34 34 rfl rfl sc34 (fun _ _ _ _ _ _ us hl => match us, hl with | [_], _ => rfl) rfl rfl ck34
theorem sc35 : FnScope ["script", "shape", "due", "total", "words_due", "one", "contour"] ["script"] (defScope (top 45)) := ⟨rfl, rfl, rfl, by decide +kernel, rfl, by decide +kernel, by decide +kernel⟩
theorem ck35 : (cks B ["script", "shape", "due", "total", "words_due", "one", "contour"] Zd.d_law_14.body).b (defScope (top 45)) (defBody (top 45)) = true := by decide +kernel
theorem fs35 (X : K.In h) (G : h.Ns mainGlobals mg) (c : He.SaysD fa fn K) : FS B K mg "law" Zd.d_law_14 := fs_of X G c 35 35 rfl rfl sc35 (fun _ _ _ _ _ _ us hl => match us, hl with | [_], _ => rfl) rfl rfl ck35
theorem ws (X : K.In h) (G : h.Ns mainGlobals mg) (m : more K = true) (c : He.SaysD fa fn K) : WS B K mg := by
  refine ws_of X G (fun e he => ?_) m
  unfold Fs at he
  simp only [List.mem_cons, List.not_mem_nil, or_false] at he
  rcases he with rfl | rfl | rfl | rfl | rfl | rfl | rfl | rfl | rfl | rfl | rfl | rfl | rfl | rfl | rfl | rfl | rfl | rfl | rfl | rfl | rfl | rfl | rfl | rfl | rfl | rfl | rfl | rfl | rfl | rfl | rfl | rfl | rfl | rfl | rfl | rfl
  · exact fs0 X G c
  · exact fs1 X G c
  · exact fs2 X G c
  · exact fs3 X G c
  · exact fs4 X G c
  · exact fs5 X G c
  · exact fs6 X G c
  · exact fs7 X G c
  · exact fs8 X G c
  · exact fs9 X G c
  · exact fs10 X G c
  · exact fs11 X G c
  · exact fs12 X G c
  · exact fs13 X G c
  · exact fs14 X G c
  · exact fs15 X G c
  · exact fs16 X G c
  · exact fs17 X G c
  · exact fs18 X G c
  · exact fs19 X G c
  · exact fs20 X G c
  · exact fs21 X G c
  · exact fs22 X G c
  · exact fs23 X G c
  · exact fs24 X G c
  · exact fs25 X G c
  · exact fs26 X G c
  · exact fs27 X G c
  · exact fs28 X G c
  · exact fs29 X G c
  · exact fs30 X G c
  · exact fs31 X G c
  · exact fs32 X G c
  · exact fs33 X G c
  · exact fs34 X G c
  · exact fs35 X G c
theorem lawf {w : World} {n : Nat} {fl : Addr} (X : K.In h) (G : h.Ns mainGlobals mg) (m : more K = true) (c : He.SaysD fa fn K) (hm : mg ("law" : Str) = some (.ref fl)) :
    ∃ fd : FuncData, (∀ (s : Shared) (u : Value), BindsTo s fd ⟨[u], []⟩ [("script", u)]) ∧ ∀ base : Heap, FnOk PP w K mg base (CXA PP) (n + 1 + 5) fl fd ["script"] (spF B K (XIs B K mg) (n + 1) 142 1) :=
  law_of X G c 35 35 rfl rfl sc35 (fun _ _ _ _ _ _ us hl => match us, hl with | [_], _ => rfl) rfl rfl ck35 (ws X G m c) rfl hm
end
end Zw
open PySem PySem.W PySem.Calls PyProof.Rows in
theorem Zw.holds_of (n : Nat) (hn : n + 6 ≤ 60) (plain : ∀ ns : List Int, ns.length ≤ 63 → callN Zw.B.TT Zw.B.κ Zw.B.cx Zw.B.wf (n + 1) 142 [.scr ns] = .ok (.shr (.bl true))) : PySem.Challenge.rw_typehall_k04_areas.Holds := by
  w_on; o_law
  refine HandSHeadRun.head_any (r := OpenLaw.row PySem.Challenge.rw_typehall_k04_areas) (q := view (OpenLaw.row PySem.Challenge.rw_typehall_k04_areas).prog [45]) (H := Zw.hk) (ob := Zw.ob) (M := 4000) (loose := Zw.loose)
    (d := HandSHeadRun.topDef (OpenLaw.row PySem.Challenge.rw_typehall_k04_areas).prog 45) (kwd := []) Zw.ob_eq
    (by kernel_rfl) (fun s => by kernel_rfl) Zw.run (by kernel_rfl) (by kernel_rfl) (by kernel_rfl) (by rfl) (by first | assumption | decide +kernel) (by decide +kernel) ⟨rfl, rfl, rfl, rfl, rfl, by decide +kernel⟩ ?hw ?hc
  case hw => w_witness2
  case hc =>
    refine L2.walk_ofE (l := PySem.Challenge.rw_typehall_k04_areas) (n := 63) (k := 60) (x := "script") (CX := CXA Zw.PP) rfl (by decide) (by kernel_rfl) ⟨rfl, by decide, by decide⟩ ?F (fun H s e s' => cxa_no H s e s')
    intro w mg fl h Y G hmg0
    obtain ⟨K, KX, m, c⟩ := Y
    have hmg : mg ("law" : PySem.Str) = some (.ref fl) := by
      have e : (HandSHeadRun.topDef (OpenLaw.row PySem.Challenge.rw_typehall_k04_areas).prog 45).name = ("law" : PySem.Str) := by kernel_rfl
      rw [← e]
      exact hmg0
    obtain ⟨fd, hb, hF⟩ := Zw.lawf (w := w) (n := n) KX G m c hmg
    exact ⟨K, fd, _, KX, hb, fun H a ns hl _ hS => law_sp hS (plain ns hl), fun base _ _ => (hF base).mono (by omega)⟩
end
section
theorem Zp.Y04 : Zp.H04 Zw.B.TT Zw.B.κ Zw.B.wf := ⟨⟨rfl, rfl, rfl, rfl, rfl, rfl, rfl, rfl⟩, ⟨rfl, rfl, rfl, rfl⟩, ⟨by decide, rfl, rfl, rfl, rfl, rfl, rfl, rfl⟩, ⟨rfl, rfl, rfl, rfl⟩, ⟨rfl, rfl, rfl, rfl, rfl⟩, ⟨rfl, rfl, rfl⟩, ⟨rfl, rfl, rfl, rfl⟩, rfl, rfl, rfl, rfl⟩
end
theorem PySem.Challenge.cw_typehall_k04_areas_holds : PySem.Challenge.rw_typehall_k04_areas.Holds := by
  exact Zw.holds_of 20 (by decide) fun ns _ => Zp.plain04 (n := 11) Zp.Y04 ns
