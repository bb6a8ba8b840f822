import PyProof.Rows.All
import Wide.All
import OpenK.AllK
import Wide.FinOn
import HandS.ForMost
import HandS.ForExc
import HandS.Flow
import HandS.TupAny
import HandS.Wide
import HandS.Zip
import HandS.WordsDict
import HandS.SetKeys
import HandS.SetBool
import HandS.CallRecv
import HandS.IsInst
import HandS.Defaults
import HandS.Deep
import HandS.TupMul
import HandS.Style
import HandS.More
import HandS.SetFor
import HandS.Conv
import HandS.TryOnly
import HandS.ExcIs
import HandS.ExcField
import HandS.ExcInit
import HandS.Text
import HandS.Codes
import HandS.Head0
import HandS.Head1
import HandS.Head2
import HandS.HeadEnd
import HandS.HeadHook1
import HandS.HeadHook2
import KE.SortData
import KE.GoesEnum
import KE.KDictPairs
import KE.DataMinMax
import KE.GoesMore
import PySem.Challenge.RW_typehall_k14_letters_put_together
set_option Elab.async false
set_option linter.all false
set_option maxRecDepth 100000
set_option maxHeartbeats 4000000
section
/-! Z: plain values, what they are in the abstract heap, slots. -/
namespace Z
open PySem PySem.Spec PyProof.Rows L2
/-- plain values: scr is the law's own script -/
inductive PV where
  | non | bl (b : Bool) | int (i : Int) | str (x : List Nat) | tup (xs : List PV) | lst (xs : List PV) | scr (ns : List Int)
  /-- a dict: its keys, its values -/
  | dct (ks vs : List PV)
  /-- a tuple without a dict of its own -/
  | ptp (xs : List PV)
  deriving Inhabited
/-- how a computation ends: a value; an error of the class with a number, and its field; bad: not told -/
inductive Res (α : Type) where
  | ok (a : α) | exc (c : Nat) (p : Option PV) | bad
def Res.bind {α β : Type} (r : Res α) (f : α → Res β) : Res β := match r with
  | .ok a => f a
  | .exc c p => .exc c p
  | .bad => .bad
instance : Monad Res where
  pure := Res.ok
  bind := Res.bind
@[simp] theorem ok_bind {α β : Type} (a : α) (f : α → Res β) : (Res.ok a >>= f) = f a := rfl
@[simp] theorem exc_bind {α β : Type} (c : Nat) (p : Option PV) (f : α → Res β) : ((Res.exc c p : Res α) >>= f) = .exc c p := rfl
@[simp] theorem bad_bind {α β : Type} (f : α → Res β) : ((Res.bad : Res α) >>= f) = .bad := rfl
theorem pure_res {α : Type} (a : α) : (pure a : Res α) = .ok a := rfl
abbrev strV (x : List Nat) : V := .str ⟨x.toArray⟩
mutual
/-- the value v is p, by the frozen heap G -/
inductive Rep (K : PySem.W.Frag) (G : Hp) : V → PV → Prop
  | non : Rep K G .non .non
  | bl (b : Bool) : Rep K G (.bl b) (.bl b)
  | int (i : Int) : Rep K G (.int i) (.int i)
  | str (x : List Nat) : (∀ c ∈ x, c < 1114112) → x.length ≤ sizeLine → Rep K G (strV x) (.str x)
  | tup {a : Addr} {vs : List V} {ps : List PV} : SqT K G a vs → Reps K G vs ps → Rep K G (.ref a) (.tup ps)
  | lst {a : Addr} {vs : List V} {ps : List PV} : G a = some (.lst vs) → Reps K G vs ps → Rep K G (.ref a) (.lst ps)
  | scr {a : Addr} {ns : List Int} : SqL K G a (ns.map V.int) → Rep K G (.ref a) (.scr ns)
  | dct {a : Addr} {kvs : List (Key × V)} {ks vs : List PV} : G a = some (.dK kvs) → Reps K G (kvs.map fun kv => kV kv.1) ks → Reps K G (kvs.map fun kv => kv.2) vs → Rep K G (.ref a) (.dct ks vs)
  | ptp {a : Addr} {o : Obj} {vs : List V} {ps : List PV} : G a = some (.frz o (.tup vs)) → o.dict = none → Reps K G vs ps → Rep K G (.ref a) (.ptp ps)
inductive Reps (K : PySem.W.Frag) (G : Hp) : List V → List PV → Prop
  | nil : Reps K G [] []
  | cons {v : V} {vs : List V} {p : PV} {ps : List PV} : Rep K G v p → Reps K G vs ps → Reps K G (v :: vs) (p :: ps)
end
theorem Same.tup {K : PySem.W.Frag} {H H' : Hp} {a : Addr} {xs : List V} (e : Same H H') (h : SqT K H a xs) : SqT K H' a xs := by
  rcases h with h | h
  · rcases h with h | ⟨o, h⟩
    · exact .inl (.inl (e _ _ h))
    · exact .inl (.inr ⟨o, e _ _ h⟩)
  · exact .inr h
mutual
theorem Rep.mono {K : PySem.W.Frag} {G G' : Hp} (s : Same G G') : ∀ {v : V} {p : PV}, Rep K G v p → Rep K G' v p
  | _, _, .non => .non
  | _, _, .bl b => .bl b
  | _, _, .int i => .int i
  | _, _, .str x h l => .str x h l
  | _, _, .tup h r => .tup (Same.tup s h) (Reps.mono s r)
  | _, _, .lst h r => .lst (s _ _ h) (Reps.mono s r)
  | _, _, .scr h => .scr (s.seq h)
  | _, _, .dct h r q => .dct (s _ _ h) (Reps.mono s r) (Reps.mono s q)
  | _, _, .ptp h d r => .ptp (s _ _ h) d (Reps.mono s r)
theorem Reps.mono {K : PySem.W.Frag} {G G' : Hp} (s : Same G G') : ∀ {vs : List V} {ps : List PV}, Reps K G vs ps → Reps K G' vs ps
  | _, _, .nil => .nil
  | _, _, .cons r t => .cons (Rep.mono s r) (Reps.mono s t)
end
section
variable {K : PySem.W.Frag} {G G' H H' : Hp}
theorem Reps.length : ∀ {vs : List V} {ps : List PV}, Reps K G vs ps → vs.length = ps.length
  | _, _, .nil => rfl
  | _, _, .cons _ t => congrArg (· + 1) (Reps.length t)
theorem Reps.get : ∀ {vs : List V} {ps : List PV} {i : Nat} {p : PV}, Reps K G vs ps → ps[i]? = some p → ∃ v, vs[i]? = some v ∧ Rep K G v p
  | _, _, _, _, .nil, e => by simp at e
  | _, _, 0, _, .cons r _, e => by simp at e; subst e; exact ⟨_, rfl, r⟩
  | _, _, i + 1, p, .cons _ t, e => by
    obtain ⟨u, h1, h2⟩ := Reps.get (i := i) (p := p) t (by simpa using e)
    exact ⟨u, by simpa using h1, h2⟩
theorem Reps.getV : ∀ {vs : List V} {ps : List PV} {i : Nat} {v : V}, Reps K G vs ps → vs[i]? = some v → ∃ p, ps[i]? = some p ∧ Rep K G v p
  | _, _, _, _, .nil, e => by simp at e
  | _, _, 0, _, .cons r _, e => by simp at e; subst e; exact ⟨_, rfl, r⟩
  | _, _, i + 1, p, .cons _ t, e => by
    obtain ⟨u, h1, h2⟩ := Reps.getV (i := i) (v := p) t (by simpa using e)
    exact ⟨u, by simpa using h1, h2⟩
theorem Reps.append : ∀ {vs ws : List V} {ps qs : List PV}, Reps K G vs ps → Reps K G ws qs → Reps K G (vs ++ ws) (ps ++ qs)
  | _, _, _, _, .nil, s => s
  | _, _, _, _, .cons r t, s => .cons r (Reps.append t s)
theorem Reps.take : ∀ {vs : List V} {ps : List PV} (n : Nat), Reps K G vs ps → Reps K G (vs.take n) (ps.take n)
  | _, _, 0, _ => .nil
  | _, _, _ + 1, .nil => .nil
  | _, _, n + 1, .cons r t => .cons r (Reps.take n t)
theorem Reps.drop : ∀ {vs : List V} {ps : List PV} (n : Nat), Reps K G vs ps → Reps K G (vs.drop n) (ps.drop n)
  | _, _, 0, r => r
  | _, _, _ + 1, .nil => .nil
  | _, _, n + 1, .cons _ t => Reps.drop n t
theorem Reps.set {v : V} {p : PV} (r : Rep K G v p) : ∀ {vs : List V} {ps : List PV} (i : Nat), Reps K G vs ps → Reps K G (vs.set i v) (ps.set i p)
  | _, _, _, .nil => .nil
  | _, _, 0, .cons _ t => .cons r t
  | _, _, i + 1, .cons q t => .cons q (Reps.set r i t)
theorem Reps.eraseIdx : ∀ {vs : List V} {ps : List PV} (i : Nat), Reps K G vs ps → Reps K G (vs.eraseIdx i) (ps.eraseIdx i)
  | _, _, _, .nil => .nil
  | _, _, 0, .cons _ t => t
  | _, _, i + 1, .cons q t => .cons q (Reps.eraseIdx i t)
theorem Reps.reverse {vs : List V} {ps : List PV} (h : Reps K G vs ps) : Reps K G vs.reverse ps.reverse := by
  induction vs generalizing ps with
  | nil => cases h; exact .nil
  | cons v vs ih =>
    cases h with
    | cons r t =>
      rw [List.reverse_cons, List.reverse_cons]
      exact (ih t).append (.cons r .nil)
theorem Reps.rep {vs : List V} {ps : List PV} (h : Reps K G vs ps) : ∀ k : Nat, Reps K G (List.replicate k vs).flatten (List.replicate k ps).flatten
  | 0 => .nil
  | k + 1 => by
    rw [List.replicate_succ, List.replicate_succ, List.flatten_cons, List.flatten_cons]
    exact h.append (Reps.rep h k)
/-- the heap has grown, the frozen part by new objects alone -/
structure Ext (G H G' H' : Hp) : Prop where
  gs : Same G G'
  hs : Same H H'
  gh : Same G' H'
  nw : ∀ a, G a = none → G' a ≠ none → H a = none
theorem Ext.refl (h : Same G H) : Ext G H G H := ⟨Same.refl _, Same.refl _, h, fun _ a b => absurd a b⟩
theorem Ext.trans {G1 H1 G2 H2 : Hp} (a : Ext G H G1 H1) (b : Ext G1 H1 G2 H2) : Ext G H G2 H2 :=
  ⟨a.gs.trans b.gs, a.hs.trans b.hs, b.gh, fun x h h2 => by
    by_cases e : G1 x = none
    · exact a.hs.free (b.nw x e h2)
    · exact a.nw x h e⟩
theorem same_upd {p : Addr} {o : HO} (h : H p = none) : Same H (upd H p o) := fun b x e => by
  rw [upd_ne (ne_of_none e h)]
  exact e
/-- a new object that stays as it is -/
theorem Ext.new {p : Addr} {o : HO} (s : Same G H) (h : H p = none) : Ext G H (upd G p o) (upd H p o) where
  gs := same_upd (s.free h)
  hs := same_upd h
  gh := fun b x e => by
    by_cases hb : b = p
    · subst hb; rw [upd_same] at e ⊢; exact e
    · rw [upd_ne hb] at e ⊢; exact s _ _ e
  nw := fun a ha hb => by
    by_cases e : a = p
    · subst e; exact h
    · rw [upd_ne e] at hb; exact absurd ha hb
/-- a new object that is one's own -/
theorem Ext.newOwn {p : Addr} {o : HO} (s : Same G H) (h : H p = none) : Ext G H G (upd H p o) where
  gs := Same.refl _
  hs := same_upd h
  gh := s.trans (same_upd h)
  nw := fun a ha hb => absurd ha hb
/-- freezing one's own -/
theorem Ext.frz {p : Addr} {o : HO} {G0 H0 : Hp} (e : Ext G0 H0 G H) (h : H p = some o) (g : G p = none) (h0 : H0 p = none) : Ext G0 H0 (upd G p o) H where
  gs := e.gs.trans (same_upd g)
  hs := e.hs
  gh := fun b x q => by
    by_cases hb : b = p
    · subst hb; rw [upd_same] at q; cases q; exact h
    · rw [upd_ne hb] at q; exact e.gh _ _ q
  nw := fun a ha hb => by
    by_cases q : a = p
    · subst q; exact h0
    · rw [upd_ne q] at hb; exact e.nw a ha hb
end
/-- what a local name holds: a value that stays as it is; a list, a dict of one's own; the object at an address, with its fields, as it was at the body's beginning -/
inductive Slot where
  | un | shr (p : PV) | own (xs : List PV) | owd (ks vs : List PV) | self (a : Addr) (ns : List Str) (fs : List PV)
  /-- a list of one's own, of lists of one's own -/
  | ow2 (xss : List (List PV))
  deriving Inhabited
def Slot.o2 : Slot → Bool
  | .ow2 _ => true
  | _ => false
def Slot.o : Slot → Bool
  | .own _ => true
  | .owd _ _ => true
  | _ => false
section
variable (K : PySem.W.Frag)
/-- the object is what the slot says -/
def OwnO (G : Hp) (o : HO) : Slot → Prop
  | .own xs => ∃ vs, o = .lst vs ∧ Reps K G vs xs
  | .owd ks vs => ∃ kvs : List (Key × V), o = .dK kvs ∧ Reps K G (kvs.map fun kv => kV kv.1) ks ∧ Reps K G (kvs.map fun kv => kv.2) vs
  | _ => False
/-- a field's value, to be read -/
inductive RepFs (G H : Hp) : List V → List PV → Prop
  | nil : RepFs G H [] []
  | val {v : V} {vs : List V} {p : PV} {ps : List PV} : Rep K G v p → RepFs G H vs ps → RepFs G H (v :: vs) (p :: ps)
  | lst {b : Addr} {us vs : List V} {xs : List PV} {ps : List PV} : H b = some (.lst us) → Reps K G us xs → RepFs G H vs ps → RepFs G H (.ref b :: vs) (.lst xs :: ps)
def RepSelf (G H0 : Hp) (o : Option V) (a : Addr) (ns : List Str) (fs : List PV) : Prop := o = some (.ref a) ∧ ∃ C dx us, H0 a = some (.ins C dx (ns.zip us)) ∧ ns.length = us.length ∧ Cls K C ∧ (∀ f ∈ ns, NoAttr K C f) ∧ RepFs K G H0 us fs
/-- lists within a list of one's own -/
inductive RepIn (G H H0 : Hp) : List Addr → List (List PV) → Prop
  | nil : RepIn G H H0 [] []
  | cons {b : Addr} {bs : List Addr} {vs : List V} {xs : List PV} {xss : List (List PV)} : G b = none → H0 b = none → H b = some (.lst vs) → Reps K G vs xs → RepIn G H H0 bs xss → RepIn G H H0 (b :: bs) (xs :: xss)
def Rep2 (G H H0 : Hp) (o : Option V) (xss : List (List PV)) : Prop := ∃ a bs, o = some (.ref a) ∧ G a = none ∧ H0 a = none ∧ H a = some (.lst (bs.map V.ref)) ∧ (a :: bs).Nodup ∧ RepIn K G H H0 bs xss
def RepSlot (G H H0 : Hp) (o : Option V) : Slot → Prop
  | .ow2 xss => Rep2 K G H H0 o xss
  | .un => True
  | .shr p => ∃ v, o = some v ∧ Rep K G v p
  | .self a ns fs => RepSelf K G H0 o a ns fs
  | s => ∃ a ob, o = some (.ref a) ∧ G a = none ∧ H0 a = none ∧ H a = some ob ∧ OwnO K G ob s
/-- the state of a body, entered at G0, H0 -/
structure SI (G0 H0 G H : Hp) (ρ : List Slot) (σ : L2.St) : Prop where
  ext : Ext G0 H0 G H
  len : σ.length = ρ.length
  at_ : ∀ (i : Nat) (s : Slot), ρ[i]? = some s → ∃ o, σ[i]? = some o ∧ RepSlot K G H H0 o s
  dis : ∀ (i j : Nat) (a : Addr) (s t : Slot), i ≠ j → ρ[i]? = some s → ρ[j]? = some t → s.o = true → t.o = true → σ[i]? = some (some (.ref a)) → σ[j]? = some (some (.ref a)) → False
  ds2 : ∀ (i j : Nat) (a c : Addr) (bs : List Addr) (s : Slot) (xss : List (List PV)), ρ[i]? = some s → s.o = true → ρ[j]? = some (.ow2 xss) → σ[i]? = some (some (.ref a)) → σ[j]? = some (some (.ref c)) → H c = some (.lst (bs.map V.ref)) → a ∉ c :: bs
  one : ∀ (i j : Nat) (xss yss : List (List PV)), ρ[i]? = some (.ow2 xss) → ρ[j]? = some (.ow2 yss) → i = j
end
section
variable {K : PySem.W.Frag} {G0 H0 G H G' H' : Hp} {ρ : List Slot} {σ : L2.St}
theorem Ext.own {a : Addr} {o : HO} (e : Ext G H G' H') (g : G a = none) (h : H a = some o) : G' a = none := by
  cases q : G' a with
  | none => rfl
  | some x =>
    have z := e.nw a g (by rw [q]; exact fun z => nomatch z)
    rw [h] at z; cases z
theorem RepFs.mono {K : PySem.W.Frag} {G G' H : Hp} (s : Same G G') : ∀ {vs : List V} {ps : List PV}, RepFs K G H vs ps → RepFs K G' H vs ps
  | _, _, .nil => .nil
  | _, _, .val r t => .val (r.mono s) (RepFs.mono s t)
  | _, _, .lst h r t => .lst h (r.mono s) (RepFs.mono s t)
theorem RepSelf.mono {K : PySem.W.Frag} {G G' H0 : Hp} {o : Option V} {a : Addr} {ns : List Str} {fs : List PV} (s : Same G G') (h : RepSelf K G H0 o a ns fs) : RepSelf K G' H0 o a ns fs := by
  obtain ⟨e, C, dx, us, h1, h2, h3, h4, h5⟩ := h
  exact ⟨e, C, dx, us, h1, h2, h3, h4, h5.mono s⟩
theorem RepIn.grow {K : PySem.W.Frag} {G H H0 G' H' : Hp} (e : Ext G H G' H') : ∀ {bs : List Addr} {xss : List (List PV)}, RepIn K G H H0 bs xss → RepIn K G' H' H0 bs xss
  | _, _, .nil => .nil
  | _, _, .cons g h0 h r t => .cons (e.own g h) h0 (e.hs _ _ h) (r.mono e.gs) (RepIn.grow e t)
theorem RepIn.upd {K : PySem.W.Frag} {G H H0 : Hp} {a : Addr} {o : HO} : ∀ {bs : List Addr} {xss : List (List PV)}, RepIn K G H H0 bs xss → a ∉ bs → RepIn K G (upd H a o) H0 bs xss
  | _, _, .nil, _ => .nil
  | _, _, .cons g h0 h r t, n => .cons g h0 (by rw [upd_ne (fun z => n (by rw [z]; exact List.mem_cons_self))]; exact h) r (RepIn.upd t fun z => n (List.mem_cons_of_mem _ z))
theorem RepIn.updG {K : PySem.W.Frag} {G H H0 : Hp} {a : Addr} {o : HO} (s : Same G (L2.upd G a o)) : ∀ {bs : List Addr} {xss : List (List PV)}, RepIn K G H H0 bs xss → a ∉ bs → RepIn K (L2.upd G a o) H H0 bs xss
  | _, _, .nil, _ => .nil
  | _, _, .cons g h0 h r t, n => .cons (by rw [upd_ne (fun z => n (by rw [z]; exact List.mem_cons_self))]; exact g) h0 h (r.mono s) (RepIn.updG s t fun z => n (List.mem_cons_of_mem _ z))
theorem RepIn.isome {K : PySem.W.Frag} {G H H0 : Hp} : ∀ {bs : List Addr} {xss : List (List PV)}, RepIn K G H H0 bs xss → ∀ b ∈ bs, H b ≠ none ∧ G b = none ∧ H0 b = none
  | _, _, .nil, b, h => by cases h
  | _, _, .cons g h0 h r t, b, hb => by
    rcases List.mem_cons.mp hb with rfl | hb
    · exact ⟨(by rw [h]; exact fun z => nomatch z), g, h0⟩
    · exact RepIn.isome t b hb
theorem ref_inj : ∀ {as bs : List Addr}, as.map V.ref = bs.map V.ref → as = bs
  | [], [], _ => rfl
  | [], b :: bs, h => by cases h
  | a :: as, [], h => by cases h
  | a :: as, b :: bs, h => by
    simp only [List.map_cons, List.cons.injEq, V.ref.injEq] at h
    rw [h.1, ref_inj h.2]
theorem OwnO.mono {o : HO} {s : Slot} (g : Same G G') (h : OwnO K G o s) : OwnO K G' o s := by
  cases s with
  | un => exact h
  | shr p => exact h
  | own xs => obtain ⟨vs, e, r⟩ := h; exact ⟨vs, e, r.mono g⟩
  | owd ks vs => obtain ⟨kvs, e, r, q⟩ := h; exact ⟨kvs, e, r.mono g, q.mono g⟩
  | self a ns fs => exact h
  | ow2 xss => exact h
theorem RepSlot.own {o : Option V} {s : Slot} (h : RepSlot K G H H0 o s) (q : s.o = true) : ∃ a ob, o = some (.ref a) ∧ G a = none ∧ H0 a = none ∧ H a = some ob ∧ OwnO K G ob s := by
  cases s with
  | un => cases q
  | shr p => cases q
  | own xs => exact h
  | owd ks vs => exact h
  | self a ns fs => cases q
  | ow2 xss => cases q
theorem RepSlot.mk {a : Addr} {ob : HO} {s : Slot} (g : G a = none) (h0 : H0 a = none) (h : H a = some ob) (w : OwnO K G ob s) : RepSlot K G H H0 (some (.ref a)) s := by
  cases s with
  | un => trivial
  | shr p => exact w.elim
  | own xs => exact ⟨a, ob, rfl, g, h0, h, w⟩
  | owd ks vs => exact ⟨a, ob, rfl, g, h0, h, w⟩
  | self a ns fs => exact w.elim
  | ow2 xss => exact w.elim
theorem RepSlot.grow {o : Option V} {s : Slot} (h : RepSlot K G H H0 o s) (e : Ext G H G' H') : RepSlot K G' H' H0 o s := by
  cases q : s.o with
  | true =>
    obtain ⟨a, ob, e1, g, h0, hh, r⟩ := h.own q
    subst e1
    exact RepSlot.mk (e.own g hh) h0 (e.hs _ _ hh) (r.mono e.gs)
  | false =>
    cases s with
    | un => trivial
    | shr p =>
      obtain ⟨v, e1, r⟩ := h
      exact ⟨v, e1, r.mono e.gs⟩
    | own xs => cases q
    | owd ks vs => cases q
    | self a ns fs => exact RepSelf.mono e.gs h
    | ow2 xss =>
      obtain ⟨a, bs, e1, g, h0, hh, nd, r⟩ := h
      exact ⟨a, bs, e1, e.own g hh, h0, e.hs _ _ hh, nd, r.grow e⟩
theorem SI.grow (I : SI K G0 H0 G H ρ σ) (e : Ext G H G' H') : SI K G0 H0 G' H' ρ σ where
  ext := I.ext.trans e
  len := I.len
  at_ := fun i s h => by
    obtain ⟨o, h1, h2⟩ := I.at_ i s h
    exact ⟨o, h1, h2.grow e⟩
  dis := I.dis
  ds2 := fun i j a c bs s xss h1 h2 h3 h4 h5 h6 => by
    obtain ⟨o, q1, a', bs', q2, _, _, q3, _⟩ := I.at_ j _ h3
    rw [h5] at q1; cases q1; cases q2
    have z := e.hs _ _ q3
    rw [h6] at z
    have e1 : bs = bs' := ref_inj (by injection z with z; injection z)
    rw [e1]
    exact I.ds2 i j a c bs' s xss h1 h2 h3 h4 h5 q3
  one := I.one
theorem SI.sub (I : SI K G0 H0 G H ρ σ) : Same G H := I.ext.gh
theorem SI.shr {i : Nat} {p : PV} (I : SI K G0 H0 G H ρ σ) (h : ρ[i]? = some (.shr p)) : ∃ v, σ[i]? = some (some v) ∧ Rep K G v p := by
  obtain ⟨o, h1, v, rfl, r⟩ := I.at_ i _ h
  exact ⟨v, h1, r⟩
theorem SI.ownG {i : Nat} {s : Slot} (I : SI K G0 H0 G H ρ σ) (h : ρ[i]? = some s) (q : s.o = true) : ∃ a ob, σ[i]? = some (some (.ref a)) ∧ G a = none ∧ H0 a = none ∧ H a = some ob ∧ OwnO K G ob s := by
  obtain ⟨o, h1, h2⟩ := I.at_ i _ h
  obtain ⟨a, ob, rfl, r⟩ := h2.own q
  exact ⟨a, ob, h1, r⟩
theorem SI.own {i : Nat} {xs : List PV} (I : SI K G0 H0 G H ρ σ) (h : ρ[i]? = some (.own xs)) : ∃ a vs, σ[i]? = some (some (.ref a)) ∧ G a = none ∧ H0 a = none ∧ H a = some (.lst vs) ∧ Reps K G vs xs := by
  obtain ⟨a, ob, h1, g, h0, hh, vs, rfl, r⟩ := I.ownG h rfl
  exact ⟨a, vs, h1, g, h0, hh, r⟩
theorem SI.owd {i : Nat} {ks vs : List PV} (I : SI K G0 H0 G H ρ σ) (h : ρ[i]? = some (.owd ks vs)) : ∃ (a : Addr) (kvs : List (Key × V)), σ[i]? = some (some (.ref a)) ∧ G a = none ∧ H0 a = none ∧ H a = some (.dK kvs) ∧ Reps K G (kvs.map fun kv => kV kv.1) ks ∧ Reps K G (kvs.map fun kv => kv.2) vs := by
  obtain ⟨a, ob, h1, g, h0, hh, kvs, rfl, r⟩ := I.ownG h rfl
  exact ⟨a, kvs, h1, g, h0, hh, r⟩
theorem get_set_ne {α : Type} {l : List α} {i j : Nat} {x : α} (h : i ≠ j) : (l.set i x)[j]? = l[j]? := by
  rw [List.getElem?_set_ne h]
theorem set_at {α : Type} {l : List α} {i : Nat} {x y : α} (h : (l.set i x)[i]? = some y) : y = x := by
  have hl : i < l.length := by
    obtain ⟨hh, _⟩ := List.getElem?_eq_some_iff.mp h
    rwa [List.length_set] at hh
  rw [List.getElem?_set_self hl] at h
  cases h; rfl
/-- a slot gets what is no one's own -/
theorem SI.setP {i : Nat} {s0 : Slot} {o : Option V} (I : SI K G0 H0 G H ρ σ) (hs : s0.o = false) (hs2 : s0.o2 = false) (r : RepSlot K G H H0 o s0) : SI K G0 H0 G H (ρ.set i s0) (σ.set i o) where
  ext := I.ext
  len := by rw [List.length_set, List.length_set]; exact I.len
  at_ := fun j s h => by
    by_cases e : i = j
    · subst e
      have hl : i < ρ.length := by
        have := List.getElem?_eq_some_iff.mp h
        obtain ⟨hh, _⟩ := this
        rwa [List.length_set] at hh
      rw [List.getElem?_set_self hl] at h
      cases h
      exact ⟨o, by rw [List.getElem?_set_self (by rw [I.len]; exact hl)], r⟩
    · rw [get_set_ne e] at h
      rw [get_set_ne e]
      exact I.at_ j s h
  dis := fun j k a s t hjk h1 h2 o1 o2 h3 h4 => by
    have n1 : i ≠ j := fun e => by
      subst e
      have hl : i < ρ.length := by
        obtain ⟨hh, _⟩ := List.getElem?_eq_some_iff.mp h1
        rwa [List.length_set] at hh
      rw [List.getElem?_set_self hl] at h1; cases h1; rw [hs] at o1; cases o1
    have n2 : i ≠ k := fun e => by
      subst e
      have hl : i < ρ.length := by
        obtain ⟨hh, _⟩ := List.getElem?_eq_some_iff.mp h2
        rwa [List.length_set] at hh
      rw [List.getElem?_set_self hl] at h2; cases h2; rw [hs] at o2; cases o2
    rw [get_set_ne n1] at h1 h3
    rw [get_set_ne n2] at h2 h4
    exact I.dis j k a s t hjk h1 h2 o1 o2 h3 h4
  ds2 := fun j k a c bs s xss h1 h2 h3 h4 h5 h6 => by
    have n1 : i ≠ j := fun e => by
      subst e
      rw [set_at h1] at h2; rw [hs] at h2; cases h2
    have n2 : i ≠ k := fun e => by
      subst e
      rw [← set_at h3] at hs2; cases hs2
    rw [get_set_ne n1] at h1 h4
    rw [get_set_ne n2] at h3 h5
    exact I.ds2 j k a c bs s xss h1 h2 h3 h4 h5 h6
  one := fun j k xss yss h1 h2 => by
    have n1 : i ≠ j := fun e => by
      subst e
      rw [← set_at h1] at hs2; cases hs2
    have n2 : i ≠ k := fun e => by
      subst e
      rw [← set_at h2] at hs2; cases hs2
    rw [get_set_ne n1] at h1
    rw [get_set_ne n2] at h2
    exact I.one j k xss yss h1 h2
/-- a slot gets a value that stays as it is -/
theorem SI.setShr {i : Nat} {v : V} {p : PV} (I : SI K G0 H0 G H ρ σ) (r : Rep K G v p) : SI K G0 H0 G H (ρ.set i (.shr p)) (σ.set i (some v)) := I.setP rfl rfl ⟨v, rfl, r⟩
/-- a slot is forgotten -/
theorem SI.setUn {i : Nat} {o : Option V} (I : SI K G0 H0 G H ρ σ) : SI K G0 H0 G H (ρ.set i .un) (σ.set i o) := I.setP rfl rfl trivial
/-- a slot gets a new object, its own -/
theorem SI.setOwnG {i : Nat} {a : Addr} {ob : HO} {s0 : Slot} (I : SI K G0 H0 G H ρ σ) (g : G a = none) (h0 : H0 a = none) (h : H a = some ob) (r : OwnO K G ob s0)
    (new : ∀ (j : Nat) (t : Slot), j ≠ i → ρ[j]? = some t → t.o = true → σ[j]? ≠ some (some (.ref a)))
    (new2 : ∀ (j : Nat) (xss : List (List PV)) (c : Addr) (bs : List Addr), j ≠ i → ρ[j]? = some (.ow2 xss) → σ[j]? = some (some (.ref c)) → H c = some (.lst (bs.map V.ref)) → a ∉ c :: bs) (hs2 : s0.o2 = false) : SI K G0 H0 G H (ρ.set i s0) (σ.set i (some (.ref a))) where
  ext := I.ext
  len := by rw [List.length_set, List.length_set]; exact I.len
  at_ := fun j s h' => by
    by_cases e : i = j
    · subst e
      have hl : i < ρ.length := by
        obtain ⟨hh, _⟩ := List.getElem?_eq_some_iff.mp h'
        rwa [List.length_set] at hh
      rw [List.getElem?_set_self hl] at h'
      cases h'
      exact ⟨some (.ref a), by rw [List.getElem?_set_self (by rw [I.len]; exact hl)], RepSlot.mk g h0 h r⟩
    · rw [get_set_ne e] at h'
      rw [get_set_ne e]
      exact I.at_ j s h'
  dis := fun j k b s t hjk h1 h2 o1 o2 h3 h4 => by
    by_cases e1 : i = j
    · subst e1
      have n2 : i ≠ k := hjk
      rw [get_set_ne n2] at h2 h4
      have hl : i < σ.length := by
        obtain ⟨hh, _⟩ := List.getElem?_eq_some_iff.mp h3
        rwa [List.length_set] at hh
      rw [List.getElem?_set_self hl] at h3
      cases h3
      exact new k t (Ne.symm n2) h2 o2 h4
    · by_cases e2 : i = k
      · subst e2
        rw [get_set_ne e1] at h1 h3
        have hl : i < σ.length := by
          obtain ⟨hh, _⟩ := List.getElem?_eq_some_iff.mp h4
          rwa [List.length_set] at hh
        rw [List.getElem?_set_self hl] at h4
        cases h4
        exact new j s (Ne.symm e1) h1 o1 h3
      · rw [get_set_ne e1] at h1 h3
        rw [get_set_ne e2] at h2 h4
        exact I.dis j k b s t hjk h1 h2 o1 o2 h3 h4
  ds2 := fun j k b c bs s xss h1 h2 h3 h4 h5 h6 => by
    have n2 : i ≠ k := fun e => by
      subst e
      rw [← set_at h3] at hs2; cases hs2
    rw [get_set_ne n2] at h3 h5
    by_cases e1 : i = j
    · subst e1
      have z := set_at h4
      cases z
      exact new2 k xss c bs (Ne.symm n2) h3 h5 h6
    · rw [get_set_ne e1] at h1 h4
      exact I.ds2 j k b c bs s xss h1 h2 h3 h4 h5 h6
  one := fun j k xss yss h1 h2 => by
    have n1 : i ≠ j := fun e => by
      subst e
      rw [← set_at h1] at hs2; cases hs2
    have n2 : i ≠ k := fun e => by
      subst e
      rw [← set_at h2] at hs2; cases hs2
    rw [get_set_ne n1] at h1
    rw [get_set_ne n2] at h2
    exact I.one j k xss yss h1 h2
theorem SI.setOwn {i : Nat} {a : Addr} {vs : List V} {xs : List PV} (I : SI K G0 H0 G H ρ σ) (g : G a = none) (h0 : H0 a = none) (h : H a = some (.lst vs)) (r : Reps K G vs xs)
    (new : ∀ (j : Nat) (t : Slot), j ≠ i → ρ[j]? = some t → t.o = true → σ[j]? ≠ some (some (.ref a)))
    (new2 : ∀ (j : Nat) (xss : List (List PV)) (c : Addr) (bs : List Addr), j ≠ i → ρ[j]? = some (.ow2 xss) → σ[j]? = some (some (.ref c)) → H c = some (.lst (bs.map V.ref)) → a ∉ c :: bs) : SI K G0 H0 G H (ρ.set i (.own xs)) (σ.set i (some (.ref a))) := I.setOwnG g h0 h ⟨vs, rfl, r⟩ new new2 rfl
/-- an object of one's own is written -/
theorem SI.writeG {i : Nat} {a : Addr} {ob' : HO} {s0 s0' : Slot} (I : SI K G0 H0 G H ρ σ) (hi : ρ[i]? = some s0) (hs : s0.o = true) (hs' : s0'.o = true) (ha : σ[i]? = some (some (.ref a))) (r : OwnO K G ob' s0') :
    SI K G0 H0 G (upd H a ob') (ρ.set i s0') σ := by
  obtain ⟨a', ob, e1, g, h0, h, _⟩ := I.ownG hi hs
  rw [ha] at e1; cases e1
  have gne : ∀ b o, G b = some o → b ≠ a := fun b o e z => by subst z; rw [g] at e; cases e
  have hl : i < ρ.length := (List.getElem?_eq_some_iff.mp hi).1
  have hn2 : s0'.o2 = false := by cases s0' <;> first | rfl | cases hs'
  have hn : s0.o2 = false := by cases s0 <;> first | rfl | cases hs
  have key2 : ∀ (k : Nat) (xss : List (List PV)), (ρ.set i s0')[k]? = some (.ow2 xss) → i ≠ k ∧ ρ[k]? = some (.ow2 xss) := fun k xss h => by
    have n2 : i ≠ k := fun e => by
      subst e
      rw [← set_at h] at hn2; cases hn2
    rw [get_set_ne n2] at h
    exact ⟨n2, h⟩
  refine ⟨⟨I.ext.gs, fun b o e => ?_, fun b o e => ?_, I.ext.nw⟩, by rw [List.length_set]; exact I.len, fun j s hj => ?_, fun j k b s t hjk h1 h2 o1 o2 h3 h4 => ?_, fun j k b c bs s xss h1 h2 h3 h4 h5 h6 => ?_, fun j k xss yss h1 h2 => I.one j k xss yss (key2 j xss h1).2 (key2 k yss h2).2⟩
  · rw [upd_ne (ne_of_none e h0)]
    exact I.ext.hs b o e
  · rw [upd_ne (gne b o e)]
    exact I.ext.gh b o e
  · by_cases e : i = j
    · subst e
      rw [List.getElem?_set_self hl] at hj
      cases hj
      exact ⟨some (.ref a), ha, RepSlot.mk g h0 upd_same r⟩
    · rw [get_set_ne e] at hj
      obtain ⟨o, q1, q2⟩ := I.at_ j s hj
      refine ⟨o, q1, ?_⟩
      cases q : s.o with
      | true =>
        obtain ⟨b, ob2, rfl, gb, hb0, hb, rb⟩ := q2.own q
        have nb : b ≠ a := fun z => by
          subst z
          exact I.dis i j b s0 s e hi hj hs q ha q1
        exact RepSlot.mk gb hb0 (by rw [upd_ne nb]; exact hb) rb
      | false =>
        cases s with
        | un => trivial
        | shr p => exact q2
        | own xs => cases q
        | owd ks vs => cases q
        | self a ns fs => exact q2
        | ow2 xss =>
          obtain ⟨c, bs, rfl, gc, hc0, hc, nd, rb⟩ := q2
          have nb := I.ds2 i j a c bs s0 xss hi hs hj ha q1 hc
          exact ⟨c, bs, rfl, gc, hc0, by rw [upd_ne (fun z => nb (by rw [z]; exact List.mem_cons_self))]; exact hc, nd, rb.upd fun z => nb (List.mem_cons_of_mem _ z)⟩
  · have key : ∀ (l : Nat) (t : Slot), (ρ.set i s0')[l]? = some t → t.o = true → ∃ t', ρ[l]? = some t' ∧ t'.o = true := fun l t hh ho => by
      by_cases e : i = l
      · subst e; exact ⟨s0, hi, hs⟩
      · rw [get_set_ne e] at hh; exact ⟨t, hh, ho⟩
    obtain ⟨w1, q1, p1⟩ := key j s h1 o1
    obtain ⟨w2, q2, p2⟩ := key k t h2 o2
    exact I.dis j k b w1 w2 hjk q1 q2 p1 p2 h3 h4
  · obtain ⟨n2, h3⟩ := key2 k xss h3
    obtain ⟨o, q1, c', bs', q2, _, _, q3, _⟩ := I.at_ k _ h3
    rw [h5] at q1; cases q1; cases q2
    have nb := I.ds2 i k a c bs' s0 xss hi hs h3 ha h5 q3
    rw [upd_ne (fun z => nb (by rw [z]; exact List.mem_cons_self))] at h6
    by_cases e1 : i = j
    · subst e1
      rw [ha] at h4; cases h4
      exact I.ds2 i k a c bs s0 xss hi hs h3 ha h5 h6
    · rw [get_set_ne e1] at h1
      exact I.ds2 j k b c bs s xss h1 h2 h3 h4 h5 h6
theorem SI.write {i : Nat} {a : Addr} {vs' : List V} {xs xs' : List PV} (I : SI K G0 H0 G H ρ σ) (hi : ρ[i]? = some (.own xs)) (ha : σ[i]? = some (some (.ref a))) (r : Reps K G vs' xs') :
    SI K G0 H0 G (upd H a (.lst vs')) (ρ.set i (.own xs')) σ := I.writeG hi rfl rfl ha ⟨vs', rfl, r⟩
/-- an object of one's own is frozen -/
theorem SI.freezeG {i : Nat} {s0 : Slot} {p : PV} (I : SI K G0 H0 G H ρ σ) (hi : ρ[i]? = some s0) (hs : s0.o = true) (w : ∀ (a : Addr) (ob : HO), OwnO K G ob s0 → G a = none → Rep K (upd G a ob) (.ref a) p) : ∃ G', SI K G0 H0 G' H (ρ.set i (.shr p)) σ ∧ Same G G' := by
  obtain ⟨a, ob, ha, g, h0, h, r⟩ := I.ownG hi hs
  have hl : i < ρ.length := (List.getElem?_eq_some_iff.mp hi).1
  have sg : Same G (upd G a ob) := same_upd g
  have key2 : ∀ (k : Nat) (xss : List (List PV)), (ρ.set i (.shr p))[k]? = some (.ow2 xss) → i ≠ k ∧ ρ[k]? = some (.ow2 xss) := fun k xss h => by
    have n2 : i ≠ k := fun e => by
      subst e
      have z := set_at h
      cases z
    rw [get_set_ne n2] at h
    exact ⟨n2, h⟩
  refine ⟨upd G a ob, ⟨I.ext.frz h g h0, by rw [List.length_set]; exact I.len, fun j s hj => ?_, fun j k b s t hjk h1 h2 o1 o2 h3 h4 => ?_, fun j k b c bs s xss h1 h2 h3 h4 h5 h6 => ?_, fun j k xss yss h1 h2 => I.one j k xss yss (key2 j xss h1).2 (key2 k yss h2).2⟩, sg⟩
  · by_cases e : i = j
    · subst e
      rw [List.getElem?_set_self hl] at hj
      cases hj
      exact ⟨some (.ref a), ha, .ref a, rfl, w a ob r g⟩
    · rw [get_set_ne e] at hj
      obtain ⟨o, q1, q2⟩ := I.at_ j s hj
      refine ⟨o, q1, ?_⟩
      cases q : s.o with
      | true =>
        obtain ⟨b, ob2, rfl, gb, hb0, hb, rb⟩ := q2.own q
        have nb : b ≠ a := fun z => by
          subst z
          exact I.dis i j b s0 s e hi hj hs q ha q1
        exact RepSlot.mk (by rw [upd_ne nb]; exact gb) hb0 hb (rb.mono sg)
      | false =>
        cases s with
        | un => trivial
        | shr p =>
          obtain ⟨v, e1, rr⟩ := q2
          exact ⟨v, e1, rr.mono sg⟩
        | own xs => cases q
        | owd ks vs => cases q
        | self a ns fs => exact RepSelf.mono sg q2
        | ow2 xss =>
          obtain ⟨c, bs, rfl, gc, hc0, hc, nd, rb⟩ := q2
          have nb := I.ds2 i j a c bs s0 xss hi hs hj ha q1 hc
          exact ⟨c, bs, rfl, by rw [upd_ne (fun z => nb (by rw [z]; exact List.mem_cons_self))]; exact gc, hc0, hc, nd, rb.updG sg fun z => nb (List.mem_cons_of_mem _ z)⟩
  · have n1 : i ≠ j := fun e => by
      subst e
      rw [List.getElem?_set_self hl] at h1; cases h1; cases o1
    have n2 : i ≠ k := fun e => by
      subst e
      rw [List.getElem?_set_self hl] at h2; cases h2; cases o2
    rw [get_set_ne n1] at h1
    rw [get_set_ne n2] at h2
    exact I.dis j k b s t hjk h1 h2 o1 o2 h3 h4
  · have n1 : i ≠ j := fun e => by
      subst e
      rw [List.getElem?_set_self hl] at h1; cases h1; cases h2
    rw [get_set_ne n1] at h1
    exact I.ds2 j k b c bs s xss h1 h2 (key2 k xss h3).2 h4 h5 h6
theorem SI.freeze2 {i : Nat} {xs : List PV} (I : SI K G0 H0 G H ρ σ) (hi : ρ[i]? = some (.own xs)) : ∃ G', SI K G0 H0 G' H (ρ.set i (.shr (.lst xs))) σ ∧ Same G G' := I.freezeG hi rfl fun a ob r g => by
  obtain ⟨vs, rfl, r⟩ := r
  exact .lst upd_same (r.mono (same_upd g))
theorem SI.freezeD {i : Nat} {ks vs : List PV} (I : SI K G0 H0 G H ρ σ) (hi : ρ[i]? = some (.owd ks vs)) : ∃ G', SI K G0 H0 G' H (ρ.set i (.shr (.dct ks vs))) σ ∧ Same G G' := I.freezeG hi rfl fun a ob r g => by
  obtain ⟨kvs, rfl, r, q⟩ := r
  exact .dct upd_same (r.mono (same_upd g)) (q.mono (same_upd g))
/-! ### lists of one's own lists -/
theorem SI.get2 {i : Nat} {xss : List (List PV)} (I : SI K G0 H0 G H ρ σ) (h : ρ[i]? = some (.ow2 xss)) : ∃ a bs, σ[i]? = some (some (.ref a)) ∧ G a = none ∧ H0 a = none ∧ H a = some (.lst (bs.map V.ref)) ∧ (a :: bs).Nodup ∧ RepIn K G H H0 bs xss := by
  obtain ⟨o, h1, a, bs, rfl, r⟩ := I.at_ i _ h
  exact ⟨a, bs, h1, r⟩
def no2 (ρ : List Slot) (i : Nat) : Bool := (ρ.set i .un).all fun s => !s.o2
theorem no2_at {i j : Nat} {xss : List (List PV)} (h : no2 ρ i = true) (hj : ρ[j]? = some (.ow2 xss)) : i = j := by
  by_cases e : i = j
  · exact e
  · have h1 : (ρ.set i .un)[j]? = some (.ow2 xss) := by rw [get_set_ne e]; exact hj
    have h2 := List.all_eq_true.mp h _ (List.mem_of_getElem? h1)
    cases h2
/-- a slot gets a new list of new lists -/
theorem SI.new2 {i : Nat} {a : Addr} {bs : List Addr} {xss : List (List PV)} (I : SI K G0 H0 G H ρ σ) (ex : Ext G H G' H') (n2 : no2 ρ i = true) (fa : ∀ b ∈ a :: bs, H b = none) (g : G' a = none) (h : H' a = some (.lst (bs.map V.ref))) (nd : (a :: bs).Nodup) (r : RepIn K G' H' H0 bs xss) :
    SI K G0 H0 G' H' (ρ.set i (.ow2 xss)) (σ.set i (some (.ref a))) := by
  have J := I.grow ex
  have key : ∀ (j : Nat) (s : Slot), (ρ.set i (.ow2 xss))[j]? = some s → s.o = true → i ≠ j ∧ ρ[j]? = some s := fun j s h ho => by
    have n : i ≠ j := fun e => by
      subst e
      rw [set_at h] at ho; cases ho
    rw [get_set_ne n] at h
    exact ⟨n, h⟩
  refine ⟨J.ext, by rw [List.length_set, List.length_set]; exact J.len, fun j s h' => ?_, fun j k b s t hjk h1 h2 o1 o2 h3 h4 => ?_, fun j k b c bs' s yss h1 h2 h3 h4 h5 h6 => ?_, fun j k yss zss h1 h2 => ?_⟩
  · by_cases e : i = j
    · subst e
      have z := set_at h'
      subst z
      have hl : i < ρ.length := by
        obtain ⟨hh, _⟩ := List.getElem?_eq_some_iff.mp h'
        rwa [List.length_set] at hh
      exact ⟨some (.ref a), by rw [List.getElem?_set_self (by rw [I.len]; exact hl)], a, bs, rfl, g, I.ext.hs.free (fa a List.mem_cons_self), h, nd, r⟩
    · rw [get_set_ne e] at h'
      rw [get_set_ne e]
      exact J.at_ j s h'
  · obtain ⟨n1, h1⟩ := key j s h1 o1
    obtain ⟨n2, h2⟩ := key k t h2 o2
    rw [get_set_ne n1] at h3
    rw [get_set_ne n2] at h4
    exact I.dis j k b s t hjk h1 h2 o1 o2 h3 h4
  · obtain ⟨n1, h1⟩ := key j s h1 h2
    rw [get_set_ne n1] at h4
    by_cases e : i = k
    · subst e
      have z := set_at h5
      cases z
      rw [h] at h6
      have e1 : bs = bs' := ref_inj (by injection h6 with z; injection z)
      subst e1
      obtain ⟨b', ob, q1, _, _, q2, _⟩ := I.ownG h1 h2
      rw [h4] at q1; cases q1
      intro hm
      rw [fa _ hm] at q2; cases q2
    · rw [get_set_ne e] at h3
      exact absurd (no2_at n2 h3) e
  · have key2 : ∀ (k : Nat) (zss : List (List PV)), (ρ.set i (.ow2 xss))[k]? = some (.ow2 zss) → i = k := fun k zss h => by
      by_cases e : i = k
      · exact e
      · rw [get_set_ne e] at h
        exact no2_at n2 h
    rw [← key2 j yss h1, ← key2 k zss h2]
theorem RepIn.at_ {K : PySem.W.Frag} {G H H0 : Hp} : ∀ {bs : List Addr} {xss : List (List PV)} {m : Nat} {xs : List PV}, RepIn K G H H0 bs xss → xss[m]? = some xs → ∃ b vs, bs[m]? = some b ∧ G b = none ∧ H0 b = none ∧ H b = some (.lst vs) ∧ Reps K G vs xs
  | _, _, _, _, .nil, h => by simp at h
  | _, _, 0, _, .cons (b := b) (vs := vs) g h0 h r t, e => by simp at e; subst e; exact ⟨b, vs, rfl, g, h0, h, r⟩
  | _, _, m + 1, xs, .cons g h0 h r t, e => by
    obtain ⟨b, vs, q⟩ := RepIn.at_ (m := m) (xs := xs) t (by simpa using e)
    exact ⟨b, vs, by simpa using q.1, q.2⟩
theorem RepIn.length {K : PySem.W.Frag} {G H H0 : Hp} : ∀ {bs : List Addr} {xss : List (List PV)}, RepIn K G H H0 bs xss → bs.length = xss.length
  | _, _, .nil => rfl
  | _, _, .cons _ _ _ _ t => congrArg (· + 1) (RepIn.length t)
theorem RepIn.write {K : PySem.W.Frag} {G H H0 : Hp} {vs' : List V} {xs' : List PV} (r' : Reps K G vs' xs') : ∀ {bs : List Addr} {xss : List (List PV)} {m : Nat} {b : Addr}, RepIn K G H H0 bs xss → bs.Nodup → bs[m]? = some b → RepIn K G (L2.upd H b (.lst vs')) H0 bs (xss.set m xs')
  | _, _, _, _, .nil, _, h => by simp at h
  | _, _, 0, b', .cons (b := b) g h0 h r t, nd, e => by
    simp at e; subst e
    exact .cons g h0 upd_same r' (t.upd (List.nodup_cons.mp nd).1)
  | _, _, m + 1, b', .cons (b := b) (xs := xs) (xss := xss) g h0 h r t, nd, e => by
    have e' : _ := (by simpa using e : _)
    have nb : b ≠ b' := fun z => (List.nodup_cons.mp nd).1 (by rw [z]; exact List.mem_of_getElem? e')
    exact .cons g h0 (by rw [upd_ne nb]; exact h) r (RepIn.write r' t (List.nodup_cons.mp nd).2 e')
/-- a list within is written -/
theorem SI.write2 {i : Nat} {a : Addr} {bs : List Addr} {xss : List (List PV)} {m : Nat} {b : Addr} {vs' : List V} {xs' : List PV} (I : SI K G0 H0 G H ρ σ) (hi : ρ[i]? = some (.ow2 xss)) (ha : σ[i]? = some (some (.ref a))) (hh : H a = some (.lst (bs.map V.ref))) (hb : bs[m]? = some b) (r' : Reps K G vs' xs') :
    SI K G0 H0 G (upd H b (.lst vs')) (ρ.set i (.ow2 (xss.set m xs'))) σ := by
  obtain ⟨a', bs', e1, g, h0, h, nd, r⟩ := I.get2 hi
  rw [ha] at e1; cases e1
  rw [hh] at h
  have e1 : bs = bs' := ref_inj (by injection h with z; injection z)
  subst e1
  have hbm : b ∈ bs := List.mem_of_getElem? hb
  obtain ⟨_, gb, hb0⟩ := r.isome b hbm
  have gne : ∀ c o, G c = some o → c ≠ b := fun c o e z => by subst z; rw [gb] at e; cases e
  have nab : a ≠ b := fun z => (List.nodup_cons.mp nd).1 (by rw [z]; exact hbm)
  have hl : i < ρ.length := (List.getElem?_eq_some_iff.mp hi).1
  have key : ∀ (j : Nat) (s : Slot), (ρ.set i (.ow2 (xss.set m xs')))[j]? = some s → s.o = true → i ≠ j ∧ ρ[j]? = some s := fun j s h ho => by
    have n : i ≠ j := fun e => by
      subst e
      rw [set_at h] at ho; cases ho
    rw [get_set_ne n] at h
    exact ⟨n, h⟩
  have key2 : ∀ (k : Nat) (zss : List (List PV)), (ρ.set i (.ow2 (xss.set m xs')))[k]? = some (.ow2 zss) → i = k := fun k zss h => by
    by_cases e : i = k
    · exact e
    · rw [get_set_ne e] at h
      exact I.one i k _ _ hi h
  refine ⟨⟨I.ext.gs, fun c o e => ?_, fun c o e => ?_, I.ext.nw⟩, by rw [List.length_set]; exact I.len, fun j s hj => ?_, fun j k b s t hjk h1 h2 o1 o2 h3 h4 => ?_, fun j k d c bs' s yss h1 h2 h3 h4 h5 h6 => ?_, fun j k yss zss h1 h2 => by rw [← key2 j yss h1, ← key2 k zss h2]⟩
  · rw [upd_ne (ne_of_none e hb0)]
    exact I.ext.hs c o e
  · rw [upd_ne (gne c o e)]
    exact I.ext.gh c o e
  · by_cases e : i = j
    · subst e
      have z := set_at hj
      subst z
      exact ⟨some (.ref a), ha, a, bs, rfl, g, h0, by rw [upd_ne nab]; exact hh, nd, r.write r' (List.nodup_cons.mp nd).2 hb⟩
    · rw [get_set_ne e] at hj
      obtain ⟨o, q1, q2⟩ := I.at_ j s hj
      refine ⟨o, q1, ?_⟩
      cases q : s.o with
      | true =>
        obtain ⟨d, ob2, rfl, gd, hd0, hd, rd⟩ := q2.own q
        have nb := I.ds2 j i d a bs s xss hj q hi q1 ha hh
        exact RepSlot.mk gd hd0 (by rw [upd_ne (fun z => nb (List.mem_cons_of_mem _ (by rw [z]; exact hbm)))]; exact hd) rd
      | false =>
        cases s with
        | un => trivial
        | shr p => exact q2
        | own xs => cases q
        | owd ks vs => cases q
        | self a ns fs => exact q2
        | ow2 yss => exact absurd (I.one i j _ _ hi hj) e
  · obtain ⟨n1, h1⟩ := key j s h1 o1
    obtain ⟨n2, h2⟩ := key k t h2 o2
    exact I.dis j k _ s t hjk h1 h2 o1 o2 h3 h4
  · obtain ⟨n1, h1⟩ := key j s h1 h2
    have e := key2 k yss h3
    subst e
    rw [ha] at h5; cases h5
    rw [upd_ne nab, hh] at h6
    have e1 : bs = bs' := ref_inj (by injection h6 with z; injection z)
    subst e1
    exact I.ds2 j i d a bs s xss h1 h2 hi h4 ha hh
/-- frozen, with all that is within -/
theorem RepIn.frz {K : PySem.W.Frag} {G0 H0 H : Hp} : ∀ {bs : List Addr} {xss : List (List PV)} {G : Hp}, Ext G0 H0 G H → RepIn K G H H0 bs xss → bs.Nodup → ∃ G', Ext G0 H0 G' H ∧ Same G G' ∧ Reps K G' (bs.map V.ref) (xss.map PV.lst) ∧ ∀ d, d ∉ bs → G' d = G d
  | _, _, G, ex, .nil, _ => ⟨G, ex, Same.refl _, .nil, fun _ _ => rfl⟩
  | _, _, G, ex, .cons (b := b) (bs := bs) (vs := vs) g h0 h r t, nd => by
    have s1 : Same G (L2.upd G b (.lst vs)) := same_upd g
    obtain ⟨G', e1, s2, rr, k⟩ := RepIn.frz (ex.frz h g h0) (t.updG s1 (List.nodup_cons.mp nd).1) (List.nodup_cons.mp nd).2
    refine ⟨G', e1, s1.trans s2, .cons (.lst (s2 _ _ upd_same) (r.mono (s1.trans s2))) rr, fun d hd => ?_⟩
    rw [k d fun z => hd (List.mem_cons_of_mem _ z), upd_ne fun z => hd (by rw [z]; exact List.mem_cons_self)]
theorem SI.frz2 {i : Nat} {xss : List (List PV)} (I : SI K G0 H0 G H ρ σ) (hi : ρ[i]? = some (.ow2 xss)) : ∃ G', SI K G0 H0 G' H (ρ.set i (.shr (.lst (xss.map PV.lst)))) σ ∧ Same G G' := by
  obtain ⟨a, bs, ha, g, h0, h, nd, r⟩ := I.get2 hi
  have hl : i < ρ.length := (List.getElem?_eq_some_iff.mp hi).1
  obtain ⟨G1, e1, s1, rr, k⟩ := r.frz I.ext (List.nodup_cons.mp nd).2
  have g1 : G1 a = none := by rw [k a (List.nodup_cons.mp nd).1]; exact g
  have s2 : Same G1 (upd G1 a (.lst (bs.map V.ref))) := same_upd g1
  have key : ∀ (j : Nat) (s : Slot), (ρ.set i (.shr (.lst (xss.map PV.lst))))[j]? = some s → (s.o = true ∨ s.o2 = true) → i ≠ j ∧ ρ[j]? = some s := fun j s h ho => by
    have n : i ≠ j := fun e => by
      subst e
      rw [set_at h] at ho
      rcases ho with ho | ho <;> cases ho
    rw [get_set_ne n] at h
    exact ⟨n, h⟩
  have non : ∀ (k : Nat) (yss : List (List PV)), (ρ.set i (.shr (.lst (xss.map PV.lst))))[k]? = some (.ow2 yss) → False := fun k yss h => by
    obtain ⟨n, h⟩ := key k _ h (.inr rfl)
    exact n (I.one i k _ _ hi h)
  refine ⟨upd G1 a (.lst (bs.map V.ref)), ⟨e1.frz h g1 h0, by rw [List.length_set]; exact I.len, fun j s hj => ?_, fun j k b s t hjk h1 h2 o1 o2 h3 h4 => ?_, fun j k b c bs s xss h1 h2 h3 h4 h5 h6 => (non k xss h3).elim, fun j k xss yss h1 h2 => (non j xss h1).elim⟩, s1.trans s2⟩
  · by_cases e : i = j
    · subst e
      have z := set_at hj
      subst z
      exact ⟨some (.ref a), ha, .ref a, rfl, .lst upd_same (rr.mono s2)⟩
    · have hj0 := hj
      rw [get_set_ne e] at hj
      obtain ⟨o, q1, q2⟩ := I.at_ j s hj
      refine ⟨o, q1, ?_⟩
      cases q : s.o with
      | true =>
        obtain ⟨b, ob2, rfl, gb, hb0, hb, rb⟩ := q2.own q
        have nb := I.ds2 j i b a bs s xss hj q hi q1 ha h
        exact RepSlot.mk (by rw [upd_ne (fun z => nb (by rw [z]; exact List.mem_cons_self)), k b fun z => nb (List.mem_cons_of_mem _ z)]; exact gb) hb0 hb (rb.mono (s1.trans s2))
      | false =>
        cases s with
        | un => trivial
        | shr p =>
          obtain ⟨v, e1, rr⟩ := q2
          exact ⟨v, e1, rr.mono (s1.trans s2)⟩
        | own xs => cases q
        | owd ks vs => cases q
        | self a ns fs => exact RepSelf.mono (s1.trans s2) q2
        | ow2 yss => exact (non j yss hj0).elim
  · obtain ⟨n1, h1⟩ := key j s h1 (.inl o1)
    obtain ⟨n2, h2⟩ := key k t h2 (.inl o2)
    exact I.dis j k b s t hjk h1 h2 o1 o2 h3 h4
end
end Z
end
section
/-! Z: the small language, and what it computes. -/
namespace Z
open PySem PySem.Spec PyProof.Rows L2
inductive Bop where | add | sub | mul | fdv | mod | pow
  deriving DecidableEq
inductive Cop where | eq | ne | lt | le | gt | ge | isn | nisn | inn | nin
  deriving DecidableEq
inductive Ty where | int | bool | str | tuple | list
  deriving DecidableEq
/-- built-in functions -/
inductive Bi where | len | abs | min2 | max2 | min1 | max1 | sum | int | tuple | list | sorted | dict | ptuple
  deriving DecidableEq
/-- methods of texts -/
inductive Mt where | join | count
  deriving DecidableEq
/-- expressions, argument lists, targets, iterables, statements, blocks -/
inductive C where
  | v (i : Nat) | rd (i : Nat) | k (p : PV) | g (i : Nat)
  | bin (op : Bop) (a b : C) | neg (a : C) | nt (a : C) | cmp (op : Cop) (a b : C) | chn (op op' : Cop) (a b c : C) | an (a b : C) | or (a b : C) | ife (c a b : C)
  | tup (es : C) | dsp (es : C) | nil | cons (a as : C)
  | ix (a i : C) | sl (a lo hi : C) | nop | rev (a : C) | tl (a : C)
  | call (f : Nat) (es : C) | bi (b : Bi) (es : C) | isi (t : Ty) (e : C) | mt (m : Mt) (o e : C)
  | comp (vs : List Nat) (tg it cn el : C)
  | seq (e : C) | rng1 (a : C) | rng2 (a b : C) | rng3 (a b c : C) | enu (e : C) | zip (a b : C)
  | tn (i : Nat) | tt (ts : C)
  | sset (i : Nat) (e : C) | sown (i : Nat) (e : C) | sasg (tg e : C) | sapp (i : Nat) (e : C) | sext (i : Nat) (e : C) | sput (i : Nat) (ix e : C) | saug (i : Nat) (op : Bop) (e : C)
  | saux (i : Nat) (ix : C) (op : Bop) (e : C)
  | sexp (e : C) | sif (c a b : C) | sfor (tg it body : C) | swh (c body : C) | sret (e : C) | sreo (i : Nat) | sref (e : C) | srai (c : Nat) (es : C) | sfrz (i : Nat)
  | stry (body hs : C) | sbrk | scnt
  | snil | scons (s ss : C)
  /-- isinstance(e, class), e.field, e the error that is held -/
  | isx (c : Nat) | xf (c : Nat)
  /-- what is not told; a list's pop; except clauses -/
  | dk (kvs : List (PV × PV)) | get2 (d k e : C) | cfl (g : Nat) (f : Str) (es : C) | sf (i : Nat) (f : Str) | lsc (vs : List Nat) (tg it cn el : C) | lset (e : C) | sset' (e : C) | lr1 (a : C) | lr2 (a b : C) | zip3 (a b c : C) | unp (e : C) | chn3 (op op' op'' : Cop) (a b c d : C)
  /-- for tg in f(a, x.pop())[k] -/
  | sfp (tg : C) (i f : Nat) (a : C) (k : Int) (body : C)
  /-- for tg in a[x.pop()][k] -/
  | sfd (tg : C) (i : Nat) (a : C) (k : Int) (body : C)
  | sownd (i : Nat) (e : C) | sdput (i : Nat) (k e : C) | sfo (k : Nat) (fs : List Nat)
  /-- x = [[], ..]; x[ix].append(e); x[ix].extend(e) -/
  | sow0 (i j : Nat) | sow2 (i k : Nat) | sap2 (i : Nat) (ix e : C) | sex2 (i : Nat) (ix e : C)
  | jk | pick (kvs : List (Int × List Nat)) (e : C) | spop (i : Nat) (ix : C) | hn | hc (cls : Nat) (i : Option Nat) (s r : C)
  deriving Inhabited
/-! ### operations -/
def fits (n : Nat) : Bool := Nat.ble n 16777216
def mulOk (a b : Int) : Bool := Nat.blt a.natAbs 18446744073709551616 || Nat.blt b.natAbs 18446744073709551616 || Nat.blt (a.natAbs.log2 + b.natAbs.log2) 1000000
def divOk (b : Int) : Bool := decide (b ≠ 0) && Nat.blt b.natAbs.log2 9000
mutual
/-- == -/
def eqP : PV → PV → Bool
  | .non, .non => true
  | .bl a, .bl b => a == b
  | .bl a, .int j => (if a then 1 else 0) == j
  | .int i, .bl b => i == (if b then 1 else 0)
  | .int i, .int j => i == j
  | .str x, .str y => x == y
  | .tup xs, .tup ys => eqL xs ys
  | .lst xs, .lst ys => eqL xs ys
  | _, _ => false
def eqL : List PV → List PV → Bool
  | [], [] => true
  | x :: xs, y :: ys => eqP x y && eqL xs ys
  | _, _ => false
end
mutual
/-- no deeper than n -/
def dep : PV → Nat → Bool
  | .tup xs, n + 1 => depL xs n
  | .lst xs, n + 1 => depL xs n
  | .tup _, 0 => false
  | .lst _, 0 => false
  | .scr _, _ => false
  | .dct _ _, _ => false
  | .ptp _, _ => false
  | _, _ => true
def depL : List PV → Nat → Bool
  | [], _ => true
  | x :: xs, n => dep x n && depL xs n
end
mutual
/-- as data -/
def toD : PV → PyData
  | .non => .none
  | .bl b => .bool b
  | .int i => .int i
  | .str x => .str ⟨x.toArray⟩
  | .tup xs => .tuple (toDL xs)
  | .lst xs => .list (toDL xs)
  | .scr _ => .none
  | .dct _ _ => .none
  | .ptp _ => .none
def toDL : List PV → List PyData
  | [] => []
  | x :: xs => toD x :: toDL xs
end
def tupN : PV → Bool
  | .tup (_ :: _) => true
  | _ => false
def noTup : PV → Bool
  | .tup _ => false
  | .non => false
  | .scr _ => false
  | .dct _ _ => false
  | .ptp _ => false
  | _ => true
/-- can it be sorted? -/
def sortOk (xs : List PV) : Bool := depL xs 20 && (xs.all fun a => xs.all fun b => PySem.W.alike (toD a) (toD b)) && (xs.all tupN || xs.all noTup)
/-- can it be a key? -/
def keyB : PV → Bool
  | .int _ => true
  | .str _ => true
  | _ => false
def lookP : List PV → List PV → PV → Option PV
  | k :: ks, v :: vs, q => if eqP k q then some v else lookP ks vs q
  | _, _, _ => none
def hasP (ks : List PV) (q : PV) : Bool := ks.any fun k => eqP k q
def setP : List PV → List PV → PV → PV → List PV
  | k :: ks, v :: vs, q, x => (if eqP k q then x else v) :: setP ks vs q x
  | _, _, _, _ => []
/-- the values, behind d[q] = x -/
def dputP (ks vs : List PV) (q x : PV) : List PV := if hasP ks q then setP ks vs q x else vs ++ [x]
def kputP (ks : List PV) (q : PV) : List PV := if hasP ks q then ks else ks ++ [q]
def dictL : List PV → List PV → List PV → Res PV
  | ks, vs, [] => .ok (.dct ks vs)
  | ks, vs, .tup [k, v] :: r => if keyB k then dictL (kputP ks k) (dputP ks vs k v) r else .bad
  | _, _, _ => .bad
/-- without those that were there -/
def dedP (xs : List PV) : List PV := xs.foldl (fun acc x => if hasP acc x then acc else acc ++ [x]) []
def setOk (xs : List PV) : Bool := xs.all keyB && Nat.blt xs.length 1000
def strB : PV → Bool
  | .str _ => true
  | _ => false
def intB : PV → Bool
  | .int _ => true
  | _ => false
def sortK (ks : List PV) : Res PV := if (ks.all strB || ks.all intB) && Nat.blt ks.length 64 then .ok (.lst (ks.mergeSort (PySem.W.dataLe false toD))) else .bad
def binP : Bop → PV → PV → Res PV
  | .add, .int a, .int b => .ok (.int (a + b))
  | .add, .str a, .str b => if fits (a.length + b.length) then .ok (.str (a ++ b)) else .bad
  | .add, .tup a, .tup b => if fits (a.length + b.length) then .ok (.tup (a ++ b)) else .bad
  | .add, .lst a, .lst b => if fits (a.length + b.length) then .ok (.lst (a ++ b)) else .bad
  | .sub, .int a, .int b => .ok (.int (a - b))
  | .mul, .int a, .int b => if mulOk a b then .ok (.int (a * b)) else .bad
  | .mul, .str x, .int k => if decide (0 ≤ k) && Nat.ble k.toNat 16777216 && fits (x.length * k.toNat) then .ok (.str (List.replicate k.toNat x).flatten) else .bad
  | .mul, .tup x, .int k => if decide (0 ≤ k) && decide (k ≤ 1000) && Nat.ble x.length 1000 && !x.isEmpty then .ok (.tup (List.replicate k.toNat x).flatten) else .bad
  | .mul, .lst x, .int k => if decide (0 ≤ k) && fits (x.length * k.toNat) && Nat.ble k.toNat 16777216 then .ok (.lst (List.replicate k.toNat x).flatten) else .bad
  | .fdv, .int a, .int b => if divOk b then .ok (.int (a.fdiv b)) else .bad
  | .mod, .int a, .int b => if decide (b ≠ 0) then .ok (.int (a.fmod b)) else .bad
  | .pow, .int a, .int b => if decide (0 ≤ b) && decide (b ≤ 1000000) && Nat.blt a.natAbs 18446744073709551616 then .ok (.int (a ^ b.toNat)) else .bad
  | _, _, _ => .bad
/-- op= -/
def augP : Bop → PV → PV → Res PV
  | op, .int a, .int b => binP op (.int a) (.int b)
  | _, _, _ => .bad
def flatP : PV → Bool
  | .non | .bl _ | .int _ | .str _ => true
  | _ => false
def inP (x : PV) (xs : List PV) : Bool := xs.any fun y => eqP y x
def isNon : PV → Bool
  | .non => true
  | _ => false
def cmpP : Cop → PV → PV → Res PV
  | .eq, x, y => if dep x 20 && dep y 20 then .ok (.bl (eqP x y)) else .bad
  | .ne, x, y => if dep x 20 && dep y 20 then .ok (.bl (!eqP x y)) else .bad
  | .lt, .int a, .int b => .ok (.bl (decide (a < b)))
  | .le, .int a, .int b => .ok (.bl (decide (a ≤ b)))
  | .gt, .int a, .int b => .ok (.bl (decide (b < a)))
  | .ge, .int a, .int b => .ok (.bl (decide (b ≤ a)))
  | .lt, .str a, .str b => .ok (.bl (decide (a < b)))
  | .le, .str a, .str b => .ok (.bl (!decide (b < a)))
  | .gt, .str a, .str b => .ok (.bl (decide (b < a)))
  | .ge, .str a, .str b => .ok (.bl (!decide (a < b)))
  | .isn, x, .non => .ok (.bl (isNon x))
  | .nisn, x, .non => .ok (.bl (!isNon x))
  | .inn, .str [c], .str y => .ok (.bl (decide (c ∈ y)))
  | .nin, .str [c], .str y => .ok (.bl (!decide (c ∈ y)))
  | .inn, x, .lst ys => if dep x 20 && depL ys 20 then .ok (.bl (inP x ys)) else .bad
  | .nin, x, .lst ys => if dep x 20 && depL ys 20 then .ok (.bl (!inP x ys)) else .bad
  | .inn, x, .tup ys => if flatP x && ys.all flatP then .ok (.bl (inP x ys)) else .bad
  | .nin, x, .tup ys => if flatP x && ys.all flatP then .ok (.bl (!inP x ys)) else .bad
  | .inn, x, .dct ks _ => if keyB x then .ok (.bl (hasP ks x)) else .bad
  | .nin, x, .dct ks _ => if keyB x then .ok (.bl (!hasP ks x)) else .bad
  | _, _, _ => .bad
def truP : PV → Res Bool
  | .non => .ok false
  | .bl b => .ok b
  | .int i => .ok (i != 0)
  | .str x => .ok (!x.isEmpty)
  | .tup xs => .ok (!xs.isEmpty)
  | .lst xs => .ok (!xs.isEmpty)
  | .scr _ => .bad
  | .dct ks _ => .ok (!ks.isEmpty)
  | .ptp _ => .bad
def ixP : PV → PV → Res PV
  | .tup xs, .int i => match atI xs i with | some p => .ok p | none => .bad
  | .lst xs, .int i => match atI xs i with | some p => .ok p | none => .bad
  | .str x, .int i => match atI x i with | some c => .ok (.str [c]) | none => .bad
  | .scr ns, .int i => match atI ns i with | some n => .ok (.int n) | none => .bad
  | .dct ks vs, q => if keyB q then (match lookP ks vs q with | some p => .ok p | none => .bad) else .bad
  | _, _ => .bad
def sIx (n d : Nat) : Option Int → Nat := HT.sIx n d
def cutP {α : Type} (xs : List α) (lo hi : Option Int) : List α := (xs.drop (HT.sIx xs.length 0 lo)).take (HT.sIx xs.length xs.length hi - HT.sIx xs.length 0 lo)
def intP : PV → Res (Option Int)
  | .int i => .ok (some i)
  | _ => .bad
/-- a slice's part: left out, or an int -/
def partC : C → Res PV → Res (Option Int)
  | .nop, _ => .ok none
  | _, r => r.bind intP
def slV : PV → Option Int → Option Int → Res PV
  | .tup xs, l, h => .ok (.tup (cutP xs l h))
  | .lst xs, l, h => .ok (.lst (cutP xs l h))
  | .str xs, l, h => .ok (.str (cutP xs l h))
  | _, _, _ => .bad
/-- x[::-1] -/
def revP : PV → Res PV
  | .lst xs => .ok (.lst xs.reverse)
  | .tup xs => .ok (.tup xs.reverse)
  | _ => .bad
/-- x[:0:-1] -/
def tlP : PV → Res PV
  | .tup xs => .ok (.tup xs.tail.reverse)
  | _ => .bad
def isiP : Ty → PV → Bool
  | .int, .int _ => true
  | .int, .bl _ => true
  | .bool, .bl _ => true
  | .str, .str _ => true
  | .tuple, .tup _ => true
  | .tuple, .ptp _ => true
  | .list, .lst _ => true
  | .list, .scr _ => true
  | _, _ => false
def intsP : List PV → Option (List Int)
  | [] => some []
  | .int i :: r => (intsP r).map (i :: ·)
  | _ => none
def strsP : List PV → Option (List (List Nat))
  | [] => some []
  | .str i :: r => (strsP r).map (i :: ·)
  | _ => none
def maxL : Int → List Int → Int
  | m, [] => m
  | m, x :: r => maxL (if m < x then x else m) r
def minL : Int → List Int → Int
  | m, [] => m
  | m, x :: r => minL (if x < m then x else m) r
/-- names in their order -/
def sortN (ss : List (List Nat)) : List (List Nat) := ss.mergeSort fun a b => decide (a ≤ b)
def biP : Bi → List PV → Res PV
  | .len, [.str x] => .ok (.int x.length)
  | .len, [.tup x] => .ok (.int x.length)
  | .len, [.lst x] => .ok (.int x.length)
  | .len, [.scr x] => .ok (.int x.length)
  | .abs, [.int i] => .ok (.int (if i < 0 then -i else i))
  | .min2, [.int i, .int j] => .ok (.int (if j < i then j else i))
  | .max2, [.int i, .int j] => .ok (.int (if j > i then j else i))
  | .min1, [.lst xs] => match intsP xs with | some (n :: ns) => .ok (.int (minL n ns)) | _ => .bad
  | .max1, [.lst xs] => match intsP xs with | some (n :: ns) => .ok (.int (maxL n ns)) | _ => .bad
  | .min1, [.tup xs] => match intsP xs with | some (n :: ns) => .ok (.int (minL n ns)) | _ => .bad
  | .max1, [.tup xs] => match intsP xs with | some (n :: ns) => .ok (.int (maxL n ns)) | _ => .bad
  | .sorted, [.lst xs] => if sortOk xs then .ok (.lst (xs.mergeSort (PySem.W.dataLe false toD))) else .bad
  | .sum, [.lst xs] => match intsP xs with | some ns => .ok (.int ns.sum) | none => .bad
  | .int, [.int i] => .ok (.int i)
  | .int, [.bl b] => .ok (.int (if b then 1 else 0))
  | .tuple, [.lst xs] => .ok (.tup xs)
  | .tuple, [.tup xs] => .ok (.tup xs)
  | .list, [.lst xs] => .ok (.lst xs)
  | .list, [.tup xs] => .ok (.lst xs)
  | .len, [.dct ks _] => .ok (.int ks.length)
  | .dict, [.lst xs] => if fits xs.length then dictL [] [] xs else .bad
  | .sorted, [.dct ks _] => match strsP ks with | some ss => if Nat.blt ss.length 64 then .ok (.lst ((sortN ss).map PV.str)) else .bad | none => .bad
  | .ptuple, [.lst xs] => .ok (.ptp xs)
  | .dict, [.ptp xs] => if fits xs.length then dictL [] [] xs else .bad
  | _, _ => .bad
/-- a text, that a method is asked of -/
def strR : PV → Res PV
  | .str s => .ok (.str s)
  | _ => .bad
def cntP (c : Nat) : List Nat → Int
  | [] => 0
  | n :: r => (if n = c then 1 else 0) + cntP c r
/-- a dict display of ints and texts, at once subscripted -/
def pickP (kvs : List (Int × List Nat)) : PV → Res PV
  | .int i => match kvs.find? fun kv => decide (kv.1 = i) with
    | some kv => .ok (.str kv.2)
    | none => .bad
  | _ => .bad
def mtP : Mt → PV → PV → Res PV
  | .count, .str x, .str [c] => .ok (.int (cntP c x))
  | .join, .str s, .lst xs => match strsP xs with
    | some ys => if fits ((ys.map (·.length)).sum + ys.length * s.length) then .ok (.str (TL.joinL s ys)) else .bad
    | none => .bad
  | _, _, _ => .bad
/-- what a loop goes through -/
def itemsP : PV → Res PV
  | .tup xs => .ok (.lst xs)
  | .lst xs => .ok (.lst xs)
  | .str x => .ok (.lst (x.map fun c => .str [c]))
  | _ => .bad
def smallI (i : Int) : Bool := decide (-(2 ^ 62) ≤ i) && decide (i < 2 ^ 62)
def upL (lo : Int) : Nat → List PV
  | 0 => []
  | n + 1 => .int lo :: upL (lo + 1) n
def dnL (lo : Int) : Nat → List PV
  | 0 => []
  | n + 1 => .int lo :: dnL (lo - 1) n
def rngP (lo hi : PV) : Res PV := match lo, hi with
  | .int a, .int b => if smallI a && smallI b && fits (b - a).toNat then .ok (.lst (upL a (b - a).toNat)) else .bad
  | _, _ => .bad
def rng3P (lo hi st : PV) : Res PV := match lo, hi, st with
  | .int a, .int b, .int (-1) => if smallI a && smallI b && fits (a - b).toNat then .ok (.lst (dnL a (a - b).toNat)) else .bad
  | _, _, _ => .bad
def enuL : Nat → List PV → List PV
  | _, [] => []
  | n, x :: r => .tup [.int n, x] :: enuL (n + 1) r
def zipL : List PV → List PV → List PV
  | x :: xs, y :: ys => .tup [x, y] :: zipL xs ys
  | _, _ => []
def zipP : PV → PV → Res PV
  | .lst xs, .lst ys => .ok (.lst (zipL xs ys))
  | .tup xs, .tup ys => .ok (.lst (zipL xs ys))
  | _, _ => .bad
def enuP : PV → Res PV
  | .lst xs => .ok (.lst (enuL 0 xs))
  | .tup xs => .ok (.lst (enuL 0 xs))
  | _ => .bad
def zip3L : List PV → List PV → List PV → List PV
  | x :: xs, y :: ys, z :: zs => .tup [x, y, z] :: zip3L xs ys zs
  | _, _, _ => []
def zip3P : PV → PV → PV → Res PV
  | .tup xs, .tup ys, .tup zs => .ok (.lst (zip3L xs ys zs))
  | _, _, _ => .bad
/-- a dict, that a method is asked of -/
def dctR : PV → Res PV
  | .dct ks vs => .ok (.dct ks vs)
  | _ => .bad
def get2P : PV → PV → PV → Res PV
  | .dct ks vs, q, x => if keyB q then .ok ((lookP ks vs q).getD x) else .bad
  | _, _, _ => .bad
def fldL (f : Str) : List Str → List PV → Res PV
  | n :: ns, p :: ps => if n = f then .ok p else fldL f ns ps
  | _, _ => .bad
/-- len(set(..)), sorted(set(..)) -/
def lsetP : PV → Res PV
  | .lst xs => if setOk xs then .ok (.int (dedP xs).length) else .bad
  | _ => .bad
/-- as any tuple -/
def unpP : PV → Res PV
  | .ptp xs => .ok (.tup xs)
  | p => .ok p
def ded {α : Type} [DecidableEq α] (l : List α) : List α := l.foldl (fun acc x => if x ∈ acc then acc else acc ++ [x]) []
def sortI (ns : List Int) : List Int := ns.mergeSort fun a b => decide (a ≤ b)
def ssetP : PV → Res PV
  | .lst xs => match strsP xs with
    | some ss => if Nat.blt ss.length 4000 && Nat.blt (ded ss).length 64 then .ok (.lst ((sortN (ded ss)).map PV.str)) else .bad
    | none => match intsP xs with
      | some ns => if Nat.blt ns.length 4000 && Nat.blt (ded ns).length 64 then .ok (.lst ((sortI (ded ns)).map PV.int)) else .bad
      | none => .bad
  | _ => .bad
/-- a list's own items -/
def lstOf : PV → Res (List PV)
  | .lst xs => .ok xs
  | _ => .bad
/-! ### slots -/
def setS (ρ : List Slot) (i : Nat) (s : Slot) : List Slot := ρ.set i s
def wipeS (ρ : List Slot) : List Nat → List Slot
  | [] => ρ
  | i :: r => (wipeS ρ r).set i .un
/-- a value to a target -/
def asgP : C → PV → List Slot → Res (List Slot)
  | .tn i, p, ρ => .ok (ρ.set i (.shr p))
  | .tt ts, .tup xs, ρ => asgP ts (.tup xs) ρ
  | .tt ts, .lst xs, ρ => asgP ts (.tup xs) ρ
  | .nil, .tup [], ρ => .ok ρ
  | .cons t ts, .tup (x :: xs), ρ => (asgP t x ρ).bind fun ρ' => asgP ts (.tup xs) ρ'
  | _, _, _ => .bad
/-- what a call gives: a value, or a list of the caller's own -/
inductive RV where
  | shr (p : PV) | own (xs : List PV) | obj (ns : List Str) (fs : List PV)
def rvR : RV → Res PV
  | .shr p => .ok p
  | .own xs => .ok (.lst xs)
  | .obj _ _ => .bad
/-- a field of what is handed back -/
def rvF (f : Str) : RV → Res PV
  | .obj ns fs => fldL f ns fs
  | _ => .bad
/-- a comprehension: no error leaves it -/
def compL (f : PV → Res (Option PV)) : List PV → Res (List PV)
  | [] => .ok []
  | x :: r => match f x with
    | .ok (some y) => (compL f r).bind fun ys => .ok (y :: ys)
    | .ok none => compL f r
    | _ => .bad
abbrev Fns := Nat → List PV → Res RV
abbrev Cons := Nat → Option PV
def ev (φ : Fns) (κ : Cons) : C → List Slot → Res PV
  | .v i, ρ => match ρ[i]? with | some (.shr p) => .ok p | _ => .bad
  | .rd i, ρ => match ρ[i]? with | some (.shr p) => .ok p | some (.own xs) => .ok (.lst xs) | some (.owd ks vs) => .ok (.dct ks vs) | _ => .bad
  | .k p, _ => .ok p
  | .g i, _ => match κ i with | some p => .ok p | none => .bad
  | .bin op a b, ρ => (ev φ κ a ρ).bind fun x => (ev φ κ b ρ).bind fun y => binP op x y
  | .neg a, ρ => (ev φ κ a ρ).bind fun x => match x with | .int i => .ok (.int (-i)) | _ => .bad
  | .nt a, ρ => (ev φ κ a ρ).bind fun x => (truP x).bind fun t => .ok (.bl (!t))
  | .cmp op a b, ρ => (ev φ κ a ρ).bind fun x => (ev φ κ b ρ).bind fun y => cmpP op x y
  | .chn op op' a b c, ρ => (ev φ κ a ρ).bind fun x => (ev φ κ b ρ).bind fun y => (cmpP op x y).bind fun r => match r with
    | .bl true => (ev φ κ c ρ).bind fun z => cmpP op' y z
    | .bl false => .ok (.bl false)
    | _ => .bad
  | .an a b, ρ => (ev φ κ a ρ).bind fun x => (truP x).bind fun t => if t then ev φ κ b ρ else .ok x
  | .or a b, ρ => (ev φ κ a ρ).bind fun x => (truP x).bind fun t => if t then .ok x else ev φ κ b ρ
  | .ife c a b, ρ => (ev φ κ c ρ).bind fun x => (truP x).bind fun t => if t then ev φ κ a ρ else ev φ κ b ρ
  | .tup es, ρ => (ev φ κ es ρ).bind fun l => (lstOf l).bind fun xs => .ok (.tup xs)
  | .dsp es, ρ => (ev φ κ es ρ).bind fun l => (lstOf l).bind fun xs => .ok (.lst xs)
  | .nil, _ => .ok (.lst [])
  | .cons a as, ρ => (ev φ κ a ρ).bind fun x => (ev φ κ as ρ).bind fun l => (lstOf l).bind fun xs => .ok (.lst (x :: xs))
  | .ix a i, ρ => (ev φ κ a ρ).bind fun x => (ev φ κ i ρ).bind fun y => ixP x y
  | .sl a lo hi, ρ => (ev φ κ a ρ).bind fun x => (partC lo (ev φ κ lo ρ)).bind fun l => (partC hi (ev φ κ hi ρ)).bind fun h => slV x l h
  | .nop, _ => .ok .non
  | .rev a, ρ => (ev φ κ a ρ).bind revP
  | .tl a, ρ => (ev φ κ a ρ).bind tlP
  | .call f es, ρ => (ev φ κ es ρ).bind fun l => (lstOf l).bind fun xs => (φ f xs).bind rvR
  | .bi b es, ρ => (ev φ κ es ρ).bind fun l => (lstOf l).bind fun xs => biP b xs
  | .isi t e, ρ => (ev φ κ e ρ).bind fun x => .ok (.bl (isiP t x))
  | .mt m o e, ρ => (ev φ κ o ρ).bind fun x => (strR x).bind fun x => (ev φ κ e ρ).bind fun y => mtP m x y
  | .dk kvs, _ => .ok (.dct (kvs.map (·.1)) (kvs.map (·.2)))
  | .get2 d k e, ρ => (ev φ κ d ρ).bind fun x => (dctR x).bind fun x => (ev φ κ k ρ).bind fun y => (ev φ κ e ρ).bind fun z => get2P x y z
  | .sf i f, ρ => match ρ[i]? with | some (.self _ ns fs) => fldL f ns fs | _ => .bad
  | .cfl g f es, ρ => (ev φ κ es ρ).bind fun l => (lstOf l).bind fun xs => (φ g xs).bind fun r => rvF f r
  | .lsc vs tg it cn el, ρ => (ev φ κ it ρ).bind fun l => (lstOf l).bind fun xs =>
    (compL (fun x => (asgP tg x (wipeS ρ vs)).bind fun ρ' => (ev φ κ cn ρ').bind fun c => (truP c).bind fun t => if t then (ev φ κ el ρ').bind fun y => .ok (some y) else .ok none) xs).bind fun ys => lsetP (.lst ys)
  | .lset e, ρ => (ev φ κ e ρ).bind lsetP
  | .sset' e, ρ => (ev φ κ e ρ).bind ssetP
  | .unp e, ρ => (ev φ κ e ρ).bind unpP
  | .lr1 a, ρ => (ev φ κ a ρ).bind fun x => rngP (.int 0) x
  | .lr2 a b, ρ => (ev φ κ a ρ).bind fun x => (ev φ κ b ρ).bind fun y => rngP x y
  | .zip3 a b c, ρ => (ev φ κ a ρ).bind fun x => (ev φ κ b ρ).bind fun y => (ev φ κ c ρ).bind fun z => zip3P x y z
  | .chn3 op op' op'' a b c d, ρ => (ev φ κ a ρ).bind fun x => (ev φ κ b ρ).bind fun y => (cmpP op x y).bind fun r => match r with
    | .bl true => (ev φ κ c ρ).bind fun z => (cmpP op' y z).bind fun r' => (match r' with
      | .bl true => (ev φ κ d ρ).bind fun u => cmpP op'' z u
      | .bl false => .ok (.bl false)
      | _ => .bad)
    | .bl false => .ok (.bl false)
    | _ => .bad
  | .pick kvs e, ρ => (ev φ κ e ρ).bind fun x => pickP kvs x
  | .comp vs tg it cn el, ρ => (ev φ κ it ρ).bind fun l => (lstOf l).bind fun xs =>
    (compL (fun x => (asgP tg x (wipeS ρ vs)).bind fun ρ' => (ev φ κ cn ρ').bind fun c => (truP c).bind fun t => if t then (ev φ κ el ρ').bind fun y => .ok (some y) else .ok none) xs).bind fun ys => .ok (.lst ys)
  | .seq e, ρ => (ev φ κ e ρ).bind itemsP
  | .rng1 a, ρ => (ev φ κ a ρ).bind fun x => rngP (.int 0) x
  | .rng2 a b, ρ => (ev φ κ a ρ).bind fun x => (ev φ κ b ρ).bind fun y => rngP x y
  | .rng3 a b c, ρ => (ev φ κ a ρ).bind fun x => (ev φ κ b ρ).bind fun y => (ev φ κ c ρ).bind fun z => rng3P x y z
  | .enu e, ρ => (ev φ κ e ρ).bind enuP
  | .zip a b, ρ => (ev φ κ a ρ).bind fun x => (ev φ κ b ρ).bind fun y => zipP x y
  | _, _ => .bad
/-- how a statement ends -/
inductive Out where
  | nx (ρ : List Slot) | ret (r : RV) | bk (ρ : List Slot) | ct (ρ : List Slot) | exc (c : Nat) (p : Option PV) (ρ : List Slot) | bad
def lift {α : Type} (r : Res α) (ρ : List Slot) (f : α → Out) : Out := match r with
  | .ok a => f a
  | .exc c p => .exc c p ρ
  | .bad => .bad
def forL (f : PV → List Slot → Out) : List PV → List Slot → Out
  | [], ρ => .nx ρ
  | x :: xs, ρ => match f x ρ with
    | .nx ρ' => forL f xs ρ'
    | .ct ρ' => forL f xs ρ'
    | .bk ρ' => .nx ρ'
    | o => o
def whL (c : List Slot → Res Bool) (f : List Slot → Out) : Nat → List Slot → Out
  | 0, _ => .bad
  | n + 1, ρ => match c ρ with
    | .ok true => (match f ρ with
      | .nx ρ' => whL c f n ρ'
      | .ct ρ' => whL c f n ρ'
      | .bk ρ' => .nx ρ'
      | o => o)
    | .ok false => .nx ρ
    | .exc c p => .exc c p ρ
    | .bad => .bad
def ownAt (ρ : List Slot) (i : Nat) : Res (List PV) := match ρ[i]? with
  | some (.own xs) => .ok xs
  | _ => .bad
/-- a dict's own keys and values -/
def dctOf : PV → Res (List PV × List PV)
  | .dct ks vs => .ok (ks, vs)
  | _ => .bad
def ow2At (ρ : List Slot) (i : Nat) : Res (List (List PV)) := match ρ[i]? with
  | some (.ow2 xss) => .ok xss
  | _ => .bad
/-- which of the lists within, and what it holds -/
def in2 (xss : List (List PV)) : PV → Res (Nat × List PV)
  | .int n => match ixN xss.length n with
    | some m => (match xss[m]? with | some xs => .ok (m, xs) | none => .bad)
    | none => .bad
  | _ => .bad
def owdAt (ρ : List Slot) (i : Nat) : Res (List PV × List PV) := match ρ[i]? with
  | some (.owd ks vs) => .ok (ks, vs)
  | _ => .bad
/-- the parameters, as they were handed in -/
def parsOf : List Slot → List PV
  | .shr p :: r => p :: parsOf r
  | _ => []
/-! rows of letters (class Row): cells, notes -/
def rowNames : List PV → Res (List PV) := compL fun c => (ixP c (.int 0)).bind fun n => .ok (some n)
def rowFit (f : PV → Res PV) : Nat → List PV → Res (List Nat)
  | _, [] => .ok []
  | i, x :: r => match (f x).bind truP with
    | .ok t => (rowFit f (i + 1) r).bind fun ns => .ok (if t then i :: ns else ns)
    | _ => .bad
def rowPut (at_ : Nat) (cells : List PV) : PV → Res (List PV × Nat)
  | .tup [_, .tup here, _, .tup put] => match ((cells.drop at_).take here.length).head?, ((cells.drop at_).take here.length).getLast? with
    | some (.tup [_, f, _]), some (.tup [_, _, l]) => .ok (cells.take at_ ++ put.map (fun n => .tup [n, f, l]) ++ cells.drop (at_ + here.length), at_ + put.length)
    | _, _ => .bad
  | _ => .bad
def rowRun (φ : Fns) (g : Nat) (name : PV) (rules : List PV) : Nat → List PV → List PV → Nat → Res (List PV × List PV)
  | 0, cells, notes, at_ => if Nat.blt at_ cells.length then .bad else .ok (cells, notes)
  | k + 1, cells, notes, at_ => if Nat.blt at_ cells.length then
      (rowNames cells).bind fun row => (rowFit (fun r => (φ g [r, .lst row, .int at_]).bind rvR) 0 rules).bind fun ns => match ns with
        | [] => rowRun φ g name rules k cells notes (at_ + 1)
        | m :: _ => match rules[m]? with
          | some rule => (rowPut at_ cells rule).bind fun z => if fits z.1.length && fits (notes.length + 1) then rowRun φ g name rules k z.1 (notes ++ [.tup [name, .int m, .int at_]]) z.2 else .bad
          | none => .bad
    else .ok (cells, notes)
def rowAll (φ : Fns) (g : Nat) (on : PV) : List PV → List PV → List PV → Res (List PV × List PV)
  | [], cells, notes => .ok (cells, notes)
  | f :: r, cells, notes => ((ixP f (.int 0)).bind fun n => (cmpP .inn n on).bind truP).bind fun t => if t then (match f with
      | .tup [name, .tup rules] => (rowRun φ g name rules cells.length cells notes 0).bind fun z => rowAll φ g on r z.1 z.2
      | _ => .bad) else rowAll φ g on r cells notes
def rowStart : Nat → List PV → List PV
  | _, [] => []
  | i, n :: r => .tup [n, .int i, .int i] :: rowStart (i + 1) r
def rowP (φ : Fns) (g : Nat) : List PV → Res RV
  | [.tup fs, .lst on, .lst names] => (rowAll φ g (.lst on) fs (rowStart 0 names) []).bind fun z => .ok (.obj ["cells", "notes"] [.lst z.1, .lst z.2])
  | _ => .bad
/-- defs that are proved by hand: fs: the defs that they call -/
def foP : Nat → List Nat → Fns → List PV → Res RV
  | 0, [g], φ, ps => rowP φ g ps
  | _, _, _, _ => .bad
/-- in an except clause: c, p the error that is held -/
def evX (cx : Nat → Nat → Bool) (c : Nat) (p : Option PV) : C → Res PV
  | .k q => .ok q
  | .isx d => .ok (.bl (cx c d))
  | .xf d => match p with | some q => (if c == d then .ok q else .bad) | none => .bad
  | .nt a => (evX cx c p a).bind fun x => (truP x).bind fun t => .ok (.bl (!t))
  | .an a b => (evX cx c p a).bind fun x => (truP x).bind fun t => if t then evX cx c p b else .ok x
  | .ife d a b => (evX cx c p d).bind fun x => (truP x).bind fun t => if t then evX cx c p a else evX cx c p b
  | .tup es => (evX cx c p es).bind fun l => (lstOf l).bind fun xs => .ok (.tup xs)
  | .dsp es => (evX cx c p es).bind fun l => (lstOf l).bind fun xs => .ok (.lst xs)
  | .nil => .ok (.lst [])
  | .cons a as => (evX cx c p a).bind fun x => (evX cx c p as).bind fun l => (lstOf l).bind fun xs => .ok (.lst (x :: xs))
  | _ => .bad
/-- an except clause's suite: a value handed back, or put to a list -/
def suite0 (cx : Nat → Nat → Bool) (c : Nat) (p : Option PV) (i : Option Nat) : C → List Slot → Out
  | .sret e, _ => match evX cx c p e with
    | .ok q => .ret (.shr q)
    | _ => .bad
  | .sapp j e, ρ => match i with
    | none => .bad
    | some i => match evX cx c p e with
      | .ok q => lift (ownAt ρ j) ρ fun xs => if fits (xs.length + 1) && !(i == j) then .nx ((ρ.set j (.own (xs ++ [q]))).set i .un) else .bad
      | _ => .bad
  | _, _ => .bad
def okI' (i : Option Nat) (n : Nat) : Bool := match i with
  | none => true
  | some i => Nat.blt i n
def suiteX (cx : Nat → Nat → Bool) (c : Nat) (p : Option PV) (i : Option Nat) (s : C) (ρ : List Slot) : Out := if okI' i ρ.length then suite0 cx c p i s ρ else .bad
/-- the except clauses, one after the other -/
def handX (cx : Nat → Nat → Bool) (c : Nat) (p : Option PV) : C → List Slot → Out
  | .hn, ρ => .exc c p ρ
  | .hc cls i s r, ρ => if cx c cls then suiteX cx c p i s ρ else handX cx c p r ρ
  | _, _ => .bad
def shrOf : RV → Res PV
  | .shr p => .ok p
  | _ => .bad
def tupOf : PV → Res (List PV)
  | .tup xs => .ok xs
  | _ => .bad
/-- cx: whether the class with the one number is under the class with the other -/
def evS (φ : Fns) (κ : Cons) (cx : Nat → Nat → Bool) (wf : Nat) : C → List Slot → Out
  | .sset i e, ρ => lift (ev φ κ e ρ) ρ fun p => .nx (ρ.set i (.shr p))
  | .sown i (.call f es), ρ => lift ((ev φ κ es ρ).bind lstOf) ρ fun xs => lift (φ f xs) ρ fun r => match r with
    | .own ys => .nx (ρ.set i (.own ys))
    | _ => .bad
  | .sown i e, ρ => lift ((ev φ κ e ρ).bind lstOf) ρ fun xs => .nx (ρ.set i (.own xs))
  | .sasg tg e, ρ => lift (ev φ κ e ρ) ρ fun p => lift (asgP tg p ρ) ρ fun ρ' => .nx ρ'
  | .sapp i e, ρ => lift (ownAt ρ i) ρ fun xs => lift (ev φ κ e ρ) ρ fun p => if fits (xs.length + 1) then .nx (ρ.set i (.own (xs ++ [p]))) else .bad
  | .sext i e, ρ => lift (ownAt ρ i) ρ fun xs => lift ((ev φ κ e ρ).bind lstOf) ρ fun ys => if fits (xs.length + ys.length) then .nx (ρ.set i (.own (xs ++ ys))) else .bad
  | .sput i ix e, ρ => lift (ev φ κ e ρ) ρ fun p => lift (ownAt ρ i) ρ fun xs => lift (ev φ κ ix ρ) ρ fun j => match j with
    | .int n => (match ixN xs.length n with | some m => .nx (ρ.set i (.own (xs.set m p))) | none => .bad)
    | _ => .bad
  | .saug i op e, ρ => lift (ev φ κ (.v i) ρ) ρ fun x => lift (ev φ κ e ρ) ρ fun y => lift (augP op x y) ρ fun p => .nx (ρ.set i (.shr p))
  | .saux i ix op e, ρ => lift (ownAt ρ i) ρ fun xs => lift (ev φ κ ix ρ) ρ fun j => lift (ixP (.lst xs) j) ρ fun x => lift (ev φ κ e ρ) ρ fun y => lift (augP op x y) ρ fun p => match j with
    | .int n => (match ixN xs.length n with | some m => .nx (ρ.set i (.own (xs.set m p))) | none => .bad)
    | _ => .bad
  | .sexp e, ρ => lift (ev φ κ e ρ) ρ fun _ => .nx ρ
  | .sif c a b, ρ => lift ((ev φ κ c ρ).bind truP) ρ fun t => if t then evS φ κ cx wf a ρ else evS φ κ cx wf b ρ
  | .sfor tg it body, ρ => lift ((ev φ κ it ρ).bind lstOf) ρ fun xs => forL (fun x ρ' => lift (asgP tg x ρ') ρ' fun ρ'' => evS φ κ cx wf body ρ'') xs ρ
  | .sfp tg i f a k body, ρ => lift (ev φ κ a ρ) ρ fun v => lift (ownAt ρ i) ρ fun xs => match xs.getLast? with
    | none => .bad
    | some q => lift (φ f [v, q]) (ρ.set i (.own xs.dropLast)) fun r => lift ((shrOf r).bind fun p => (ixP p (.int k)).bind tupOf) (ρ.set i (.own xs.dropLast)) fun ys => forL (fun x ρ' => lift (asgP tg x ρ') ρ' fun ρ'' => evS φ κ cx wf body ρ'') ys (ρ.set i (.own xs.dropLast))
  | .sfd tg i a k body, ρ => lift (ev φ κ a ρ) ρ fun v => lift (ownAt ρ i) ρ fun xs => match xs.getLast? with
    | none => .bad
    | some q => lift ((ixP v q).bind fun p => (ixP p (.int k)).bind tupOf) (ρ.set i (.own xs.dropLast)) fun ys => forL (fun x ρ' => lift (asgP tg x ρ') ρ' fun ρ'' => evS φ κ cx wf body ρ'') ys (ρ.set i (.own xs.dropLast))
  | .swh c body, ρ => whL (fun ρ' => (ev φ κ c ρ').bind truP) (fun ρ' => evS φ κ cx wf body ρ') wf ρ
  | .sret e, ρ => lift (ev φ κ e ρ) ρ fun p => .ret (.shr p)
  | .sreo i, ρ => lift (ownAt ρ i) ρ fun xs => .ret (.own xs)
  | .sref e, ρ => lift ((ev φ κ e ρ).bind lstOf) ρ fun xs => .ret (.own xs)
  | .srai c .nil, ρ => .exc c none ρ
  | .srai c e, ρ => lift (ev φ κ e ρ) ρ fun p => .exc c (some p) ρ
  | .stry body hs, ρ => match evS φ κ cx wf body ρ with
    | .exc c p ρ' => handX cx c p hs ρ'
    | o => o
  | .spop i ix, ρ => lift (ownAt ρ i) ρ fun xs => lift (ev φ κ ix ρ) ρ fun j => match j with
    | .int n => (match ixN xs.length n with | some m => if smallI n then .nx (ρ.set i (.own (xs.eraseIdx m))) else .bad | none => .bad)
    | _ => .bad
  | .sownd i e, ρ => lift ((ev φ κ e ρ).bind dctOf) ρ fun kv => .nx (ρ.set i (.owd kv.1 kv.2))
  | .sdput i k e, ρ => lift (ev φ κ e ρ) ρ fun p => lift (owdAt ρ i) ρ fun kv => lift (ev φ κ k ρ) ρ fun q => if keyB q && fits (kv.1.length + 1) then .nx (ρ.set i (.owd (kputP kv.1 q) (dputP kv.1 kv.2 q p))) else .bad
  | .sow0 i j, ρ => .nx ((ρ.set i (.own [])).set j (.own []))
  | .sow2 i k, ρ => if no2 ρ i && Nat.ble k 1000 then .nx (ρ.set i (.ow2 (List.replicate k []))) else .bad
  | .sap2 i ix e, ρ => lift (ow2At ρ i) ρ fun xss => lift (ev φ κ ix ρ) ρ fun j => lift (in2 xss j) ρ fun mx => lift (ev φ κ e ρ) ρ fun p => if fits (mx.2.length + 1) then .nx (ρ.set i (.ow2 (xss.set mx.1 (mx.2 ++ [p])))) else .bad
  | .sex2 i ix e, ρ => lift (ow2At ρ i) ρ fun xss => lift (ev φ κ ix ρ) ρ fun j => lift (in2 xss j) ρ fun mx => lift ((ev φ κ e ρ).bind lstOf) ρ fun ys => if fits (mx.2.length + ys.length) then .nx (ρ.set i (.ow2 (xss.set mx.1 (mx.2 ++ ys)))) else .bad
  | .sfo k fs, ρ => match foP k fs φ (parsOf ρ) with
    | .ok r => .ret r
    | .exc c p => .exc c p ρ
    | .bad => .bad
  | .sfrz i, ρ => match ρ[i]? with
    | some (.own xs) => .nx (ρ.set i (.shr (.lst xs)))
    | some (.owd ks vs) => .nx (ρ.set i (.shr (.dct ks vs)))
    | some (.shr p) => .nx ρ
    | some (.ow2 xss) => .nx (ρ.set i (.shr (.lst (xss.map PV.lst))))
    | _ => .bad
  | .sbrk, ρ => .bk ρ
  | .scnt, ρ => .ct ρ
  | .snil, ρ => .nx ρ
  | .scons s ss, ρ => match evS φ κ cx wf s ρ with
    | .nx ρ' => evS φ κ cx wf ss ρ'
    | o => o
  | _, _ => .bad
/-- a def: how many parameters, how many names, its body -/
structure FnD where
  np : Nat
  ns : Nat
  body : C
def fin : Out → Res RV
  | .ret r => .ok r
  | .nx _ => .ok (.shr .non)
  | .exc c p _ => .exc c p
  | _ => .bad
def startS (d : FnD) (ps : List PV) : List Slot := ps.map Slot.shr ++ List.replicate (d.ns - d.np) Slot.un
def callN (TT : Nat → Option FnD) (κ : Cons) (cx : Nat → Nat → Bool) (wf : Nat) : Nat → Fns
  | 0, _, _ => .bad
  | n + 1, f, ps => match TT f with
    | some d => if Nat.beq ps.length d.np then fin (evS (callN TT κ cx wf n) κ cx wf d.body (startS d ps)) else .bad
    | none => .bad
end Z
end
section
/-! Z: the operations of the small language are those of the machine. -/
/-! a tuple, times one or times nought -/
namespace L2
open PySem PySem.Spec PyProof.Rows
theorem tup_same (l : Addr) (items : Array Value) (n : Nat) (dd : Option Addr) (sl : Array (Option Value)) (u : Tok) :
    Meets (Builtin.«tuple.__mul__» ⟨[.ref l, .int 1 u], []⟩) (fun _ R s => s.heap.get? l = some { cls := .type "tuple", dict := dd, data := .seq items n, slots := sl } ∧ R (.ok (.ret (Value.ref l))) s) :=
  .of_wp fun prog w A R sh hq => by
    obtain ⟨hp0, g0, d0, tk0, os0⟩ := sh
    obtain ⟨hget, hq⟩ := hq
    have hix := AutoSeq1.idx_int
    wp_walk using wpAny_loadPart' hget
    have k0 : (decide ((1 : Int) < -(2 ^ 63)) || decide ((1 : Int) ≥ 2 ^ 63)) = false := by decide
    have k1 : (items.isEmpty || (1 : Int) == 1) = true := by rw [Bool.or_eq_true]; exact .inr rfl
    repeat (first
      | (refine wpAny_ite_false (decide_eq_false (by rw [k0]; exact Bool.false_ne_true)) ?_; wp_walk using wpAny_loadPart' hget)
      | (refine wpAny_ite_true (decide_eq_true k1) ?_; wp_walk using wpAny_loadPart' hget))
    exact ⟨_, rfl, hq⟩
theorem tup_none (l : Addr) (items : Array Value) (n : Nat) (dd : Option Addr) (sl : Array (Option Value)) (u : Tok) (hi : items.isEmpty = false) :
    Meets (Builtin.«tuple.__mul__» ⟨[.ref l, .int 0 u], []⟩) (fun _ R s => s.heap.get? l = some { cls := .type "tuple", dict := dd, data := .seq items n, slots := sl } ∧
      R (.ok (.ret (Value.ref s.heap.objs.size))) { s with heap := s.heap.push { cls := Value.type "tuple", data := Data.seq #[] }, toks := s.toks }) :=
  .of_wp fun prog w A R sh hq => by
    obtain ⟨hp0, g0, d0, tk0, os0⟩ := sh
    obtain ⟨hget, hq⟩ := hq
    have hix := AutoSeq1.idx_int
    wp_walk using wpAny_loadPart' hget
    have k0 : (decide ((0 : Int) < -(2 ^ 63)) || decide ((0 : Int) ≥ 2 ^ 63)) = false := by decide
    have k1 : (items.isEmpty || (0 : Int) == 1) = false := by rw [hi]; rfl
    have k2 : (decide ((0 : Int) ≤ 0) || items.isEmpty) = true := by rw [hi]; rfl
    have k3 : ((#[] : Array Value)).size ≤ sizeLine := Nat.zero_le _
    repeat (first
      | (refine wpAny_ite_false (decide_eq_false (by rw [k0]; exact Bool.false_ne_true)) ?_; wp_walk using wpAny_loadPart' hget)
      | (refine wpAny_ite_false (decide_eq_false (by rw [k1]; exact Bool.false_ne_true)) ?_; wp_walk using wpAny_loadPart' hget)
      | (refine wpAny_ite_true (decide_eq_true k2) ?_; wp_walk using wpAny_loadPart' hget)
      | (refine wpAny_ite_false (decide_eq_false (Nat.not_lt.mpr k3)) ?_; wp_walk using wpAny_loadPart' hget))
    exact ⟨_, rfl, hq⟩
def rOneT (K : PySem.W.Frag) : R2 := fun x y H Q => ∃ l xs, x = .ref l ∧ y = .int 1 ∧ SqT K H l xs ∧ Q (.ref l) H
def rNonT (K : PySem.W.Frag) : R2 := fun x y H Q => ∃ l xs, x = .ref l ∧ y = .int 0 ∧ SqT K H l xs ∧ xs ≠ [] ∧ ∀ p, H p = none → Q (.ref p) (upd H p (.tup []))
section
variable {X : Cx}
theorem op_oneT : OpR X (binaryOp .Mult) (rOneT X.K) := by
  intro pins s σ H x y v u Q J rx ry hq
  obtain ⟨l, xs, rfl, rfl, hT, q⟩ := hq
  cases rx
  obtain ⟨tk, rfl⟩ := ry
  obtain ⟨its, r, ⟨⟨cls, dd, data, sl⟩, ho, hc, n, hd⟩, hs⟩ := J.tuple hT
  simp only at hc hd
  subst hc hd
  exact wpAny_binaryOp_repeat_ref (T := "tuple") (U := "int") (by decide) ⟨_, ho, rfl⟩ (fun s' => typeIs_int s' 1 tk) noFill_tuple_mul F.fills_int_mul F.slot_int_rmul repeat_tuple F.slot_int_index.lookup
    (call_meets F.slot_int_rmul (typeIs_int s 1 tk) F.entry_int_rmul (F.args_int_rmul_2 _ _) (int_rmul_tuple 1 tk l its.toArray n dd sl)
      ⟨ho, rfl, ⟨_, ho, rfl⟩, call_meets F.slot_tuple_mul ⟨_, ho, rfl⟩ F.entry_tuple_mul (F.args_tuple_mul_2 _ _) (tup_same l its.toArray n dd sl tk) ⟨ho, ⟨.ref l, H, J, rfl, q⟩⟩⟩)
theorem op_nonT : OpR X (binaryOp .Mult) (rNonT X.K) := by
  intro pins s σ H x y v u Q J rx ry hq
  obtain ⟨l, xs, rfl, rfl, hT, hne, q⟩ := hq
  cases rx
  obtain ⟨tk, rfl⟩ := ry
  obtain ⟨its, r, ⟨⟨cls, dd, data, sl⟩, ho, hc, n, hd⟩, hs⟩ := J.tuple hT
  simp only at hc hd
  subst hc hd
  have hi : its.toArray.isEmpty = false := by
    have hle := r.length
    cases its with
    | nil => exact absurd (List.eq_nil_of_length_eq_zero hle) hne
    | cons a b => rfl
  refine wpAny_binaryOp_repeat_ref (T := "tuple") (U := "int") (by decide) ⟨_, ho, rfl⟩ (fun s' => typeIs_int s' 0 tk) noFill_tuple_mul F.fills_int_mul F.slot_int_rmul repeat_tuple F.slot_int_index.lookup
    (call_meets F.slot_int_rmul (typeIs_int s 0 tk) F.entry_int_rmul (F.args_int_rmul_2 _ _) (int_rmul_tuple 0 tk l its.toArray n dd sl)
      ⟨ho, rfl, ⟨_, ho, rfl⟩, call_meets F.slot_tuple_mul ⟨_, ho, rfl⟩ F.entry_tuple_mul (F.args_tuple_mul_2 _ _) (tup_none l its.toArray n dd sl tk hi) ⟨ho, ?_⟩⟩)
  refine ⟨.ref s.heap.objs.size, _, J.laid (t' := s.toks) (o := .tup []) (fun b ob q => Heap.get?_push_of_some _ q) (Nat.le_refl _) ?_, rfl, q _ (J.hok.fresh (Nat.le_refl _))⟩
  exact ⟨Nat.zero_le _, [], .nil, IsTup.new _ _⟩
end
end L2
namespace Z
open PySem PySem.Spec PyProof.Rows L2
/-- to be read: frozen, or a list of one's own -/
def RepX (K : PySem.W.Frag) (G H : Hp) (v : V) (p : PV) : Prop := Rep K G v p ∨ (∃ a vs xs, v = .ref a ∧ p = .lst xs ∧ H a = some (.lst vs) ∧ Reps K G vs xs) ∨
  ∃ (a : Addr) (kvs : List (Key × V)) (ks vs : List PV), v = .ref a ∧ p = .dct ks vs ∧ H a = some (.dK kvs) ∧ Reps K G (kvs.map fun kv => kV kv.1) ks ∧ Reps K G (kvs.map fun kv => kv.2) vs
section
variable {K : PySem.W.Frag} {G G' H H' : Hp} {v : V} {p : PV}
theorem RepX.mono (h : RepX K G H v p) (e : Ext G H G' H') : RepX K G' H' v p := by
  rcases h with h | ⟨a, vs, xs, rfl, rfl, h, r⟩ | ⟨a, kvs, ks, vs, rfl, rfl, h, r, q⟩
  · exact .inl (h.mono e.gs)
  · exact .inr (.inl ⟨a, vs, xs, rfl, rfl, e.hs _ _ h, r.mono e.gs⟩)
  · exact .inr (.inr ⟨a, kvs, ks, vs, rfl, rfl, e.hs _ _ h, r.mono e.gs, q.mono e.gs⟩)
theorem RepX.rep (h : RepX K G H v p) (n1 : ∀ xs, p ≠ .lst xs) (n2 : ∀ ks vs, p ≠ .dct ks vs) : Rep K G v p := by
  rcases h with h | ⟨a, vs, xs, rfl, e, h, r⟩ | ⟨a, kvs, ks, vs, rfl, e, h, r, q⟩
  · exact h
  · exact absurd e (n1 _)
  · exact absurd e (n2 _ _)
theorem RepX.int {i : Int} (h : RepX K G H v (.int i)) : v = .int i := by
  cases h.rep (fun _ z => nomatch z) (fun _ _ z => nomatch z); rfl
theorem RepX.bl {i : Bool} (h : RepX K G H v (.bl i)) : v = .bl i := by
  cases h.rep (fun _ z => nomatch z) (fun _ _ z => nomatch z); rfl
theorem RepX.non (h : RepX K G H v .non) : v = .non := by
  cases h.rep (fun _ z => nomatch z) (fun _ _ z => nomatch z); rfl
theorem RepX.str {x : List Nat} (h : RepX K G H v (.str x)) : v = strV x ∧ (∀ c ∈ x, c < 1114112) ∧ x.length ≤ sizeLine := by
  cases h.rep (fun _ z => nomatch z) (fun _ _ z => nomatch z); exact ⟨rfl, by assumption, by assumption⟩
theorem RepX.tup {xs : List PV} (h : RepX K G H v (.tup xs)) (s : Same G H) : ∃ a vs, v = .ref a ∧ SqT K G a vs ∧ SqT K H a vs ∧ Reps K G vs xs := by
  cases h.rep (fun _ z => nomatch z) (fun _ _ z => nomatch z) with
  | tup q r => exact ⟨_, _, rfl, q, Same.tup s q, r⟩
theorem RepX.lst {xs : List PV} (h : RepX K G H v (.lst xs)) (s : Same G H) : ∃ a vs, v = .ref a ∧ H a = some (.lst vs) ∧ Reps K G vs xs := by
  rcases h with h | ⟨a, vs, xs, rfl, e, h, r⟩ | ⟨a, kvs, ks, vs, rfl, e, h, r, q⟩
  · cases h with
    | lst q r => exact ⟨_, _, rfl, s _ _ q, r⟩
  · cases e; exact ⟨a, vs, rfl, h, r⟩
  · cases e
theorem RepX.dct {ks vs : List PV} (h : RepX K G H v (.dct ks vs)) (s : Same G H) : ∃ (a : Addr) (kvs : List (Key × V)), v = .ref a ∧ H a = some (.dK kvs) ∧ Reps K G (kvs.map fun kv => kV kv.1) ks ∧ Reps K G (kvs.map fun kv => kv.2) vs := by
  rcases h with h | ⟨a, vs, xs, rfl, e, h, r⟩ | ⟨a, kvs, ks, vs, rfl, e, h, r, q⟩
  · cases h with
    | dct q r r2 => exact ⟨_, _, rfl, s _ _ q, r, r2⟩
  · cases e
  · cases e; exact ⟨a, kvs, rfl, h, r, q⟩
theorem RepX.ptp {xs : List PV} (h : RepX K G H v (.ptp xs)) (s : Same G H) : ∃ a o vs, v = .ref a ∧ G a = some (.frz o (.tup vs)) ∧ H a = some (.frz o (.tup vs)) ∧ o.dict = none ∧ Reps K G vs xs := by
  cases h.rep (fun _ z => nomatch z) (fun _ _ z => nomatch z) with
  | ptp q d r => exact ⟨_, _, _, rfl, q, s _ _ q, d, r⟩
theorem RepX.scr {ns : List Int} (h : RepX K G H v (.scr ns)) (s : Same G H) : ∃ a, v = .ref a ∧ SqL K H a (ns.map V.int) := by
  cases h.rep (fun _ z => nomatch z) (fun _ _ z => nomatch z) with
  | scr q => exact ⟨_, rfl, s.seq q⟩
end
theorem fits_le {n : Nat} (h : fits n = true) : n ≤ sizeLine := Nat.le_of_ble_eq_true h
/-- errors: the class with a number, its name; its field's name -/
abbrev Ends1 := Nat → Option PV → Value → Option Addr → Hp → Hp → Prop
/-- what a computation promises: W: what is wanted of an error -/
def GE (K : PySem.W.Frag) (XI : Ends1) (W : WX) (G H : Hp) (σ : L2.St) (r : Res PV) (Q : VK) : Prop := match r with
  | .ok p => ∀ G' H' v, Ext G H G' H' → Rep K G' v p → Q v H'
  | .exc c p => ∀ G' H' cls d, Ext G H G' H' → XI c p cls d G' H' → W cls d σ H'
  | .bad => False
/-- the machine's operation, as it is -/
def opCan (X : Cx) (f : Value → Value → Sem Value) : R2 := fun x y H Q => ∀ (pins : List (Addr × Obj)) (s : Shared) (σ : L2.St) (v u : Value), Inv X pins σ H s → RelV x v → RelV y u → wpAny (model X.prog X.w) X.A (f v u) (EP X pins σ Q) X.xe s
theorem opCan_ok (X : Cx) (f : Value → Value → Sem Value) : OpR X f (opCan X f) := fun pins s σ H x y v u Q I rx ry h => h pins s σ v u I rx ry
theorem opCan_of {X : Cx} {f : Value → Value → Sem Value} {r : R2} (h : OpR X f r) {x y : V} {H : Hp} {Q : VK} (q : r x y H Q) : opCan X f x y H Q := fun pins s σ v u I rx ry => h pins s σ H x y v u Q I rx ry q
def bopE : Bop → Operator
  | .add => .Add | .sub => .Sub | .mul => .Mult | .fdv => .FloorDiv | .mod => .Mod | .pow => .Pow
section
variable {X : Cx} {W : WX} {XI : Ends1} {G H : Hp} {σ : L2.St} {x y : V} {p q : PV} {Q : VK}
theorem GE.now {r : PV} (h : GE X.K XI W G H σ (.ok r) Q) (s : Same G H) {v : V} (rv : Rep X.K G v r) : Q v H := h G H v (Ext.refl s) rv
theorem GE.lay {r : PV} {o : HO} (h : GE X.K XI W G H σ (.ok r) Q) (s : Same G H) {a : Addr} (ha : H a = none) (rv : Rep X.K (upd G a o) (.ref a) r) : Q (.ref a) (upd H a o) := h _ _ _ (Ext.new s ha) rv
theorem repLst {vs : List V} {xs : List PV} {a : Addr} (r : Reps X.K G vs xs) (ha : G a = none) : Rep X.K (upd G a (.lst vs)) (.ref a) (.lst xs) := .lst upd_same (r.mono (same_upd ha))
theorem repTup {vs : List V} {xs : List PV} {a : Addr} (r : Reps X.K G vs xs) (ha : G a = none) : Rep X.K (upd G a (.tup vs)) (.ref a) (.tup xs) := .tup (.inl (.inl upd_same)) (r.mono (same_upd ha))
theorem nil_of {vs : List V} {xs : List PV} (r : Reps X.K G vs xs) (h : vs = []) : xs = [] := by subst h; cases r; rfl
theorem fold_rep (z : List Nat) : ∀ (k : Nat) (acc : List Nat), (List.replicate k z.toArray).foldl (· ++ ·) acc.toArray = (acc ++ (List.replicate k z).flatten).toArray
  | 0, acc => by simp
  | k + 1, acc => by
    rw [List.replicate_succ, List.foldl_cons, List.replicate_succ, List.flatten_cons]
    have e : acc.toArray ++ z.toArray = (acc ++ z).toArray := by simp
    rw [e, fold_rep z k (acc ++ z), List.append_assoc]
theorem rep_len (z : List Nat) : ∀ k : Nat, (List.replicate k z).flatten.length = z.length * k
  | 0 => by simp
  | k + 1 => by
    rw [List.replicate_succ, List.flatten_cons, List.length_append, rep_len z k, Nat.mul_succ, Nat.add_comm]
def rMulS : R2 := fun x y H Q => ∃ (z : List Nat) (k : Int), x = strV z ∧ y = .int k ∧ 0 ≤ k ∧ k ≤ 16777216 ∧ z.length * k.toNat ≤ 16777216 ∧ Q (strV (List.replicate k.toNat z).flatten) H
theorem op_mulS {X : Cx} : OpR X (binaryOp .Mult) rMulS := by
  intro pins s σ H x y v u Q I rx ry h
  obtain ⟨z, k, rfl, rfl, h0, h1, h2, q⟩ := h
  obtain ⟨t, rfl⟩ := rx
  obtain ⟨t', rfl⟩ := ry
  have hl : (⟨z.toArray⟩ : Str).length = z.length := by simp [Str.length]
  have e0 : (List.replicate k.toNat z.toArray).foldl (· ++ ·) #[] = (List.replicate k.toNat z).flatten.toArray := by
    have := fold_rep z k.toNat []
    rwa [List.nil_append] at this
  have lf := rep_len z k.toNat
  refine P.mul_str ?_ (fun n1 n2 => ?_) (fun n1 n2 => ?_) ?_
  · rw [decide_eq_false (by omega), decide_eq_false (by omega)]; rfl
  · rw [hl]
    have hk : 0 < k := by omega
    have hz : (z.length : Int) ≤ 16777216 := by
      have : z.length * 1 ≤ z.length * k.toNat := Nat.mul_le_mul_left _ (by omega)
      omega
    have hd : (16777216 : Int) ≤ (2 ^ 63 - 1) / k := by
      rw [Int.le_ediv_iff_mul_le hk]
      have : (16777216 : Int) * k ≤ 16777216 * 16777216 := Int.mul_le_mul_of_nonneg_left h1 (by decide)
      omega
    omega
  · rw [hl]
    unfold Builtin.Str.tooLong
    exact decide_eq_false (by show ¬ (z.length * k.toNat > 16777216); omega)
  · split
    · have hk : k = 0 := by omega
      subst hk
      exact ⟨by decide, ⟨strV [], H, I.tok _, ⟨_, rfl⟩, q⟩⟩
    · split
      · rename_i hn hh
        rw [hl, Bool.or_eq_true] at hh
        have e : (List.replicate k.toNat z).flatten = z := by
          rcases hh with hh | hh
          · have : k = 1 := eq_of_beq hh
            subst this
            simp
          · have : z.length = 0 := eq_of_beq hh
            have : z = [] := List.eq_nil_of_length_eq_zero this
            subst this
            simp
        rw [e] at q
        exact ⟨strV z, H, I, ⟨_, rfl⟩, q⟩
      · refine ⟨?_, ⟨strV (List.replicate k.toNat z).flatten, H, I.tok _, ⟨s.toks, ?_⟩, q⟩⟩
        · rw [e0]
          show (List.replicate k.toNat z).flatten.toArray.size ≤ sizeLine
          rw [List.size_toArray, lf]
          exact h2
        · rw [e0]
/-- // of wide ints, below nought too -/
theorem op_fdivG {X : Cx} : OpR X (binaryOp .FloorDiv) (rI (fun _ j => j ≠ 0 ∧ j.natAbs.log2 < 9000) fun i j => .int (i.fdiv j)) := opI fun _ _ _ _ _ _ _ hc q => floordiv_int hc.1 q (.inl (PyProof.noPylong_of_log2 hc.2))
theorem bin_ok (op : Bop) (s : Same G H) (rx : RepX X.K G H x p) (ry : RepX X.K G H y q) (h : GE X.K XI W G H σ (binP op p q) Q) : opCan X (binaryOp (bopE op)) x y H Q := by
  unfold binP at h
  split at h
  · -- add ints
    cases rx.int; cases ry.int
    exact opCan_of op_add ⟨_, _, rfl, rfl, h.now s (.int _)⟩
  · -- add strs
    rename_i xa ya
    obtain ⟨rfl, h1, _⟩ := rx.str
    obtain ⟨rfl, h2, _⟩ := ry.str
    split at h
    · rename_i hf
      refine opCan_of op_add_str ⟨_, _, rfl, rfl, ?_, ?_⟩
      · have := fits_le hf
        simpa [Str.length] using this
      · have e : ((⟨xa.toArray⟩ : Str) ++ (⟨ya.toArray⟩ : Str)) = ⟨(xa ++ ya).toArray⟩ := by
          show Str.append _ _ = _
          unfold Str.append
          simp
        rw [e]
        refine h.now s (.str _ (fun c hc => ?_) ?_)
        · rcases List.mem_append.mp hc with hc | hc
          · exact h1 c hc
          · exact h2 c hc
        · rw [List.length_append]; exact fits_le hf
    · exact h.elim
  · -- add tuples
    obtain ⟨a, vs, rfl, sg, sh, r1⟩ := rx.tup s
    obtain ⟨b, ws, rfl, tg, th, r2⟩ := ry.tup s
    split at h
    · rename_i hf
      have hl : vs.length + ws.length ≤ sizeLine := by rw [r1.length, r2.length]; exact fits_le hf
      refine opCan_of op_catA ⟨_, _, _, _, rfl, rfl, sh, th, hl, fun e => ?_, fun _ e => ?_, fun _ _ c hc => ?_⟩
      · have := nil_of r1 e
        subst this
        exact h.now s (.tup tg (by simpa using r2))
      · have := nil_of r2 e
        subst this
        exact h.now s (.tup sg (by simpa using r1))
      · exact h.lay s hc (repTup (r1.append r2) (s.free hc))
    · exact h.elim
  · -- add lists
    obtain ⟨a, vs, rfl, ha, r1⟩ := rx.lst s
    obtain ⟨b, ws, rfl, hb, r2⟩ := ry.lst s
    split at h
    · rename_i hf
      refine opCan_of op_cat ⟨_, _, _, _, rfl, rfl, ha, hb, by rw [r1.length, r2.length]; exact fits_le hf, fun c hc => ?_⟩
      exact h.lay s hc (repLst (r1.append r2) (s.free hc))
    · exact h.elim
  · -- sub
    cases rx.int; cases ry.int
    exact opCan_of op_sub ⟨_, _, rfl, rfl, h.now s (.int _)⟩
  · -- mul
    cases rx.int; cases ry.int
    rename_i a b
    split at h
    · rename_i hf
      unfold mulOk at hf
      simp only [Bool.or_eq_true] at hf
      rcases hf with (hf | hf) | hf
      · have h1 : a.natAbs < 2 ^ 64 := Nat.le_of_ble_eq_true hf
        exact opCan_of op_mul ⟨_, _, rfl, rfl, .inl ⟨by omega, by omega⟩, h.now s (.int _)⟩
      · have h1 : b.natAbs < 2 ^ 64 := Nat.le_of_ble_eq_true hf
        exact opCan_of op_mul ⟨_, _, rfl, rfl, .inr ⟨by omega, by omega⟩, h.now s (.int _)⟩
      · have h1 : a.natAbs.log2 + b.natAbs.log2 < 1000000 := Nat.le_of_ble_eq_true hf
        exact opCan_of op_mulW ⟨_, _, rfl, rfl, h1, h.now s (.int _)⟩
    · exact h.elim
  · -- str * int
    rename_i z k
    obtain ⟨rfl, h1, _⟩ := rx.str
    cases ry.int
    split at h
    · rename_i hf
      simp only [Bool.and_eq_true, decide_eq_true_eq] at hf
      obtain ⟨⟨a1, a2⟩, a3⟩ := hf
      have a2 := Nat.le_of_ble_eq_true a2
      have a3 := fits_le a3
      refine opCan_of op_mulS ⟨z, k, rfl, rfl, a1, by omega, a3, h.now s (.str _ (fun c hc => ?_) ?_)⟩
      · rw [List.mem_flatten] at hc
        obtain ⟨l, hl, hc⟩ := hc
        rw [List.eq_of_mem_replicate hl] at hc
        exact h1 c hc
      · rw [rep_len]
        exact a3
    · exact h.elim
  · -- tup * int
    split at h
    · rename_i hf
      obtain ⟨a, vs, rfl, sg, sh, r1⟩ := rx.tup s
      cases ry.int
      simp only [Bool.and_eq_true, decide_eq_true_eq, Bool.not_eq_true', List.isEmpty_eq_false_iff] at hf
      obtain ⟨⟨⟨h2, h3⟩, h4⟩, h5⟩ := hf
      rename_i kk
      by_cases hk0 : kk = 0
      · subst hk0
        refine opCan_of op_nonT ⟨_, _, rfl, rfl, sh, fun e => h5 (nil_of r1 e), fun c hc => ?_⟩
        exact h.lay s hc (repTup .nil (s.free hc))
      · by_cases hk1 : kk = 1
        · subst hk1
          refine opCan_of op_oneT ⟨_, _, rfl, rfl, sh, ?_⟩
          have e1 : ∀ zs : List PV, (List.replicate (1 : Int).toNat zs).flatten = zs := fun zs => by
            show zs ++ [] = zs
            exact List.append_nil zs
          rw [e1] at h
          exact h.now s (.tup sg r1)
        · refine opCan_of op_repT ⟨_, _, _, rfl, rfl, sh, fun e => h5 (nil_of r1 e), by omega, h3, by rw [r1.length]; exact Nat.le_of_ble_eq_true h4, fun c hc => ?_⟩
          exact h.lay s hc (repTup (r1.rep _) (s.free hc))
    · exact h.elim
  · -- list * int
    split at h
    · rename_i hf
      obtain ⟨a, vs, rfl, ha, r1⟩ := rx.lst s
      cases ry.int
      simp only [Bool.and_eq_true, decide_eq_true_eq] at hf
      obtain ⟨⟨h2, h3⟩, h4⟩ := hf
      have h5 := Nat.le_of_ble_eq_true h4
      refine opCan_of op_rep ⟨_, _, _, rfl, rfl, ha, by omega, by omega, by rw [r1.length]; exact fits_le h3, fun c hc => ?_⟩
      exact h.lay s hc (repLst (r1.rep _) (s.free hc))
    · exact h.elim
  · -- floordiv
    cases rx.int; cases ry.int
    rename_i a b
    split at h
    · rename_i hf
      unfold divOk at hf
      simp only [Bool.and_eq_true, decide_eq_true_eq] at hf
      exact opCan_of op_fdivG ⟨_, _, rfl, rfl, ⟨hf.1, Nat.le_of_ble_eq_true hf.2⟩, h.now s (.int _)⟩
    · exact h.elim
  · -- mod
    cases rx.int; cases ry.int
    split at h
    · rename_i hf
      exact opCan_of op_modN ⟨_, _, rfl, rfl, of_decide_eq_true hf, h.now s (.int _)⟩
    · exact h.elim
  · -- pow
    cases rx.int; cases ry.int
    split at h
    · rename_i hf
      simp only [Bool.and_eq_true, decide_eq_true_eq] at hf
      exact opCan_of op_pow ⟨_, _, rfl, rfl, ⟨hf.1.1, hf.1.2, Nat.le_of_ble_eq_true hf.2⟩, h.now s (.int _)⟩
    · exact h.elim
  · exact h.elim
end
end Z
end
section
namespace Z
open PySem PySem.Spec PyProof.Rows L2
/-! ### == -/
theorem str_beq (x y : List Nat) : ((⟨x.toArray⟩ : Str) == (⟨y.toArray⟩ : Str)) = (x == y) := by
  by_cases e : x = y
  · subst e; simp
  · have h : ¬ (⟨x.toArray⟩ : Str) = ⟨y.toArray⟩ := fun q => e (by
      have := congrArg (fun s : Str => s.cps.toList) q
      simpa using this)
    rw [beq_eq_false_iff_ne.mpr h, beq_eq_false_iff_ne.mpr e]
mutual
theorem eqv_toD : ∀ (p q : PV) (n m : Nat), dep p n = true → dep q m = true → PyData.eqv (toD p) (toD q) = eqP p q
  | .scr _, _, _, _, h, _ => by simp [dep] at h
  | .dct _ _, _, _, _, h, _ => by simp [dep] at h
  | .ptp _, _, _, _, h, _ => by simp [dep] at h
  | .non, q, _, _, _, h => by cases q <;> simp_all [toD, eqP, PyData.eqv, dep]
  | .bl _, q, _, _, _, h => by cases q <;> simp_all [toD, eqP, PyData.eqv, dep]
  | .int _, q, _, _, _, h => by cases q <;> simp_all [toD, eqP, PyData.eqv, dep]
  | .str _, q, _, _, _, h => by cases q <;> simp_all [toD, eqP, PyData.eqv, dep, str_beq]
  | .tup xs, q, n, m, h, h' => by
    cases q with
    | tup ys =>
      cases n with
      | zero => simp [dep] at h
      | succ n =>
        cases m with
        | zero => simp [dep] at h'
        | succ m =>
          simp only [dep] at h h'
          simp only [toD, eqP, PyData.eqv]
          exact eqv_toDL xs ys n m h h'
    | scr _ => simp [dep] at h'
    | _ => simp [toD, eqP, PyData.eqv]
  | .lst xs, q, n, m, h, h' => by
    cases q with
    | lst ys =>
      cases n with
      | zero => simp [dep] at h
      | succ n =>
        cases m with
        | zero => simp [dep] at h'
        | succ m =>
          simp only [dep] at h h'
          simp only [toD, eqP, PyData.eqv]
          exact eqv_toDL xs ys n m h h'
    | scr _ => simp [dep] at h'
    | _ => simp [toD, eqP, PyData.eqv]
theorem eqv_toDL : ∀ (xs ys : List PV) (n m : Nat), depL xs n = true → depL ys m = true → PyData.eqvAll (toDL xs) (toDL ys) = eqL xs ys
  | [], [], _, _, _, _ => by simp [toDL, eqL, PyData.eqvAll]
  | [], y :: ys, _, _, _, _ => by simp [toDL, eqL, PyData.eqvAll]
  | x :: xs, [], _, _, _, _ => by simp [toDL, eqL, PyData.eqvAll]
  | x :: xs, y :: ys, n, m, h, h' => by
    simp only [depL, Bool.and_eq_true] at h h'
    simp only [toDL, eqL, PyData.eqvAll]
    rw [eqv_toD x y n m h.1 h'.1, eqv_toDL xs ys n m h.2 h'.2]
end
mutual
theorem dep_depth : ∀ (p : PV) (n : Nat), dep p n = true → (toD p).depth ≤ n
  | .non, _, _ => by simp [toD, PyData.depth]
  | .bl _, _, _ => by simp [toD, PyData.depth]
  | .int _, _, _ => by simp [toD, PyData.depth]
  | .str _, _, _ => by simp [toD, PyData.depth]
  | .scr _, _, h => by simp [dep] at h
  | .dct _ _, _, h => by simp [dep] at h
  | .ptp _, _, h => by simp [dep] at h
  | .tup xs, 0, h => by simp [dep] at h
  | .lst xs, 0, h => by simp [dep] at h
  | .tup xs, n + 1, h => by
    simp only [dep] at h
    have := depL_depth xs n h
    simp only [toD, PyData.depth]; omega
  | .lst xs, n + 1, h => by
    simp only [dep] at h
    have := depL_depth xs n h
    simp only [toD, PyData.depth]; omega
theorem depL_depth : ∀ (xs : List PV) (n : Nat), depL xs n = true → PyData.depthAll (toDL xs) ≤ n
  | [], _, _ => by simp [toDL, PyData.depthAll]
  | x :: xs, n, h => by
    simp only [depL, Bool.and_eq_true] at h
    have h1 := dep_depth x n h.1
    have h2 := depL_depth xs n h.2
    simp only [toDL, PyData.depthAll]; omega
end
section
variable {K : PySem.W.Frag} {G H : Hp}
mutual
theorem Rep.dp (s : Same G H) : ∀ {v : V} {p : PV} {n : Nat}, Rep K G v p → dep p n = true → Dp K H v (toD p) ∧ (toD p).canLay0 = true
  | _, _, _, .non, _ => ⟨.non, rfl⟩
  | _, _, _, .bl b, _ => ⟨.bl b, rfl⟩
  | _, _, _, .int b, _ => ⟨.int b, rfl⟩
  | _, _, _, .str x h _, _ => ⟨.str _, by
      show PyData.strOk _ = true
      unfold PyData.strOk
      simpa using h⟩
  | _, _, n, .tup h r, d => by
    cases n with
    | zero => simp [dep] at d
    | succ n =>
      have q := Reps.dp s (n := n) r (by simpa [dep] using d)
      exact ⟨.tup (Same.tup s h) q.1, by simpa [toD, PyData.canLay0] using q.2⟩
  | _, _, n, .lst h r, d => by
    cases n with
    | zero => simp [dep] at d
    | succ n =>
      have q := Reps.dp s (n := n) r (by simpa [dep] using d)
      exact ⟨.lst (.inl (.inl (s _ _ h))) q.1, by simpa [toD, PyData.canLay0] using q.2⟩
  | _, _, n, .scr _, d => by simp [dep] at d
  | _, _, n, .dct _ _ _, d => by simp [dep] at d
  | _, _, n, .ptp _ _ _, d => by simp [dep] at d
theorem Reps.dp (s : Same G H) : ∀ {vs : List V} {ps : List PV} {n : Nat}, Reps K G vs ps → depL ps n = true → DpAll K H vs (toDL ps) ∧ PyData.canLayAll0 (toDL ps) = true
  | _, _, _, .nil, _ => ⟨.nil, rfl⟩
  | _, _, n, .cons r t, d => by
    simp only [depL, Bool.and_eq_true] at d
    have q1 := Rep.dp s r d.1
    have q2 := Reps.dp s t d.2
    exact ⟨.cons q1.1 q2.1, by simp only [toDL, PyData.canLayAll0, q1.2, q2.2, Bool.and_self]⟩
end
theorem RepX.dp {v : V} {p : PV} {n : Nat} (s : Same G H) (r : RepX K G H v p) (d : dep p n = true) : Dp K H v (toD p) ∧ (toD p).canLay0 = true := by
  rcases r with r | ⟨a, vs, xs, rfl, rfl, h, r⟩ | ⟨_, _, _, _, rfl, rfl, _⟩
  · exact r.dp s d
  · cases n with
    | zero => simp [dep] at d
    | succ n =>
      have q := Reps.dp s (n := n) r (by simpa [dep] using d)
      exact ⟨.lst (.inl (.inl h)) q.1, by simpa [toD, PyData.canLay0] using q.2⟩
  · simp [dep] at d
theorem shaped_of {p : PV} {n : Nat} (h : (toD p).canLay0 = true) (d : dep p n = true) (hn : n ≤ 64) : SeqAt.shaped (toD p) = true := by
  unfold SeqAt.shaped
  rw [h, decide_eq_true (Nat.le_trans (dep_depth p n d) hn)]; rfl
end
theorem any_toDL (x : PV) (n m : Nat) (hx : dep x n = true) : ∀ ys : List PV, depL ys m = true → ((toDL ys).any fun z => PyData.eqv z (toD x)) = inP x ys
  | [], _ => rfl
  | y :: ys, h => by
    simp only [depL, Bool.and_eq_true] at h
    have ih := any_toDL x n m hx ys h.2
    simp only [toDL, inP, List.any_cons]
    rw [eqv_toD y x m n h.1 hx, ih]; rfl
/-! ### keys -/
def keyP : PV → Key
  | .int i => .inl i
  | .str x => .inr ⟨x.toArray⟩
  | _ => .inl 0
theorem key_rep {K : PySem.W.Frag} {G : Hp} {v : V} {p : PV} (r : Rep K G v p) (h : keyB p = true) : v = kV (keyP p) := by
  cases r <;> first | rfl | cases h
theorem rep_key {K : PySem.W.Frag} {G : Hp} {k : Key} {p : PV} (r : Rep K G (kV k) p) : keyB p = true ∧ k = keyP p := by
  cases k with
  | inl i => cases r; exact ⟨rfl, rfl⟩
  | inr x =>
    obtain ⟨x⟩ := x
    generalize e : kV (Sum.inr (⟨x⟩ : Str)) = v at r
    cases r with
    | str y h1 h2 =>
      have e : V.str (⟨x⟩ : Str) = strV y := e
      cases e
      exact ⟨rfl, rfl⟩
    | _ => cases e
theorem keyP_eq {p q : PV} (hp : keyB p = true) (hq : keyB q = true) : eqP p q = decide (keyP p = keyP q) := by
  cases p <;> first | cases hp | skip
  · cases q <;> first | cases hq | skip
    · rename_i a b; simp only [eqP, keyP]; by_cases e : a = b <;> simp [e]
    · simp [eqP, keyP]
  · cases q <;> first | cases hq | skip
    · simp [eqP, keyP]
    · rename_i a b; simp only [eqP, keyP]; by_cases e : a = b <;> simp [e]
section
variable {K : PySem.W.Frag} {G : Hp}
theorem has_val {q : PV} (hq : keyB q = true) : ∀ {kvs : List (Key × V)} {ks : List PV}, Reps K G (kvs.map fun kv => kV kv.1) ks → hasP ks q = (valV kvs (keyP q)).isSome
  | [], _, r => by cases r; rfl
  | kv :: kvs, _, r => by
    rw [List.map_cons] at r
    cases r with
    | cons r t =>
      obtain ⟨h1, h2⟩ := rep_key r
      have ih := has_val hq t
      unfold hasP at ih ⊢
      rw [List.any_cons, keyP_eq h1 hq, ← h2]
      by_cases e : kv.1 = keyP q
      · rw [decide_eq_true e, valV_pos e]; rfl
      · rw [decide_eq_false e, valV_neg e, Bool.false_or]; exact ih
theorem look_val {q : PV} (hq : keyB q = true) : ∀ {kvs : List (Key × V)} {ks vs : List PV}, Reps K G (kvs.map fun kv => kV kv.1) ks → Reps K G (kvs.map fun kv => kv.2) vs →
    (lookP ks vs q = none ∧ valV kvs (keyP q) = none) ∨ ∃ p v, lookP ks vs q = some p ∧ valV kvs (keyP q) = some v ∧ Rep K G v p
  | [], _, _, r, r' => by cases r; cases r'; exact .inl ⟨rfl, rfl⟩
  | kv :: kvs, _, _, r, r' => by
    rw [List.map_cons] at r r'
    cases r with
    | cons r t =>
      cases r' with
      | cons r' t' =>
        rename_i k ks v vs
        obtain ⟨h1, h2⟩ := rep_key r
        have ih := look_val hq t t'
        have e1 : lookP (k :: ks) (v :: vs) q = if eqP k q then some v else lookP ks vs q := rfl
        rw [e1, keyP_eq h1 hq, ← h2]
        by_cases e : kv.1 = keyP q
        · rw [decide_eq_true e, valV_pos e, if_pos rfl]
          exact .inr ⟨_, _, rfl, rfl, r'⟩
        · rw [decide_eq_false e, valV_neg e, if_neg Bool.false_ne_true]
          exact ih
theorem set_rep {q x : PV} {v : V} (hq : keyB q = true) (rv : Rep K G v x) : ∀ {kvs : List (Key × V)} {ks vs : List PV}, Reps K G (kvs.map fun kv => kV kv.1) ks → Reps K G (kvs.map fun kv => kv.2) vs →
    Reps K G ((kvs.map fun kv => if kv.1 = keyP q then (kv.1, v) else kv).map fun kv => kV kv.1) ks ∧ Reps K G ((kvs.map fun kv => if kv.1 = keyP q then (kv.1, v) else kv).map fun kv => kv.2) (setP ks vs q x)
  | [], _, _, r, r' => by cases r; cases r'; exact ⟨.nil, .nil⟩
  | kv :: kvs, _, _, r, r' => by
    rw [List.map_cons] at r r'
    cases r with
    | cons r t =>
      cases r' with
      | cons r' t' =>
        rename_i k ks w vs
        obtain ⟨h1, h2⟩ := rep_key r
        obtain ⟨i1, i2⟩ := set_rep hq rv t t'
        have e1 : setP (k :: ks) (w :: vs) q x = (if eqP k q then x else w) :: setP ks vs q x := rfl
        rw [e1, keyP_eq h1 hq, ← h2, List.map_cons, List.map_cons, List.map_cons]
        by_cases e : kv.1 = keyP q
        · rw [decide_eq_true e, if_pos e, if_pos rfl]
          exact ⟨.cons r i1, .cons rv i2⟩
        · rw [decide_eq_false e, if_neg e, if_neg Bool.false_ne_true]
          exact ⟨.cons r i1, .cons r' i2⟩
theorem put_rep {q x : PV} {v : V} {kvs : List (Key × V)} {ks vs : List PV} (hq : keyB q = true) (rq : Rep K G (kV (keyP q)) q) (rv : Rep K G v x) (r : Reps K G (kvs.map fun kv => kV kv.1) ks) (r' : Reps K G (kvs.map fun kv => kv.2) vs) :
    Reps K G ((L2.putK kvs (keyP q) v).map fun kv => kV kv.1) (kputP ks q) ∧ Reps K G ((L2.putK kvs (keyP q) v).map fun kv => kv.2) (dputP ks vs q x) := by
  have e := has_val hq r
  unfold L2.putK kputP dputP
  rw [valV_any, ← e]
  cases hasP ks q with
  | true =>
    rw [if_pos rfl, if_pos rfl, if_pos rfl]
    exact set_rep hq rv r r'
  | false =>
    rw [if_neg Bool.false_ne_true, if_neg Bool.false_ne_true, if_neg Bool.false_ne_true, List.map_append, List.map_append]
    exact ⟨r.append (.cons rq .nil), r'.append (.cons rv .nil)⟩
end
def copE : Cop → CmpOp
  | .eq => .Eq | .ne => .NotEq | .lt => .Lt | .le => .LtE | .gt => .Gt | .ge => .GtE | .isn => .Is | .nisn => .IsNot | .inn => .In | .nin => .NotIn
section
variable {X : Cx} {W : WX} {XI : Ends1} {G H : Hp} {σ : L2.St} {x y : V} {p q : PV} {Q : VK}
theorem flat_rep {v : V} {p : PV} (r : RepX X.K G H v p) (h : flatP p = true) : flatV v = true ∧ Rep X.K G v p := by
  rcases r with r | ⟨a, vs, xs, rfl, rfl, _⟩ | ⟨_, _, _, _, rfl, rfl, _⟩
  · refine ⟨?_, r⟩
    cases r <;> first | rfl | simp [flatP] at h
  · simp [flatP] at h
  · simp [flatP] at h
theorem eqV_flat {v u : V} {p q : PV} (r : Rep X.K G v p) (r' : Rep X.K G u q) (h : flatP p = true) (h' : flatP q = true) : eqV v u = eqP p q := by
  cases r <;> cases r' <;> simp_all [eqV, eqP, flatP, str_beq]
theorem flatR : ∀ {vs : List V} {ps : List PV}, Reps X.K G vs ps → ps.all flatP = true → vs.all flatV = true
  | _, _, .nil, _ => rfl
  | _, _, .cons r t, h => by
    simp only [List.all_cons, Bool.and_eq_true] at h ⊢
    exact ⟨(flat_rep (H := G) (.inl r) h.1).1, flatR t h.2⟩
theorem inV_flat (rx : Rep X.K G x p) (hx : flatP p = true) : ∀ {vs : List V} {ps : List PV}, Reps X.K G vs ps → ps.all flatP = true → inV x vs = inP p ps
  | _, _, .nil, _ => rfl
  | _, _, .cons r t, h => by
    simp only [List.all_cons, Bool.and_eq_true] at h
    have ih := inV_flat rx hx t h.2
    simp only [inV, inP, List.any_cons] at ih ⊢
    rw [ih, eqV_flat r rx h.1 hx]
theorem isNone_rep (r : RepX X.K G H x p) : decide (x = .non) = isNon p := by
  rcases r with r | ⟨a, vs, xs, rfl, rfl, _⟩ | ⟨_, _, _, _, rfl, rfl, _⟩
  · cases r <;> rfl
  · rfl
  · rfl
theorem cmp_ok (op : Cop) (hu : X.A.units + 65 < cLine) (s : Same G H) (rx : RepX X.K G H x p) (ry : RepX X.K G H y q) (h : GE X.K XI W G H σ (cmpP op p q) Q) : opCan X (compareOp (copE op)) x y H Q := by
  unfold cmpP at h
  split at h
  · split at h
    · rename_i hd
      simp only [Bool.and_eq_true] at hd
      have d1 := rx.dp s hd.1
      have d2 := ry.dp s hd.2
      refine opCan_of (op_eqD (by omega)) ⟨_, _, d1.1, d2.1, shaped_of d1.2 hd.1 (by decide), shaped_of d2.2 hd.2 (by decide), ?_⟩
      rw [eqv_toD _ _ _ _ hd.1 hd.2]
      exact h.now s (.bl _)
    · exact h.elim
  · split at h
    · rename_i hd
      simp only [Bool.and_eq_true] at hd
      have d1 := rx.dp s hd.1
      have d2 := ry.dp s hd.2
      refine opCan_of (op_neD (by omega)) ⟨_, _, d1.1, d2.1, shaped_of d1.2 hd.1 (by decide), shaped_of d2.2 hd.2 (by decide), ?_⟩
      rw [eqv_toD _ _ _ _ hd.1 hd.2]
      exact h.now s (.bl _)
    · exact h.elim
  · cases rx.int; cases ry.int
    exact opCan_of op_lt ⟨_, _, rfl, rfl, h.now s (.bl _)⟩
  · cases rx.int; cases ry.int
    exact opCan_of op_le ⟨_, _, rfl, rfl, h.now s (.bl _)⟩
  · cases rx.int; cases ry.int
    exact opCan_of op_gt ⟨_, _, rfl, rfl, h.now s (.bl _)⟩
  · cases rx.int; cases ry.int
    exact opCan_of op_ge ⟨_, _, rfl, rfl, h.now s (.bl _)⟩
  · obtain ⟨rfl, _⟩ := rx.str; obtain ⟨rfl, _⟩ := ry.str
    exact opCan_of op_lt_str ⟨_, _, rfl, rfl, h.now s (.bl _)⟩
  · obtain ⟨rfl, _⟩ := rx.str; obtain ⟨rfl, _⟩ := ry.str
    exact opCan_of op_le_str ⟨_, _, rfl, rfl, h.now s (.bl _)⟩
  · obtain ⟨rfl, _⟩ := rx.str; obtain ⟨rfl, _⟩ := ry.str
    exact opCan_of op_gt_str ⟨_, _, rfl, rfl, h.now s (.bl _)⟩
  · obtain ⟨rfl, _⟩ := rx.str; obtain ⟨rfl, _⟩ := ry.str
    exact opCan_of op_ge_str ⟨_, _, rfl, rfl, h.now s (.bl _)⟩
  · cases ry.non
    refine opCan_of op_isN ⟨rfl, ?_⟩
    rw [isNone_rep rx]
    exact h.now s (.bl _)
  · cases ry.non
    refine opCan_of op_notN ⟨rfl, ?_⟩
    rw [isNone_rep rx]
    exact h.now s (.bl _)
  · obtain ⟨rfl, _⟩ := rx.str; obtain ⟨rfl, _⟩ := ry.str
    exact opCan_of op_in_sign ⟨_, _, rfl, rfl, h.now s (.bl _)⟩
  · obtain ⟨rfl, _⟩ := rx.str; obtain ⟨rfl, _⟩ := ry.str
    exact opCan_of op_notIn_sign ⟨_, _, rfl, rfl, h.now s (.bl _)⟩
  · split at h
    · rename_i ys hd
      simp only [Bool.and_eq_true] at hd
      have d1 := rx.dp s hd.1
      have hl : dep (.lst ys) 21 = true := by simpa [dep] using hd.2
      have d2 := ry.dp s hl
      refine opCan_of (op_inD hu) ⟨_, _, d1.1, d2.1, shaped_of d1.2 hd.1 (by decide), shaped_of d2.2 hl (by decide), ?_⟩
      rw [any_toDL _ _ _ hd.1 _ hd.2]
      exact h.now s (.bl _)
    · exact h.elim
  · split at h
    · rename_i ys hd
      simp only [Bool.and_eq_true] at hd
      have d1 := rx.dp s hd.1
      have hl : dep (.lst ys) 21 = true := by simpa [dep] using hd.2
      have d2 := ry.dp s hl
      refine opCan_of (op_notInD hu) ⟨_, _, d1.1, d2.1, shaped_of d1.2 hd.1 (by decide), shaped_of d2.2 hl (by decide), ?_⟩
      rw [any_toDL _ _ _ hd.1 _ hd.2]
      exact h.now s (.bl _)
    · exact h.elim
  · split at h
    · rename_i hd
      simp only [Bool.and_eq_true] at hd
      obtain ⟨a, vs, rfl, _, sh, r⟩ := ry.tup s
      have fx := flat_rep rx hd.1
      refine opCan_of op_in_seq ⟨_, _, rfl, .inr sh, fx.1, flatR r hd.2, ?_⟩
      rw [inV_flat fx.2 hd.1 r hd.2]
      exact h.now s (.bl _)
    · exact h.elim
  · split at h
    · rename_i hd
      simp only [Bool.and_eq_true] at hd
      obtain ⟨a, vs, rfl, _, sh, r⟩ := ry.tup s
      have fx := flat_rep rx hd.1
      refine opCan_of op_notIn_seq ⟨_, _, rfl, .inr sh, fx.1, flatR r hd.2, ?_⟩
      rw [inV_flat fx.2 hd.1 r hd.2]
      exact h.now s (.bl _)
    · exact h.elim
  · split at h
    · rename_i hk
      obtain ⟨a, kvs, rfl, hh, r1, r2⟩ := ry.dct s
      obtain rfl := key_rep (rx.rep (fun _ z => by subst z; cases hk) (fun _ _ z => by subst z; cases hk)) hk
      intro pins st σ' v u I rv ru
      cases ru
      refine d_in (by omega) I (DGet.k hh) rv fun s' I' => ⟨.bl _, H, I', rfl, ?_⟩
      rw [← has_val hk r1]
      exact h.now s (.bl _)
    · exact h.elim
  · split at h
    · rename_i hk
      obtain ⟨a, kvs, rfl, hh, r1, r2⟩ := ry.dct s
      obtain rfl := key_rep (rx.rep (fun _ z => by subst z; cases hk) (fun _ _ z => by subst z; cases hk)) hk
      intro pins st σ' v u I rv ru
      cases ru
      refine d_notIn (by omega) I (DGet.k hh) rv fun s' I' => ⟨.bl _, H, I', rfl, ?_⟩
      rw [← has_val hk r1]
      exact h.now s (.bl _)
    · exact h.elim
  · exact h.elim
/-! ### truth -/
theorem tru_rep (s : Same G H) (r : RepX X.K G H x p) {b : Bool} (h : truP p = .ok b) : TruV X.K x H b := by
  cases p with
  | non => cases r.non; cases h; rfl
  | bl c => cases r.bl; cases h; rfl
  | int i => cases r.int; cases h; rfl
  | str z =>
    obtain ⟨rfl, _, hl⟩ := r.str
    cases h
    refine ⟨by simpa [Str.length] using hl, ?_⟩
    cases z with
    | nil => rfl
    | cons c z =>
      show true = _
      simp [Str.length]
      omega
  | tup xs =>
    obtain ⟨a, vs, rfl, _, sh, rr⟩ := r.tup s
    cases h
    refine .inr (.inl ⟨vs, sh, ?_⟩)
    cases rr <;> rfl
  | lst xs =>
    obtain ⟨a, vs, rfl, sh, rr⟩ := r.lst s
    cases h
    refine .inl ⟨vs, .inl (.inl sh), ?_⟩
    cases rr <;> rfl
  | scr ns => cases h
  | ptp xs => cases h
  | dct ks vs =>
    obtain ⟨a, kvs, rfl, hh, r1, r2⟩ := r.dct s
    cases h
    refine .inr (.inr ⟨kvs, hh, ?_⟩)
    cases kvs with
    | nil => cases r1; rfl
    | cons _ _ => cases r1; rfl
theorem truP_exc {p : PV} {c : Nat} {o : Option PV} : truP p ≠ .exc c o := by cases p <;> exact fun h => nomatch h
end
end Z
end
section
namespace Z
open PySem PySem.Spec PyProof.Rows L2
section
variable {X : Cx} {W : WX} {XI : Ends1} {G H : Hp} {σ : L2.St} {x y : V} {p q : PV} {Q : VK}
/-! ### subscripts -/
def ixCan (X : Cx) : R2 := fun x y H Q => ∀ (value slice : Expr) (pins : List (Addr × Obj)) (s : Shared) (σ : L2.St) (v u : Value), Inv X pins σ H s → RelV x v → RelV y u → subscripted slice false v u = operate [v, u] (getItem v u) →
  wpAny (model X.prog X.w) X.A (subscriptTail value slice v u) (EP X pins σ Q) X.xe s
theorem ixCan_ok (X : Cx) : IxR X (ixCan X) := fun value slice pins s σ H x y v u Q I rx ry h hs => h value slice pins s σ v u I rx ry hs
theorem ixCan_of {r : R2} (h : IxR X r) (q : r x y H Q) : ixCan X x y H Q := fun value slice pins s σ v u I rx ry hs => h value slice pins s σ H x y v u Q I rx ry q hs
theorem Reps.atI {K : PySem.W.Frag} {vs : List V} {ps : List PV} {i : Int} {p : PV} (r : Reps K G vs ps) (h : L2.atI ps i = some p) : ∃ v, L2.atI vs i = some v ∧ Rep K G v p := by
  unfold L2.atI at h ⊢
  rw [r.length]
  cases e : ixN ps.length i with
  | none => rw [e] at h; cases h
  | some j =>
    rw [e] at h
    exact r.get h
theorem atI_map {α β : Type} (f : α → β) (xs : List α) (i : Int) : L2.atI (xs.map f) i = (L2.atI xs i).map f := by
  unfold L2.atI
  rw [List.length_map]
  cases ixN xs.length i with
  | none => rfl
  | some j => simp
theorem atI_mem {α : Type} {xs : List α} {i : Int} {c : α} (h : L2.atI xs i = some c) : c ∈ xs := by
  unfold L2.atI at h
  cases e : ixN xs.length i with
  | none => rw [e] at h; cases h
  | some j => rw [e] at h; exact List.mem_of_getElem? h
theorem ix_ok (hu : X.A.units + 65 < cLine) (s : Same G H) (rx : RepX X.K G H x p) (ry : RepX X.K G H y q) (h : GE X.K XI W G H σ (ixP p q) Q) : ixCan X x y H Q := by
  unfold ixP at h
  split at h
  · cases ry.int
    obtain ⟨a, vs, rfl, _, sh, r⟩ := rx.tup s
    split at h
    · rename_i e
      obtain ⟨v, h1, h2⟩ := r.atI e
      exact ixCan_of ix_tup ⟨_, _, _, _, rfl, rfl, sh, h1, h.now s h2⟩
    · exact h.elim
  · cases ry.int
    obtain ⟨a, vs, rfl, sh, r⟩ := rx.lst s
    split at h
    · rename_i e
      obtain ⟨v, h1, h2⟩ := r.atI e
      exact ixCan_of ix_list ⟨_, _, _, _, rfl, rfl, .inl (.inl sh), h1, h.now s h2⟩
    · exact h.elim
  · cases ry.int
    obtain ⟨rfl, h1, h2⟩ := rx.str
    split at h
    · rename_i e
      refine ixCan_of ix_str ⟨_, _, _, rfl, rfl, by simpa [Str.length] using h2, by simpa using e, h.now s (.str [_] (fun c hc => ?_) ?_)⟩
      · rcases List.mem_singleton.mp hc with rfl
        exact h1 _ (atI_mem e)
      · exact (by decide : 1 ≤ 16777216)
    · exact h.elim
  · cases ry.int
    obtain ⟨a, rfl, sh⟩ := rx.scr s
    split at h
    · rename_i e
      refine ixCan_of ix_list ⟨_, _, _, _, rfl, rfl, sh, ?_, h.now s (.int _)⟩
      rw [atI_map, e]; rfl
    · exact h.elim
  · split at h
    · rename_i hk
      obtain ⟨a, kvs, rfl, hh, r1, r2⟩ := rx.dct s
      obtain rfl := key_rep (ry.rep (fun _ z => by subst z; cases hk) (fun _ _ z => by subst z; cases hk)) hk
      rcases look_val hk r1 r2 with ⟨e1, e2⟩ | ⟨p', v', e1, e2, rr⟩
      · rw [e1] at h; exact h.elim
      · rw [e1] at h
        intro value slice pins st σ' v u I rv ru hs
        cases rv
        have g := DGet.k (k := keyP q) hh
        rw [e2] at g
        exact tail_any (dict_typeIs I g) PySem.F.slot_dict_getitem.lookup (d_getItem (by omega) I g ru fun w' s' I' rw' => ⟨_, H, I', rw', h.now s rr⟩) hs
    · exact h.elim
  · exact h.elim
/-! ### slices -/
def slCan (X : Cx) : V → Option Int → Option Int → Hp → VK → Prop := fun x lo hi H Q => ∀ (pins : List (Addr × Obj)) (s : Shared) (σ : L2.St) (v vl vu : Value) (sl : Addr), Inv X pins σ H s → RelV x v → s.heap.IsSliceOf sl vl vu .none → IsPart vl lo → IsPart vu hi →
  ∃ T id, typeLookup (.type T) "__getitem__" = pure (some (.builtin id)) ∧ s.TypeIs v T ∧ wpAny (model X.prog X.w) X.A (getItem v (.ref sl)) (EP X pins σ Q) X.xe s
theorem slCan_ok (X : Cx) : SlR X (slCan X) := fun pins s σ H x v vl vu lo hi sl Q I rx hs p1 p2 h => h pins s σ v vl vu sl I rx hs p1 p2
theorem slCan_of {r : V → Option Int → Option Int → Hp → VK → Prop} (h : SlR X r) {lo hi : Option Int} (q : r x lo hi H Q) : slCan X x lo hi H Q := fun pins s σ v vl vu sl I rx hs p1 p2 => h pins s σ H x v vl vu lo hi sl Q I rx hs p1 p2 q
theorem Reps.cut {K : PySem.W.Frag} {vs : List V} {ps : List PV} (r : Reps K G vs ps) (lo hi : Option Int) : Reps K G (cutV vs lo hi) (cutP ps lo hi) := by
  unfold cutV cutP
  rw [r.length]
  exact (r.drop _).take _
theorem cut_whole {α : Type} (xs : List α) (lo hi : Option Int) (h : HT.sIx xs.length 0 lo = 0 ∧ HT.sIx xs.length xs.length hi = xs.length) : cutP xs lo hi = xs := by
  unfold cutP
  rw [h.1, h.2]
  simp
theorem cut_mem {α : Type} {xs : List α} {lo hi : Option Int} {c : α} (h : c ∈ cutP xs lo hi) : c ∈ xs := List.mem_of_mem_drop (List.mem_of_mem_take h)
theorem cut_len {α : Type} (xs : List α) (lo hi : Option Int) : (cutP xs lo hi).length ≤ xs.length := by
  unfold cutP
  rw [List.length_take, List.length_drop]
  omega
theorem cutS_is (xs : List Nat) (lo hi : Option Int) : cutS ⟨xs.toArray⟩ lo hi = ⟨(cutP xs lo hi).toArray⟩ := by
  unfold cutS cutP
  simp [Str.length]
theorem sl_ok (s : Same G H) (rx : RepX X.K G H x p) (lo hi : Option Int)
    (h : GE X.K XI W G H σ (slV p lo hi) Q) : slCan X x lo hi H Q := by
  unfold slV at h
  split at h
  · obtain ⟨a, vs, rfl, sg, sh, r⟩ := rx.tup s
    refine slCan_of sl_tupA ⟨_, _, rfl, sh, fun e => ?_, fun _ c hc => ?_⟩
    · rw [r.length] at e
      rw [cut_whole _ _ _ e] at h
      exact h.now s (.tup sg r)
    · exact h.lay s hc (repTup (r.cut lo hi) (s.free hc))
  · obtain ⟨a, vs, rfl, sh, r⟩ := rx.lst s
    refine slCan_of sl_list ⟨_, _, rfl, .inl (.inl sh), fun c hc => ?_⟩
    exact h.lay s hc (repLst (r.cut lo hi) (s.free hc))
  · obtain ⟨rfl, h1, h2⟩ := rx.str
    refine slCan_of sl_str ⟨_, rfl, by simpa [Str.length] using h2, ?_⟩
    rw [cutS_is]
    exact h.now s (.str _ (fun c hc => h1 c (cut_mem hc)) (Nat.le_trans (cut_len _ _ _) h2))
  · exact h.elim
/-! ### calls of built-ins -/
def callCan (X : Cx) (f : Value) : List V → Hp → VK → Prop := fun xs H Q => ∀ (pins : List (Addr × Obj)) (s : Shared) (σ : L2.St) (us : List Value), Inv X pins σ H s → Vals xs us → wpAny (model X.prog X.w) X.A (call f us) (EP X pins σ Q) X.xe s
theorem callCan_ok (X : Cx) (f : Value) : CallR X f (callCan X f) := fun pins s σ H xs us Q I rs h => h pins s σ us I rs
theorem callCan_of {f : Value} {r : List V → Hp → VK → Prop} (h : CallR X f r) {xs : List V} (q : r xs H Q) : callCan X f xs H Q := fun pins s σ us I rs => h pins s σ H xs us Q I rs q
inductive RepXs (K : PySem.W.Frag) (G H : Hp) : List V → List PV → Prop
  | nil : RepXs K G H [] []
  | cons {v : V} {vs : List V} {p : PV} {ps : List PV} : RepX K G H v p → RepXs K G H vs ps → RepXs K G H (v :: vs) (p :: ps)
theorem RepXs.mono {K : PySem.W.Frag} {G' H' : Hp} (e : Ext G H G' H') : ∀ {vs : List V} {ps : List PV}, RepXs K G H vs ps → RepXs K G' H' vs ps
  | _, _, .nil => .nil
  | _, _, .cons r t => .cons (r.mono e) (RepXs.mono e t)
def biV : Bi → Value
  | .len => .builtin "len" | .abs => .builtin "abs" | .min2 => .builtin "min" | .max2 => .builtin "max" | .min1 => .builtin "min" | .max1 => .builtin "max" | .sum => .builtin "sum"
  | .int => .type "int" | .tuple => .type "tuple" | .list => .type "list" | .sorted => .builtin "sorted" | .dict => .type "dict" | .ptuple => .type "tuple"
theorem ints_rep {K : PySem.W.Frag} : ∀ {vs : List V} {ps : List PV} {ns : List Int}, Reps K G vs ps → intsP ps = some ns → vs = ns.map V.int
  | _, _, _, .nil, h => by cases h; rfl
  | _, p :: ps, ns, .cons r t, h => by
    cases p with
    | int i =>
      simp only [intsP, Option.map_eq_some_iff] at h
      obtain ⟨ms, h1, rfl⟩ := h
      cases r
      rw [ints_rep t h1]; rfl
    | _ => simp [intsP] at h
theorem maxL_ge : ∀ (ns : List Int) (m : Int), m ≤ maxL m ns ∧ (∀ y ∈ ns, y ≤ maxL m ns) ∧ (maxL m ns = m ∨ maxL m ns ∈ ns)
  | [], m => ⟨Int.le_refl _, by simp, .inl rfl⟩
  | x :: r, m => by
    have ih := maxL_ge r (if m < x then x else m)
    simp only [maxL]
    refine ⟨?_, fun y hy => ?_, ?_⟩
    · have := ih.1
      split at this <;> omega
    · rcases List.mem_cons.mp hy with rfl | hy
      · have := ih.1
        split at this <;> omega
      · exact ih.2.1 y hy
    · rcases ih.2.2 with e | e
      · rw [e]
        split
        · exact .inr List.mem_cons_self
        · exact .inl rfl
      · exact .inr (List.mem_cons_of_mem _ e)
theorem minL_le : ∀ (ns : List Int) (m : Int), minL m ns ≤ m ∧ (∀ y ∈ ns, minL m ns ≤ y) ∧ (minL m ns = m ∨ minL m ns ∈ ns)
  | [], m => ⟨Int.le_refl _, by simp, .inl rfl⟩
  | x :: r, m => by
    have ih := minL_le r (if x < m then x else m)
    simp only [minL]
    refine ⟨?_, fun y hy => ?_, ?_⟩
    · have := ih.1
      split at this <;> omega
    · rcases List.mem_cons.mp hy with rfl | hy
      · have := ih.1
        split at this <;> omega
      · exact ih.2.1 y hy
    · rcases ih.2.2 with e | e
      · rw [e]
        split
        · exact .inr List.mem_cons_self
        · exact .inl rfl
      · exact .inr (List.mem_cons_of_mem _ e)
/-! sorted of data, min and max of tuples -/
theorem vals_of_each : ∀ {bs : List (V × PV)} {us : List Value}, PySem.W.EachIs (fun u (b : V × PV) => RelV b.1 u) us bs → Vals (bs.map (·.1)) us
  | _, _, .nil => .nil
  | _, _, .cons r t => .cons r (vals_of_each t)
theorem each_of_reps {K : PySem.W.Frag} {G : Hp} : ∀ {vs : List V} {ps : List PV} {us : List Value}, Reps K G vs ps → Vals vs us → ∃ bs : List (V × PV), bs.map (·.1) = vs ∧ bs.map (·.2) = ps ∧ (∀ b ∈ bs, Rep K G b.1 b.2) ∧ PySem.W.EachIs (fun u (b : V × PV) => RelV b.1 u) us bs
  | _, _, _, .nil, .nil => ⟨[], rfl, rfl, fun b hb => absurd hb List.not_mem_nil, .nil⟩
  | _, _, _, .cons (v := v) (p := p) r t, .cons ru tu => by
    obtain ⟨bs, h1, h2, h3, h4⟩ := each_of_reps t tu
    refine ⟨(v, p) :: bs, by rw [List.map_cons, h1], by rw [List.map_cons, h2], fun b hb => ?_, .cons ru h4⟩
    rcases List.mem_cons.mp hb with rfl | hb
    · exact r
    · exact h3 b hb
theorem reps_of_each {K : PySem.W.Frag} {G : Hp} : ∀ {bs : List (V × PV)}, (∀ b ∈ bs, Rep K G b.1 b.2) → Reps K G (bs.map (·.1)) (bs.map (·.2))
  | [], _ => .nil
  | b :: bs, h => .cons (h b (List.mem_cons_self ..)) (reps_of_each fun c hc => h c (List.mem_cons_of_mem _ hc))
theorem depL_mem {xs : List PV} {n : Nat} (h : depL xs n = true) : ∀ x ∈ xs, dep x n = true := by
  induction xs with
  | nil => exact fun x hx => absurd hx List.not_mem_nil
  | cons y ys ih =>
    intro x hx
    have h' : (dep y n && depL ys n) = true := h
    rw [Bool.and_eq_true] at h'
    rcases List.mem_cons.mp hx with rfl | hx
    · exact h'.1
    · exact ih h'.2 x hx
def rSortedD (K : PySem.W.Frag) : List V → Hp → VK → Prop := fun vs H Q => ∃ (a : Addr) (xs : List V) (ps : List PV) (G : Hp), vs = [V.ref a] ∧ SqL K H a xs ∧ Same G H ∧ Reps K G xs ps ∧ sortOk ps = true ∧
  ∀ (ys : List V) (p : Addr), Reps K G ys (ps.mergeSort (PySem.W.dataLe false toD)) → H p = none → Q (.ref p) (upd H p (.lst ys))
theorem each_mem {R : Value → (V × PV) → Prop} : ∀ {us : List Value} {bs : List (V × PV)}, PySem.W.EachIs R us bs → PySem.W.EachIs (fun u b => R u b ∧ b ∈ bs) us bs := by
  intro us bs h
  have key : ∀ {us : List Value} {bs cs : List (V × PV)}, (∀ b ∈ bs, b ∈ cs) → PySem.W.EachIs R us bs → PySem.W.EachIs (fun u b => R u b ∧ b ∈ cs) us bs := by
    intro us bs cs hs h
    induction h with
    | nil => exact .nil
    | cons r _ ih => exact .cons ⟨r, hs _ (List.mem_cons_self ..)⟩ (ih fun c hc => hs c (List.mem_cons_of_mem _ hc))
  exact key (fun b hb => hb) h
theorem cr_sortedD (hu : X.A.units + 65 < cLine) : CallR X (.builtin "sorted") (rSortedD X.K) := by
  intro pins s σ H vs us Q I r h
  obtain ⟨a, xs, ps, G, rfl, hs, sm, rr, ok, q⟩ := h
  obtain ⟨its, rv, hl, hz⟩ := I.list hs
  rw [Vals.ref1 r]
  obtain ⟨bs, e1, e2, e3, e4⟩ := each_of_reps rr rv
  unfold sortOk at ok
  simp only [Bool.and_eq_true] at ok
  obtain ⟨⟨o1, o2⟩, o3⟩ := ok
  have dp : ∀ b ∈ bs, dep b.2 20 = true := fun b hb => depL_mem o1 _ (by rw [← e2]; exact List.mem_map.mpr ⟨b, hb, rfl⟩)
  have emap : bs.map (fun b => toD b.2) = ps.map toD := by rw [← e2, List.map_map]; rfl
  refine PySem.W.sorted_data (bs := bs) (enc := fun b => toD b.2) (R := fun u (b : V × PV) => RelV b.1 u) hl.isList e4 ?_ ?_ ?_ ?_ (fun b hb => ?_) fun out ho h1 => ?_
  · refine (each_mem e4).mono fun u b ⟨ru, hb⟩ => ?_
    exact Dp.reads I (toD b.2) b.1 u (Rep.dp sm (e3 b hb) (dp b hb)).1 ru
  · rw [emap]
    intro d hd d' hd'
    obtain ⟨p, hp, rfl⟩ := List.mem_map.mp hd
    obtain ⟨p', hp', rfl⟩ := List.mem_map.mp hd'
    rw [List.all_eq_true] at o2
    have := o2 p hp
    rw [List.all_eq_true] at this
    exact this p' hp'
  · rw [emap]
    rw [Bool.or_eq_true] at o3
    rcases o3 with o3 | o3
    · left
      intro d hd
      obtain ⟨p, hp, rfl⟩ := List.mem_map.mp hd
      rw [List.all_eq_true] at o3
      have := o3 p hp
      cases p with
      | tup ys => cases ys with
        | nil => cases this
        | cons y ys => exact ⟨_, _, rfl⟩
      | _ => cases this
    · right
      intro d hd
      obtain ⟨p, hp, rfl⟩ := List.mem_map.mp hd
      rw [List.all_eq_true] at o3
      have := o3 p hp
      cases p with
      | tup _ => cases this
      | non => cases this
      | scr _ => cases this
      | dct _ _ => cases this
      | ptp _ => cases this
      | _ => exact ⟨by simp [toD], fun xs => by simp [toD]⟩
  · rw [← e1, List.length_map] at hz
    exact hz
  · have := dep_depth b.2 20 (dp b hb)
    show X.A.units + 2 + (toD b.2).depth < cLine
    omega
  · obtain ⟨ep, he'⟩ := PyProof.Rows.sortedAll_at s.heap its out.toArray
    have hv := vals_of_each h1
    have hr : Reps X.K G ((bs.mergeSort (PySem.W.dataLe false fun b => toD b.2)).map (·.1)) (ps.mergeSort (PySem.W.dataLe false toD)) := by
      have := reps_of_each (K := X.K) (G := G) (bs := bs.mergeSort (PySem.W.dataLe false fun b => toD b.2)) fun b hb => e3 b ((List.mergeSort_perm ..).mem_iff.mp hb)
      have em : (bs.mergeSort (PySem.W.dataLe false fun b => toD b.2)).map (·.2) = ps.mergeSort (PySem.W.dataLe false toD) := by
        rw [← e2]
        exact List.map_mergeSort fun _ _ _ _ => rfl
      rw [em] at this
      exact this
    have hlen : ((bs.mergeSort (PySem.W.dataLe false fun b => toD b.2)).map (·.1)).length ≤ sizeLine := by
      rw [List.length_map, (List.mergeSort_perm ..).length_eq]
      rw [← e1, List.length_map] at hz
      exact hz
    exact ⟨.ref _, upd H (s.heap.objs.size + 1) (.lst _), I.laid (t' := s.toks) (fun _ _ => PyProof.Rows.sortedAll_old) (Nat.le_succ _) ⟨hlen, out, ep, hv, he'⟩, rfl, q _ _ hr (I.hok.fresh (Nat.le_succ _))⟩
theorem alike_ints : ∀ (x : Int) (xs : List Int), PySem.W.AlikeAll (PyData.int x :: xs.map PyData.int) := fun x xs => by
  refine ⟨fun a ha b hb => ?_, fun a ha => ?_⟩
  · have h : ∀ d ∈ PyData.int x :: xs.map PyData.int, ∃ i, d = .int i := fun d hd => by
      rcases List.mem_cons.mp hd with rfl | hd
      · exact ⟨_, rfl⟩
      · obtain ⟨i, _, rfl⟩ := List.mem_map.mp hd; exact ⟨_, rfl⟩
    obtain ⟨i, rfl⟩ := h a ha
    obtain ⟨j, rfl⟩ := h b hb
    rfl
  · rcases List.mem_cons.mp ha with rfl | ha
    · exact fun z => nomatch z
    · obtain ⟨i, _, rfl⟩ := List.mem_map.mp ha; exact fun z => nomatch z
theorem depth_ints : ∀ (xs : List Int), PyData.depthAll (xs.map PyData.int) = 0
  | [] => rfl
  | x :: xs => by
    show max (PyData.depth (.int x)) (PyData.depthAll (xs.map PyData.int)) = 0
    rw [depth_ints xs]
    rfl
theorem minL_fold : ∀ (ns : List Int) (n : Int), ns.foldl min n = minL n ns
  | [], _ => rfl
  | x :: r, n => by
    rw [List.foldl_cons, minL_fold r]
    show minL (min n x) r = minL (if x < n then x else n) r
    congr 1
    split <;> omega
theorem maxL_fold : ∀ (ns : List Int) (n : Int), ns.foldl max n = maxL n ns
  | [], _ => rfl
  | x :: r, n => by
    rw [List.foldl_cons, maxL_fold r]
    show maxL (max n x) r = maxL (if n < x then x else n) r
    congr 1
    split <;> omega
theorem reads_ints {h : Heap} : ∀ {us : List Value} {ns : List Int}, Vals (ns.map V.int) us → ∃ as, ReadsAll h us (ns.map PyData.int) as
  | _, [], .nil => ⟨_, .nil⟩
  | _, n :: ns, .cons r t => by
    obtain ⟨as, ra⟩ := reads_ints t
    obtain ⟨tk, rfl⟩ := r
    exact ⟨_, .cons (.int _ _) ra⟩
def rMinT (K : PySem.W.Frag) (f : Int → List Int → Int) : List V → Hp → VK → Prop := fun vs H Q => ∃ (a : Addr) (n : Int) (ns : List Int), vs = [V.ref a] ∧ SqT K H a ((n :: ns).map V.int) ∧ Q (.int (f n ns)) H
theorem cr_minT (hc : X.calm = true) (hu : X.A.units + 65 < cLine) : CallR X (.builtin "min") (rMinT X.K minL) := by
  intro pins s σ H vs us Q I r h
  obtain ⟨a, n, ns, rfl, hs, q⟩ := h
  obtain ⟨its, rv, ht, hz⟩ := I.tuple hs
  rw [Vals.ref1 r]
  obtain ⟨as, ra⟩ := reads_ints (h := s.heap) rv
  obtain ⟨o, ho, hcl, n', hd⟩ := ht
  refine PySem.W.min_tuple_data (I.ok.hd hc) ⟨o, ho, hcl, n', hd⟩ (x := .int n) (xs := ns.map .int) (as := as) (by simpa using ra) (alike_ints n ns) ?_ fun i v h' tk bs hv hr hk => ?_
  · have := depth_ints (n :: ns)
    rw [List.map_cons] at this
    rw [this]; omega
  · rw [PySem.W.minD_ints, minL_fold] at hr
    cases hr
    exact ⟨.int _, H, I.kept hk, ⟨_, rfl⟩, q⟩
theorem cr_maxT (hc : X.calm = true) (hu : X.A.units + 65 < cLine) : CallR X (.builtin "max") (rMinT X.K maxL) := by
  intro pins s σ H vs us Q I r h
  obtain ⟨a, n, ns, rfl, hs, q⟩ := h
  obtain ⟨its, rv, ht, hz⟩ := I.tuple hs
  rw [Vals.ref1 r]
  obtain ⟨as, ra⟩ := reads_ints (h := s.heap) rv
  obtain ⟨o, ho, hcl, n', hd⟩ := ht
  refine PySem.W.max_tuple_data (I.ok.hd hc) ⟨o, ho, hcl, n', hd⟩ (x := .int n) (xs := ns.map .int) (as := as) (by simpa using ra) (alike_ints n ns) ?_ fun i v h' tk bs hv hr hk => ?_
  · have := depth_ints (n :: ns)
    rw [List.map_cons] at this
    rw [this]; omega
  · rw [PySem.W.maxD_ints, maxL_fold] at hr
    cases hr
    exact ⟨.int _, H, I.kept hk, ⟨_, rfl⟩, q⟩
/-- dict(pairs) -/
theorem dictL_ok {K : PySem.W.Frag} {G H : Hp} (s : Same G H) : ∀ {xs : List PV} {vs : List V} {ks ws : List PV} {kvs : List (Key × V)} {r : PV}, Reps K G vs xs → Reps K G (kvs.map fun kv => kV kv.1) ks → Reps K G (kvs.map fun kv => kv.2) ws → dictL ks ws xs = .ok r →
    ∃ (ps : List Addr) (more : List (Key × V)) (ks' ws' : List PV), vs = ps.map V.ref ∧ Paired (fun p kv => SqT K H p [kV kv.1, kv.2]) ps more ∧ r = .dct ks' ws' ∧ Reps K G ((mergeK kvs more).map fun kv => kV kv.1) ks' ∧ Reps K G ((mergeK kvs more).map fun kv => kv.2) ws'
  | [], _, ks, ws, kvs, r, rx, r1, r2, h => by
    cases rx
    cases h
    exact ⟨[], [], ks, ws, rfl, .nil, rfl, r1, r2⟩
  | x :: xs, _, ks, ws, kvs, r, rx, r1, r2, h => by
    cases rx with
    | cons rv rt =>
      unfold dictL at h
      split at h
      · rename_i e; cases e
      · rename_i k w r' e
        cases e
        split at h
        · rename_i hk
          cases rv with
          | tup sq rs =>
            rename_i a us
            cases rs with
            | cons rk rs =>
              cases rs with
              | cons rw rs =>
                cases rs
                have ek := key_rep rk hk
                subst ek
                rename_i w'
                obtain ⟨p1, p2⟩ := put_rep hk rk rw r1 r2
                obtain ⟨ps, more, ks', ws', e1, e2, e3, e4, e5⟩ := dictL_ok s rt p1 p2 h
                subst e1
                exact ⟨a :: ps, (keyP k, w') :: more, ks', ws', rfl, .cons (Same.tup s sq) e2, e3, e4, e5⟩
        · cases h
      · cases h
theorem dictL_exc : ∀ {xs ks ws : List PV} {c : Nat} {o : Option PV}, dictL ks ws xs ≠ .exc c o
  | [], _, _, _, _ => fun h => nomatch h
  | x :: xs, ks, ws, c, o => fun h => by
    unfold dictL at h
    split at h
    · cases h
    · rename_i k v r e
      injection e with _ e2
      subst e2
      split at h
      · exact dictL_exc h
      · cases h
    · cases h
theorem dict_ok (hc : X.calm = true) (s : Same G H) {a : Addr} {vs : List V} {xs : List PV} (sh : H a = some (.lst vs)) (rr : Reps X.K G vs xs) (h : GE X.K XI W G H σ (dictL [] [] xs) Q) : callCan X (.type "dict") [.ref a] H Q := by
  cases e : dictL [] [] xs with
  | bad => rw [e] at h; exact h.elim
  | exc c o => exact absurd e dictL_exc
  | ok r =>
    rw [e] at h
    obtain ⟨ps, more, ks', ws', rfl, e2, rfl, e4, e5⟩ := dictL_ok (kvs := []) s rr .nil .nil e
    refine callCan_of (call_dictP hc) ⟨a, ps, more, rfl, .inl (.inl sh), e2, fun p hp => ?_⟩
    exact h.lay s hp (.dct (upd_same ..) (e4.mono (same_upd (s.free hp))) (e5.mono (same_upd (s.free hp))))
/-- tuple(list): a tuple without a dict of its own -/
theorem call_ptuple : CallR X (.type "tuple") (fun xs H Q => ∃ p ys, xs = [.ref p] ∧ SqL X.K H p ys ∧ ∀ l o, H l = none → o.dict = none → Q (.ref l) (upd H l (.frz o (.tup ys)))) := by
  intro pins s σ H xs us Q I r h
  obtain ⟨p, ys, rfl, hq, q⟩ := h
  obtain ⟨u, rfl, rx⟩ := vals1 r
  cases rx
  obtain ⟨its, r', pl, hz⟩ := I.list hq
  have hlen := r'.length
  refine call_tuple_list pl.isList (fun h' kp => ?_) (by simp only [List.size_toArray] <;> omega)
  have I1 : Inv X pins σ H { s with heap := h' } := I.kept (t' := s.toks) kp
  have I2 : Inv X pins σ (upd H h'.objs.size (.frz { cls := .type "tuple", data := .seq its.toArray } (.tup ys))) { s with heap := h'.push { cls := .type "tuple", data := .seq its.toArray } } :=
    I1.laid (t' := s.toks) (fun b o e => Heap.get?_push_of_some _ e) (Nat.le_refl _) (show ObjOk X.prog X.w _ _ _ (.frz _ (.tup ys)) from ⟨Heap.get?_push_size _ rfl, hz, its, r', IsTup.new _ _⟩)
  exact ⟨.ref h'.objs.size, _, I2, rfl, q _ _ (I1.hok.fresh (Nat.le_refl _)) rfl⟩
/-- dict(xs) of such a tuple of pairs -/
theorem call_dictPT (hcalm : X.calm = true) : CallR X (.type "dict") (fun xs H Q => ∃ (a : Addr) (o : Obj) (ps : List Addr) (kvs : List (Key × V)), xs = [.ref a] ∧ H a = some (.frz o (.tup (ps.map V.ref))) ∧ o.dict = none ∧ Paired (fun p kv => SqT X.K H p [kV kv.1, kv.2]) ps kvs ∧
    ∀ p, H p = none → Q (.ref p) (upd H p (.dK (mergeK [] kvs)))) := by
  intro pins s σ H xs us Q I r q
  obtain ⟨a, o, ps, kvs, ex, hq, hd, hp, q⟩ := q
  subst ex
  obtain ⟨u, eu, rx⟩ := vals1 r
  subst eu
  cases rx
  obtain ⟨ho, hz, its, rv, o', ho', hc, n, hdat⟩ := (show ObjOk X.prog X.w H s.heap a (.frz o (.tup (ps.map V.ref))) from I.hok a _ hq)
  rw [ho] at ho'
  cases ho'
  have ei := refs_at rv
  subst ei
  rw [List.length_map] at hz
  obtain ⟨prs, rel, hl, hpr⟩ := pairs_of I hp
  -- the pairs, by their values
  have pick : ∀ j : Nat, ∃ u : Value, j < prs.length → ∃ b : Addr, ps[j]? = some b ∧ IsTup s.heap b #[u, (prs[j]?.getD (.inl 0, Value.none)).2] ∧ keyIs (prs[j]?.getD (.inl 0, Value.none)).1 u = true := fun j => by
    by_cases hj : j < prs.length
    · obtain ⟨b, u, e1, e2, e3⟩ := hpr j prs[j] (List.getElem?_eq_getElem hj)
      refine ⟨u, fun _ => ⟨b, e1, ?_, ?_⟩⟩
      · rw [List.getElem?_eq_getElem hj]; exact e2
      · rw [List.getElem?_eq_getElem hj]; exact e3
    · exact ⟨Value.none, fun z => absurd z hj⟩
  obtain ⟨us, hus⟩ := Classical.axiomOfChoice pick
  let vps : List (Value × Value) := (List.range prs.length).map fun j => (us j, (prs[j]?.getD (.inl 0, Value.none)).2)
  have lv : vps.length = ps.length := by show ((List.range prs.length).map _).length = _; rw [List.length_map, List.length_range, hl]
  have gv : ∀ j k v, vps[j]? = some (k, v) → j < prs.length ∧ k = us j ∧ v = (prs[j]?.getD (.inl 0, Value.none)).2 := fun j k v e => by
    have e : ((List.range prs.length).map fun j => (us j, (prs[j]?.getD (.inl 0, Value.none)).2))[j]? = some (k, v) := e
    rw [List.getElem?_map] at e
    by_cases hj : j < prs.length
    · rw [List.getElem?_range hj] at e
      cases e
      exact ⟨hj, rfl, rfl⟩
    · rw [List.getElem?_eq_none (by rw [List.length_range]; omega)] at e
      cases e
  have PI : PairItems s.heap (ps.map Value.ref).toArray (fun j => ps.getD j 0) vps := ⟨by rw [List.size_toArray, List.length_map, lv], fun j k v e => by
    obtain ⟨hj, rfl, rfl⟩ := gv j k v e
    obtain ⟨b, e1, e2, e3⟩ := hus j hj
    have e4 : ps.getD j 0 = b := by rw [List.getD_eq_getElem?_getD, e1]; rfl
    refine ⟨by simp [e1, e4], .inl ?_⟩
    show s.heap.IsTuple (ps.getD j 0) _
    rw [e4]
    exact e2⟩
  have PH : PairsHave (mixKind X.prog X.w) vps.length (PairRel vps) prs := ⟨by rw [lv, hl], fun i key v e => by
    obtain ⟨hj, rfl, rfl⟩ := gv i key v e
    obtain ⟨b, e1, e2, e3⟩ := hus i hj
    refine ⟨prs[i].1, ?_, ?_⟩
    · rw [List.getElem?_eq_getElem hj]; rfl
    · rw [List.getElem?_eq_getElem hj] at e3; exact e3⟩
  refine PySem.call_dict_pairs (knd := mixKind X.prog X.w) (PairArg.tuple a (ps.map Value.ref).toArray (fun j => ps.getD j 0) vps) (I.ok.hd hcalm) ⟨⟨o, n, ho, hc, hd, hdat⟩, PI⟩ PH (by rw [lv]; exact hz) fun h' tk hd' k => ?_
  have hm : (s.heap.objs.size == sysModules) = false := beq_eq_false_iff_ne.mpr (Nat.ne_of_gt I.big)
  have hlen : (mergeK [] kvs).length ≤ sizeLine := by
    refine Nat.le_trans (length_mergeK kvs []) ?_
    rw [List.length_nil, Nat.zero_add, rel.length, hl]
    exact hz
  exact ⟨.ref s.heap.objs.size, upd H s.heap.objs.size (.dK (mergeK [] kvs)), I.laid (t' := tk) (fun b o e => k b o (by simp) e) (Nat.le_refl _) (show ObjOk X.prog X.w _ _ _ (.dK (mergeK [] kvs)) from ⟨hlen, hm, merged [] prs, KV.merge rel .nil, hd'⟩), rfl, q _ (I.hok.fresh (Nat.le_refl _))⟩
theorem dict_okP (hc : X.calm = true) (s : Same G H) {a : Addr} {o : Obj} {vs : List V} {xs : List PV} (sh : H a = some (.frz o (.tup vs))) (hd : o.dict = none) (rr : Reps X.K G vs xs) (h : GE X.K XI W G H σ (dictL [] [] xs) Q) : callCan X (.type "dict") [.ref a] H Q := by
  cases e : dictL [] [] xs with
  | bad => rw [e] at h; exact h.elim
  | exc c o => exact absurd e dictL_exc
  | ok r =>
    rw [e] at h
    obtain ⟨ps, more, ks', ws', rfl, e2, rfl, e4, e5⟩ := dictL_ok (kvs := []) s rr .nil .nil e
    refine callCan_of (call_dictPT hc) ⟨a, o, ps, more, rfl, sh, hd, e2, fun p hp => ?_⟩
    exact h.lay s hp (.dct (upd_same ..) (e4.mono (same_upd (s.free hp))) (e5.mono (same_upd (s.free hp))))
theorem keys_strs {K : PySem.W.Frag} {G : Hp} : ∀ {kvs : List (Key × V)} {ks : List PV} {ss : List (List Nat)}, strsP ks = some ss → Reps K G (kvs.map fun kv => kV kv.1) ks → kvs.map (fun kv => kv.1) = (ss.map SX.S).map Sum.inr ∧ ∀ x ∈ ss, Rep K G (.str (SX.S x)) (.str x)
  | [], ks, ss, h, r => by
    cases r
    cases h
    exact ⟨rfl, fun x hx => by cases hx⟩
  | kv :: kvs, ks, ss, h, r => by
    cases r with
    | cons r1 rs =>
      rename_i p ps
      cases p with
      | str z =>
        have h' : (strsP ps).map (z :: ·) = some ss := h
        obtain ⟨zs, e1, e2⟩ := Option.map_eq_some_iff.mp h'
        subst e2
        obtain ⟨i1, i2⟩ := keys_strs e1 rs
        obtain ⟨k, v⟩ := kv
        cases k with
        | inl i => exact nomatch r1
        | inr st =>
          have es : st = SX.S z := by
            have r1' : Rep K G (.str st) (.str z) := r1
            cases r1'
            rfl
          subst es
          refine ⟨by rw [List.map_cons, i1]; rfl, fun x hx => ?_⟩
          rcases List.mem_cons.mp hx with rfl | hx
          · exact r1
          · exact i2 x hx
      | _ => cases h
theorem strs_reps {K : PySem.W.Frag} {G : Hp} : ∀ {ss : List (List Nat)}, (∀ x ∈ ss, Rep K G (.str (SX.S x)) (.str x)) → Reps K G (ss.map (V.str ∘ SX.S)) (ss.map PV.str)
  | [], _ => .nil
  | x :: ss, h => .cons (h x List.mem_cons_self) (strs_reps fun y hy => h y (List.mem_cons_of_mem _ hy))
theorem risingS_pw : ∀ (p : Str) (l : List Str), risingS p l = true → (∀ x ∈ l, p.cps.toList ≤ x.cps.toList) ∧ l.Pairwise fun a b => a.cps.toList ≤ b.cps.toList
  | p, [], _ => ⟨(fun x hx => by cases hx), List.Pairwise.nil⟩
  | p, x :: r, h => by
    have h : (!ltCps x.cps.toList p.cps.toList && risingS x r) = true := h
    rw [Bool.and_eq_true, Bool.not_eq_true', ltCps_eq, decide_eq_false_iff_not] at h
    obtain ⟨h1, h2⟩ := risingS_pw x r h.2
    have h0 : p.cps.toList ≤ x.cps.toList := h.1
    refine ⟨fun y hy => ?_, List.pairwise_cons.mpr ⟨h1, h2⟩⟩
    rcases List.mem_cons.mp hy with rfl | hy
    · exact h0
    · exact List.le_trans h0 (h1 y hy)
theorem sortN_eq {ss : List (List Nat)} {ys : List Str} (hp : ys.Perm (ss.map SX.S)) (hs : sortedS ys = true) : ys = (sortN ss).map SX.S := by
  have p1 : (ys.map fun y => y.cps.toList).Perm ss := by
    have z := hp.map fun y : Str => y.cps.toList
    rw [List.map_map] at z
    have e : (ss.map ((fun y : Str => y.cps.toList) ∘ SX.S)) = ss := by
      show ss.map (fun x => x) = ss
      exact List.map_id' ss
    rwa [e] at z
  have p2 : (ys.map fun y => y.cps.toList).Pairwise (· ≤ ·) := by
    rw [List.pairwise_map]
    cases ys with
    | nil => exact .nil
    | cons y ys =>
      obtain ⟨a, b⟩ := risingS_pw y ys hs
      exact List.pairwise_cons.mpr ⟨a, b⟩
  have p3 : (sortN ss).Pairwise (· ≤ ·) := by
    have z := List.pairwise_mergeSort (le := fun a b : List Nat => decide (a ≤ b)) (fun a b c h1 h2 => by
      simp only [decide_eq_true_eq] at *
      exact List.le_trans h1 h2) (fun a b => by
      simp only [Bool.or_eq_true, decide_eq_true_eq]
      exact List.le_total a b) ss
    exact z.imp fun h => of_decide_eq_true h
  have e : ys.map (fun y => y.cps.toList) = sortN ss := List.Perm.eq_of_pairwise (fun a b _ _ h1 h2 => List.le_antisymm h1 h2) p2 p3 (p1.trans (List.mergeSort_perm ss _).symm)
  rw [← e, List.map_map]
  have : ∀ y : Str, SX.S y.cps.toList = y := SX.S_tl
  have e2 : ys.map (SX.S ∘ fun y : Str => y.cps.toList) = ys.map fun y => y := List.map_congr_left fun y _ => this y
  rw [e2, List.map_id']
theorem bi_ok (b : Bi) (hc : X.calm = true) (hu : X.A.units + 65 < cLine) (s : Same G H) {vs : List V} {ps : List PV} (rs : RepXs X.K G H vs ps) (h : GE X.K XI W G H σ (biP b ps) Q) : callCan X (biV b) vs H Q := by
  unfold biP at h
  split at h
  · cases rs with
    | cons r t =>
      cases t
      obtain ⟨rfl, _, hl⟩ := r.str
      refine callCan_of call_len_str ⟨_, rfl, by simpa [Str.length] using hl, ?_⟩
      have e : (Str.length ⟨(‹List Nat›).toArray⟩ : Int) = ((‹List Nat›).length : Int) := by simp [Str.length]
      rw [e]
      exact h.now s (.int _)
  · cases rs with
    | cons r t =>
      cases t
      obtain ⟨a, vs, rfl, _, sh, rr⟩ := r.tup s
      refine callCan_of call_len_seq ⟨_, _, rfl, .inr sh, ?_⟩
      rw [rr.length]
      exact h.now s (.int _)
  · cases rs with
    | cons r t =>
      cases t
      obtain ⟨a, vs, rfl, sh, rr⟩ := r.lst s
      refine callCan_of call_len_seq ⟨_, _, rfl, .inl (.inl (.inl sh)), ?_⟩
      rw [rr.length]
      exact h.now s (.int _)
  · cases rs with
    | cons r t =>
      cases t
      obtain ⟨a, rfl, sh⟩ := r.scr s
      refine callCan_of call_len_seq ⟨_, _, rfl, .inl sh, ?_⟩
      rw [List.length_map]
      exact h.now s (.int _)
  · cases rs with
    | cons r t =>
      cases t; cases r.int
      exact callCan_of call_abs ⟨_, rfl, h.now s (.int _)⟩
  · cases rs with
    | cons r t =>
      cases t with
      | cons r2 t =>
        cases t; cases r.int; cases r2.int
        exact callCan_of (call_min2 hc) ⟨_, _, rfl, h.now s (.int _)⟩
  · cases rs with
    | cons r t =>
      cases t with
      | cons r2 t =>
        cases t; cases r.int; cases r2.int
        exact callCan_of (call_max2 hc) ⟨_, _, rfl, h.now s (.int _)⟩
  · cases rs with
    | cons r t =>
      cases t
      obtain ⟨a, vs, rfl, sh, rr⟩ := r.lst s
      split at h
      · rename_i n ns e
        have ev := ints_rep rr e
        subst ev
        refine callCan_of (cr_min hc) ⟨_, _, rfl, .inl (.inl sh), by simp, fun m hm hle => ?_⟩
        have q := minL_le ns n
        have e2 : m = minL n ns := by
          have h1 : minL n ns ≤ m := by
            rcases List.mem_cons.mp hm with rfl | hm
            · exact q.1
            · exact q.2.1 m hm
          have h2 : m ≤ minL n ns := hle _ (by
            rcases q.2.2 with e | e
            · rw [e]; exact List.mem_cons_self
            · exact List.mem_cons_of_mem _ e)
          omega
        rw [e2]
        exact h.now s (.int _)
      · exact h.elim
  · cases rs with
    | cons r t =>
      cases t
      obtain ⟨a, vs, rfl, sh, rr⟩ := r.lst s
      split at h
      · rename_i n ns e
        have ev := ints_rep rr e
        subst ev
        refine callCan_of (cr_max hc) ⟨_, _, rfl, .inl (.inl sh), by simp, fun m hm hle => ?_⟩
        have q := maxL_ge ns n
        have e2 : m = maxL n ns := by
          have h1 : m ≤ maxL n ns := by
            rcases List.mem_cons.mp hm with rfl | hm
            · exact q.1
            · exact q.2.1 m hm
          have h2 : maxL n ns ≤ m := hle _ (by
            rcases q.2.2 with e | e
            · rw [e]; exact List.mem_cons_self
            · exact List.mem_cons_of_mem _ e)
          omega
        rw [e2]
        exact h.now s (.int _)
      · exact h.elim
  · cases rs with
    | cons r t =>
      cases t
      obtain ⟨a, vs, rfl, _, sh, rr⟩ := r.tup s
      split at h
      · rename_i n ns e
        have ev := ints_rep rr e
        subst ev
        refine callCan_of (cr_minT hc hu) ⟨_, n, ns, rfl, sh, ?_⟩
        exact h.now s (.int _)
      · exact h.elim
  · cases rs with
    | cons r t =>
      cases t
      obtain ⟨a, vs, rfl, _, sh, rr⟩ := r.tup s
      split at h
      · rename_i n ns e
        have ev := ints_rep rr e
        subst ev
        refine callCan_of (cr_maxT hc hu) ⟨_, n, ns, rfl, sh, ?_⟩
        exact h.now s (.int _)
      · exact h.elim
  · cases rs with
    | cons r t =>
      cases t
      obtain ⟨a, vs, rfl, sh, rr⟩ := r.lst s
      split at h
      · rename_i hk
        refine callCan_of (cr_sortedD hu) ⟨_, _, _, _, rfl, .inl (.inl sh), s, rr, hk, fun ys p hy hp => ?_⟩
        exact h.lay s hp (repLst hy (s.free hp))
      · exact h.elim
  · cases rs with
    | cons r t =>
      cases t
      obtain ⟨a, vs, rfl, sh, rr⟩ := r.lst s
      split at h
      · rename_i ns e
        have ev := ints_rep rr e
        subst ev
        exact callCan_of (cr_sum hc) ⟨_, _, rfl, .inl (.inl sh), h.now s (.int _)⟩
      · exact h.elim
  · cases rs with
    | cons r t =>
      cases t; cases r.int
      exact callCan_of call_int1 (.inl ⟨_, rfl, h.now s (.int _)⟩)
  · cases rs with
    | cons r t =>
      cases t; cases r.bl
      exact callCan_of call_int1 (.inr ⟨_, rfl, h.now s (.int _)⟩)
  · cases rs with
    | cons r t =>
      cases t
      obtain ⟨a, vs, rfl, sh, rr⟩ := r.lst s
      exact callCan_of call_tuple_of ⟨_, _, rfl, .inl ⟨.inl (.inl sh), fun c hc => h.lay s hc (repTup rr (s.free hc))⟩⟩
  · cases rs with
    | cons r t =>
      cases t
      obtain ⟨a, vs, rfl, sg, sh, rr⟩ := r.tup s
      exact callCan_of call_tuple_of ⟨_, _, rfl, .inr ⟨sh, h.now s (.tup sg rr)⟩⟩
  · cases rs with
    | cons r t =>
      cases t
      obtain ⟨a, vs, rfl, sh, rr⟩ := r.lst s
      exact callCan_of call_list_of ⟨_, _, rfl, .inl (.inl (.inl sh)), fun c hc => h.lay s hc (repLst rr (s.free hc))⟩
  · cases rs with
    | cons r t =>
      cases t
      obtain ⟨a, vs, rfl, sg, sh, rr⟩ := r.tup s
      exact callCan_of call_list_of ⟨_, _, rfl, .inr sh, fun c hc => h.lay s hc (repLst rr (s.free hc))⟩
  · cases rs with
    | cons r t =>
      cases t
      obtain ⟨a, kvs, rfl, hh, r1, r2⟩ := r.dct s
      refine callCan_of L2.call_lenD ⟨_, _, rfl, hh, ?_⟩
      have e := r1.length
      rw [List.length_map] at e
      rw [e]
      exact h.now s (.int _)
  · cases rs with
    | cons r t =>
      cases t
      split at h
      · rename_i hf
        obtain ⟨a, vs, rfl, sh, rr⟩ := r.lst s
        exact dict_ok hc s sh rr h
      · exact h.elim
  · cases rs with
    | cons r t =>
      cases t
      obtain ⟨a, kvs, rfl, hh, r1, r2⟩ := r.dct s
      split at h
      · rename_i ss e
        split at h
        · rename_i hz
          obtain ⟨e1, hr⟩ := keys_strs e r1
          refine callCan_of (call_sortedD hc) ⟨_, kvs, ss.map SX.S, rfl, .inl hh, e1, by rw [List.length_map]; exact Nat.le_of_ble_eq_true hz, fun ys p hp hs hn => ?_⟩
          rw [sortN_eq hp hs, List.map_map]
          refine h.lay s hn (repLst (strs_reps fun x hx => hr x ?_) (s.free hn))
          exact (List.mergeSort_perm ss _).mem_iff.mp hx
        · exact h.elim
      · exact h.elim
  · cases rs with
    | cons r t =>
      cases t
      obtain ⟨a, vs, rfl, sh, rr⟩ := r.lst s
      refine callCan_of call_ptuple ⟨_, _, rfl, .inl (.inl sh), fun c o hc hd => h.lay s hc ?_⟩
      exact .ptp upd_same hd (rr.mono (same_upd (s.free hc)))
  · cases rs with
    | cons r t =>
      cases t
      split at h
      · obtain ⟨a, o, vs, rfl, _, sh, hd, rr⟩ := r.ptp s
        exact dict_okP hc s sh hd rr h
      · exact h.elim
  · exact h.elim
/-! ### isinstance -/
def tyN : Ty → String
  | .int => "int" | .bool => "bool" | .str => "str" | .tuple => "tuple" | .list => "list"
def pvT : PV → String
  | .non => "NoneType" | .bl _ => "bool" | .int _ => "int" | .str _ => "str" | .tup _ => "tuple" | .lst _ => "list" | .scr _ => "list" | .dct _ _ => "dict" | .ptp _ => "tuple"
theorem tyX_rep (s : Same G H) (r : RepX X.K G H x p) : TyX X.K H x (.type (pvT p)) := by
  cases p with
  | non => cases r.non; exact .base .non
  | bl c => cases r.bl; exact .base (.bl _)
  | int i => cases r.int; exact .base (.int _)
  | str z => obtain ⟨rfl, _⟩ := r.str; exact .base (.str _)
  | tup xs =>
    obtain ⟨a, vs, rfl, _, sh, rr⟩ := r.tup s
    rcases sh with (sh | ⟨o, sh⟩) | ⟨o, its, n, h1, h2, _⟩
    · exact .base (.tup sh)
    · exact .fTuple sh
    · exact .kTuple h1 h2
  | lst xs =>
    obtain ⟨a, vs, rfl, sh, rr⟩ := r.lst s
    exact .base (.lst sh)
  | scr ns =>
    obtain ⟨a, rfl, sh⟩ := r.scr s
    rcases sh with (sh | ⟨o, sh⟩) | ⟨o, its, n, h1, h2, _⟩
    · exact .base (.lst sh)
    · exact .base (.frz sh)
    · exact .kList h1 h2
  | dct ks vs =>
    obtain ⟨a, kvs, rfl, hh, r1, r2⟩ := r.dct s
    exact .base (.dK hh)
  | ptp xs =>
    obtain ⟨a, o, vs, rfl, _, sh, _, rr⟩ := r.ptp s
    exact .fTuple sh
theorem kit_pv (t : Ty) (p : PV) : kitB (pvT p) (tyN t) = some (isiP t p) := by
  cases t <;> cases p <;> first | decide +kernel | (simp only [pvT, tyN, isiP]; decide +kernel)
theorem isi_ok (t : Ty) (s : Same G H) (r : RepX X.K G H x p) (h : GE X.K XI W G H σ (.ok (.bl (isiP t p))) Q) : callCan X (.builtin "isinstance") [x, .ty (tyN t)] H Q :=
  callCan_of call_isi ⟨_, _, _, _, _, rfl, .ty _, tyX_rep s r, kit_ty (kit_pv t p), h.now s (.bl _)⟩
end
end Z
end
section
namespace Z
open PySem PySem.Spec PyProof.Rows L2
/-! ### what a loop walks -/
/-- J goes through xs, wherever the heaps are as Cn says -/
def ItP (Cn : Hp → Hp → Prop) (K : PySem.W.Frag) (J : It) (xs : List PV) : Prop := ∀ (i : Nat) (G H : Hp), Cn G H → Same G H →
  (∀ x, xs[i]? = some x → J.go i H ∧ ∀ v H', J.yld i H v H' → ∃ G', Ext G H G' H' ∧ Rep K G' v x) ∧ (xs.length ≤ i → J.stop i H)
theorem ItP.imp {Cn Cn' : Hp → Hp → Prop} {K : PySem.W.Frag} {J : It} {xs : List PV} (h : ItP Cn K J xs) (w : ∀ G H, Cn' G H → Cn G H) : ItP Cn' K J xs := fun i G H c s => h i G H (w G H c) s
/-- the frozen part has but grown; all has but grown -/
abbrev CF (G1 : Hp) : Hp → Hp → Prop := fun G _ => Same G1 G
abbrev CC (G1 H1 : Hp) : Hp → Hp → Prop := fun G H => Ext G1 H1 G H
section
variable {Cn : Hp → Hp → Prop} {K : PySem.W.Frag} {xs ys : List PV} {vs ws : List V} {a b : Addr}
theorem itl_ok (h : ∀ G H, Cn G H → Same G H → SqL K H a vs ∧ Reps K G vs xs) : ItP Cn K (Itl K a) xs := fun i G H c s => by
  obtain ⟨hs, r⟩ := h G H c s
  refine ⟨fun x hx => ?_, fun hl => ⟨vs, hs, by rw [r.length]; exact hl⟩⟩
  obtain ⟨v, hv, rv⟩ := r.get hx
  refine ⟨⟨vs, v, hs, hv⟩, fun u H' hy => ?_⟩
  obtain ⟨rfl, hf⟩ := hy
  have e := hf vs hs
  rw [hv] at e; cases e
  exact ⟨G, Ext.refl s, rv⟩
theorem itt_ok (h : ∀ G H, Cn G H → Same G H → SqT K H a vs ∧ Reps K G vs xs) : ItP Cn K (Itt K a) xs := fun i G H c s => by
  obtain ⟨hs, r⟩ := h G H c s
  refine ⟨fun x hx => ?_, fun hl => ⟨vs, hs, by rw [r.length]; exact hl⟩⟩
  obtain ⟨v, hv, rv⟩ := r.get hx
  refine ⟨⟨vs, v, hs, hv⟩, fun u H' hy => ?_⟩
  obtain ⟨rfl, hf⟩ := hy
  have e := hf vs hs
  rw [hv] at e; cases e
  exact ⟨G, Ext.refl s, rv⟩
theorem its_ok {x : List Nat} (hx : ∀ c ∈ x, c < 1114112) : ItP Cn K (Its ⟨x.toArray⟩) (x.map fun c => PV.str [c]) := fun i G H c s => by
  refine ⟨fun p hp => ?_, fun hl => by
    show x.toArray.size ≤ i
    simpa using hl⟩
  rw [List.getElem?_map, Option.map_eq_some_iff] at hp
  obtain ⟨d, h1, rfl⟩ := hp
  have hi : i < x.length := (List.getElem?_eq_some_iff.mp h1).1
  refine ⟨by
    show i < x.toArray.size
    simpa using hi, fun u H' hy => ?_⟩
  obtain ⟨rfl, e, he, rfl⟩ := hy
  have he' : x[i]? = some e := by simpa using he
  rw [h1] at he'; cases he'
  refine ⟨G, Ext.refl s, .str [_] (fun z hz => ?_) (by show 1 ≤ 16777216; decide)⟩
  rcases List.mem_singleton.mp hz with rfl
  exact hx _ (List.mem_of_getElem? h1)
theorem upL_get : ∀ (n : Nat) (lo : Int) (i : Nat), (upL lo n)[i]? = if i < n then some (.int (lo + i)) else none
  | 0, lo, i => by simp [upL]
  | n + 1, lo, 0 => by simp [upL]
  | n + 1, lo, i + 1 => by
    simp only [upL, List.getElem?_cons_succ]
    rw [upL_get n (lo + 1) i]
    by_cases h : i < n
    · rw [if_pos h, if_pos (by omega)]
      congr 2
      push_cast
      omega
    · rw [if_neg h, if_neg (by omega)]
theorem dnL_get : ∀ (n : Nat) (lo : Int) (i : Nat), (dnL lo n)[i]? = if i < n then some (.int (lo + (i : Nat) * (-1))) else none
  | 0, lo, i => by simp [dnL]
  | n + 1, lo, 0 => by simp [dnL]
  | n + 1, lo, i + 1 => by
    simp only [dnL, List.getElem?_cons_succ]
    rw [dnL_get n (lo - 1) i]
    by_cases h : i < n
    · rw [if_pos h, if_pos (by omega)]
      congr 2
      push_cast
      omega
    · rw [if_neg h, if_neg (by omega)]
theorem upL_len : ∀ (n : Nat) (lo : Int), (upL lo n).length = n
  | 0, _ => rfl
  | n + 1, lo => by simp [upL, upL_len n]
theorem dnL_len : ∀ (n : Nat) (lo : Int), (dnL lo n).length = n
  | 0, _ => rfl
  | n + 1, lo => by simp [dnL, dnL_len n]
theorem itr_ok (lo : Int) (n : Nat) : ItP Cn K (Itr lo n) (upL lo n) := fun i G H c s => by
  refine ⟨fun p hp => ?_, fun hl => by rw [upL_len] at hl; exact hl⟩
  rw [upL_get] at hp
  split at hp
  · rename_i h
    cases hp
    refine ⟨h, fun u H' hy => ?_⟩
    obtain ⟨rfl, rfl⟩ := hy
    exact ⟨G, Ext.refl s, .int _⟩
  · cases hp
theorem itc_ok (lo : Int) (n : Nat) : ItP Cn K (Itc lo (-1) n) (dnL lo n) := fun i G H c s => by
  refine ⟨fun p hp => ?_, fun hl => by rw [dnL_len] at hl; exact hl⟩
  rw [dnL_get] at hp
  split at hp
  · rename_i h
    cases hp
    refine ⟨h, fun u H' hy => ?_⟩
    obtain ⟨rfl, rfl⟩ := hy
    exact ⟨G, Ext.refl s, .int _⟩
  · cases hp
theorem enuL_get : ∀ (xs : List PV) (n i : Nat), (enuL n xs)[i]? = xs[i]?.map fun x => .tup [.int ((n + i : Nat) : Int), x]
  | [], n, i => by simp [enuL]
  | x :: xs, n, 0 => by simp [enuL]
  | x :: xs, n, i + 1 => by
    simp only [enuL, List.getElem?_cons_succ]
    rw [enuL_get xs (n + 1) i]
    congr 1
    funext z
    congr 3
    omega
theorem enuL_len : ∀ (xs : List PV) (n : Nat), (enuL n xs).length = xs.length
  | [], _ => rfl
  | x :: xs, n => by simp [enuL, enuL_len xs]
theorem ite_ok (h : ∀ G H, Cn G H → Same G H → SqL K H a vs ∧ Reps K G vs xs) : ItP Cn K (Ite K a) (enuL 0 xs) := fun i G H c s => by
  obtain ⟨hs, r⟩ := h G H c s
  refine ⟨fun p hp => ?_, fun hl => ⟨vs, hs, by rw [r.length]; rw [enuL_len] at hl; exact hl⟩⟩
  rw [enuL_get, Option.map_eq_some_iff] at hp
  obtain ⟨x, hx, rfl⟩ := hp
  obtain ⟨v, hv, rv⟩ := r.get hx
  refine ⟨⟨vs, v, hs, hv⟩, fun u H' hy => ?_⟩
  obtain ⟨T, z, rfl, hT, rfl, hf⟩ := hy
  have e := hf vs hs
  rw [hv] at e; cases e
  refine ⟨upd G T (.tup [.int (i : Nat), v]), Ext.new s hT, ?_⟩
  have gT : G T = none := s.free hT
  refine .tup (.inl (.inl upd_same)) (.cons ?_ (.cons (rv.mono (same_upd gT)) .nil))
  rw [Nat.zero_add]
  exact .int _
theorem zipL_get : ∀ (xs ys : List PV) (i : Nat), (zipL xs ys)[i]? = match xs[i]?, ys[i]? with | some x, some y => some (.tup [x, y]) | _, _ => none
  | [], ys, i => by simp [zipL]
  | x :: xs, [], i => by
    simp only [zipL, List.getElem?_nil]
    split <;> simp_all
  | x :: xs, y :: ys, 0 => by simp [zipL]
  | x :: xs, y :: ys, i + 1 => by
    simp only [zipL, List.getElem?_cons_succ]
    exact zipL_get xs ys i
theorem zipL_len : ∀ (xs ys : List PV), (zipL xs ys).length = min xs.length ys.length
  | [], ys => by simp [zipL]
  | x :: xs, [] => by simp [zipL]
  | x :: xs, y :: ys => by simp [zipL, zipL_len xs ys]
theorem zip_cases {xs ys : List PV} {i : Nat} {p : PV} (hp : (zipL xs ys)[i]? = some p) : ∃ x y, xs[i]? = some x ∧ ys[i]? = some y ∧ p = .tup [x, y] := by
  rw [zipL_get] at hp
  split at hp
  · rename_i x y h1 h2
    cases hp
    exact ⟨x, y, h1, h2, rfl⟩
  · cases hp
theorem itz_ok (h : ∀ G H, Cn G H → Same G H → (SqL K H a vs ∧ Reps K G vs xs) ∧ SqL K H b ws ∧ Reps K G ws ys) : ItP Cn K (Itz K a b) (zipL xs ys) := fun i G H c s => by
  obtain ⟨⟨hs, r⟩, hs2, r2⟩ := h G H c s
  refine ⟨fun p hp => ?_, fun hl => ⟨vs, ws, hs, hs2, by rw [r.length, r2.length]; rw [zipL_len] at hl; omega⟩⟩
  obtain ⟨x, y, hx, hy, rfl⟩ := zip_cases hp
  obtain ⟨v, hv, rv⟩ := r.get hx
  obtain ⟨v2, hv2, rv2⟩ := r2.get hy
  refine ⟨⟨vs, ws, v, v2, hs, hs2, hv, hv2⟩, fun u H' hy => ?_⟩
  obtain ⟨T, z, z2, rfl, hT, rfl, hf, hf2⟩ := hy
  have e := hf vs hs
  rw [hv] at e; cases e
  have e := hf2 ws hs2
  rw [hv2] at e; cases e
  refine ⟨upd G T (.tup [v, v2]), Ext.new s hT, ?_⟩
  have gT : G T = none := s.free hT
  exact .tup (.inl (.inl upd_same)) (.cons (rv.mono (same_upd gT)) (.cons (rv2.mono (same_upd gT)) .nil))
theorem itzt_ok (h : ∀ G H, Cn G H → Same G H → (SqT K H a vs ∧ Reps K G vs xs) ∧ SqT K H b ws ∧ Reps K G ws ys) : ItP Cn K (RZ.ItzT K a b) (zipL xs ys) := fun i G H c s => by
  obtain ⟨⟨hs, r⟩, hs2, r2⟩ := h G H c s
  refine ⟨fun p hp => ?_, fun hl => ⟨vs, ws, hs, hs2, by rw [r.length, r2.length]; rw [zipL_len] at hl; omega⟩⟩
  obtain ⟨x, y, hx, hy, rfl⟩ := zip_cases hp
  obtain ⟨v, hv, rv⟩ := r.get hx
  obtain ⟨v2, hv2, rv2⟩ := r2.get hy
  refine ⟨⟨vs, ws, v, v2, hs, hs2, hv, hv2⟩, fun u H' hy => ?_⟩
  obtain ⟨T, z, z2, rfl, hT, rfl, hf, hf2⟩ := hy
  have e := hf vs hs
  rw [hv] at e; cases e
  have e := hf2 ws hs2
  rw [hv2] at e; cases e
  refine ⟨upd G T (.tup [v, v2]), Ext.new s hT, ?_⟩
  have gT : G T = none := s.free hT
  exact .tup (.inl (.inl upd_same)) (.cons (rv.mono (same_upd gT)) (.cons (rv2.mono (same_upd gT)) .nil))
end
end Z
end
section
/-! Z: errors that carry a field. -/
namespace Z
open PySem PySem.Spec PyProof.Rows L2
/-! ### isinstance of an error that has a dict -/
section
open PySem.W PySem.Calls
variable {prog : Program} {w : World} {A : Around} {E : Value → Shared → Prop} {s : Shared} {K : PySem.W.Frag} {x D : Addr} {ox : Obj} {od : Obj}
theorem kin_classX {Q : Option Value → Shared → Prop} (C : ExcC K D)
    (X : K.In s.heap) (I : InstAt s.heap x ox D (some od)) (h : Q (some (.ref D)) { s with toks := s.toks + 1 }) : wpAny (model prog w) A (getAttr? (.ref x) "__class__") Q E s := by
  obtain ⟨hga, hgt, hsub, hdct, ha, hn, htk, hm⟩ := C
  have hf : findObj K D (some od) "__class__" = some (.bind (.builtin "getset_descriptor.__get__") (.builtin "object.__class__")) := findObj_data (by obtain ⟨cd, hc, _⟩ := any_some hdct; rw [hc]; rfl) ha hn htk
  obtain ⟨hp, g, d, t, os⟩ := s
  have L0 := I.type (M := model prog w)
  have L1 := looks_findIn (M := model prog w) X hga
  have L2 := looks_findIn (M := model prog w) X hgt
  have L3 := looks_find (M := model prog w) X I hf
  have sub : Looks (model prog w) hp (isInstance (.ref x) (.type "BaseException")) true := L0.andThen (looks_subIn X hsub)
  have hx0 : (false && onTheHeap (Value.builtin "BaseException.__getattribute__")) = false := rfl
  have hx2 : (Value.builtin "BaseException.__getattribute__" == Value.builtin "object.__getattribute__") = false := by decide +kernel
  have hx1 : (onTheHeap (Value.ref D) && Value.builtin "BaseException.__getattribute__" == Value.builtin "object.__getattribute__") = false := by rw [hx2]; rfl
  unfold getAttr? getAttrBy? getAttrBy
  refine wpAny_bind (wpAny_mkText (wpAny_bind (wpAny_attempt (wpAny_holding (wpAny_bind (L0.at (wpAny_bind (L1.at ?_))))))))
  show wpAny _ _ (if (onTheHeap (Value.ref D) && Value.builtin "BaseException.__getattribute__" == Value.builtin "object.__getattribute__") = true then _ else _) _ _ _
  rw [hx1, if_neg Bool.false_ne_true]
  unfold getAttrByItsOwn hookBefore
  refine wpAny_bind ?_
  rw [if_pos (show onTheHeap (Value.ref D) = true from rfl)]
  refine L2.at ?_
  refine wpAny_bind (wpAny_attempt (wpAny_holding ?_))
  unfold callGetattribute
  rw [hx0, if_neg Bool.false_ne_true]
  unfold boundAndCalled
  rw [PySem.F.excAttr_ValueError.ga.bind (.ref x)]
  refine wpAny_bind (wpAny_pure ?_)
  show wpAny _ _ (call (.builtin "BaseException.__getattribute__") [.ref x, .str "__class__" t]) _ _ _
  refine wpAny_call (codeAny_call_builtin PySem.F.excAttr_ValueError.ga.plain PySem.F.entry_bexc_ga ?_)
  refine @check_slot (model prog w) _ _ ⟨hp, g, d, t + 1, os⟩ "BaseException.__getattribute__" "BaseException" "__getattribute__" (.ref x) [.str "__class__" t] [] _ (by decide +kernel) (by decide +kernel) sub (PySem.F.args_bexc_ga (.ref x) (.str "__class__" t)) ?_
  unfold Builtin.«object.__getattribute__»
  refine wpAny_bind (wpAny_of_eq (a := ((Value.ref x : Value), [Value.str "__class__" t])) (by first | rfl | (simp only [slotArgs]; rfl)) ?_)
  refine wpAny_bind (wpAny_pure (wpAny_bind (L0.at (wpAny_bind (L3.at ?_)))))
  show wpAny _ _ (holding [Value.builtin "object.__class__"] (call (.builtin "getset_descriptor.__get__") [.builtin "object.__class__", .ref x, .ref D]) >>= ret) _ _ _
  refine wpAny_bind (wpAny_holding (wpAny_call (class_get (s := ⟨hp, g, d, t + 1, os⟩) (ox := ox) (od := some od) X I hm ?_)))
  refine wpAny_pure ?_
  show wpAny _ _ (handedOut (.ref D)) _ _ _
  rw [handedOut_of (v := .ref D) rfl]
  first
    | exact wpAny_pure (wpAny_pure h)
    | exact wpAny_pure h
    | exact wpAny_pure (wpAny_bind (wpAny_pure (wpAny_pure h)))
theorem kitx_x (C : ExcC K D) : KitX K (.ref x) (.ref D) (fun h => InstAt h x ox D (some od)) where
  ty := fun _ _ _ I => I.type
  it := fun _ _ X _ => by
    obtain ⟨cdD, hcD, _⟩ := any_some C.hd
    unfold clsIn at hcD
    split at hcD
    · rename_i c' d' cd' sl' ho
      intro A' Q' E' s' k q
      unfold isType loadHead
      exact wpAny_bind (wpAny_loadPart (k _ _ (X _ _ ho)) (wpAny_pure q))
    · cases hcD
  ne := fun h tp dd its n sl X htp => by
    obtain ⟨cdD, hcD, _⟩ := any_some C.hd
    refine Bool.eq_false_iff.mpr fun q => ?_
    have e : D = tp := Value.ref.inj (beq_iff_eq.mp q)
    subst e
    unfold clsIn at hcD
    split at hcD
    · rename_i c' d' cd' sl' ho
      have z := (X _ _ ho).symm.trans htp
      cases z
    · cases hcD
  ca := fun X I k => kin_classX C X I k
end
/-- isinstance(e, c), e an error that carries fields -/
def rIsX (K : PySem.W.Frag) (D a dd : Addr) : List V → Hp → VK → Prop := fun xs H Q => ∃ (c : V) (cv : Value) (b : Bool) (fs : List (Str × V)), xs = [.ref a, c] ∧ (∀ u, RelV c u → u = cv) ∧ PySem.W.kitOne K (.ref D) cv = some b ∧ H dd = some (.xd fs) ∧ Q (.bl b) H
theorem call_isX {X : Cx} {a D dd : Addr} {oe : Obj} {pn : List (Addr × Obj)} (C : ExcC X.K D) (hz : Zc (.ref D) (some dd) oe) (hf : ∃ vs, oe.data = .fields vs) : CallR (X.suite a ((a, oe) :: pn)) (.builtin "isinstance") (rIsX X.K D a dd) := by
  intro pins s σ H xs us Q I r h
  obtain ⟨c, cv, b, fs, rfl, hcv, e, hd, q⟩ := h
  cases r with
  | cons rx rr =>
    cases rr with
    | cons rt rr =>
      cases rr
      cases rx
      have ec := hcv _ rt
      subst ec
      obtain ⟨hget, _⟩ := I.pin (a, oe) (List.mem_append.mpr (.inl List.mem_cons_self))
      obtain ⟨vs, hv⟩ := hf
      have hx : ObjOk X.prog X.w H s.heap dd (.xd fs) := I.hok dd _ hd
      obtain ⟨mA, hns, hr⟩ := hx
      obtain ⟨od, ho, hl⟩ := (lookIn_ns hns : ∃ o, s.heap.get? dd = some o ∧ ∀ x, PySem.W.lookIn x o = some (mA x))
      have J : PySem.W.InstAt s.heap a oe D (some od) := ⟨hget, hz.1, by unfold PySem.W.notCls; rw [hv] <;> rfl, by rw [hz.2]; exact ho⟩
      exact PySem.W.kia_one (kitx_x C) I.kIn J e (fun z => nomatch z) fun tk => ⟨.bl b, H, I.kept (t' := tk) fun _ _ z => z, rfl, q⟩
/-! ### Base.__init__(self, ..), Base an error class of the module -/
structure XB0 (K : PySem.W.Frag) (Cb : Addr) : Prop where
  rd : PySem.W.readsIn K Cb (.type "type") = true
  ga : PySem.W.specialIn K (.ref Cb) "__getattribute__" = some (some (.builtin "type.__getattribute__"))
  vi : PySem.W.findCls K (.ref Cb) (.type "type") "__init__" = some (.val (.builtin "ValueError.__init__"))
theorem pe_cinit {X : Cx} {Cb : Addr} {x : Str} {e : Expr} {es : List Expr} {ta : TA} {p1 p2 pos : Pos} {pl : Sem Bool} (T : XB0 X.K Cb) (hg : Gl X x) (hm : X.mg x = some (.ref Cb)) (hdb : (x == ("__debug__" : Str)) = false) (ha : PA X (e :: es) ta)
    (hc : eval (.Call (.Attribute (.Name x p1) "__init__" p2) (e :: es) [] pos) X.env = (do
      let ov ← eval (.Name x p1) X.env
      standAt p2.atName
      let (f, first) ← holding [ov] (getMethod ov "__init__" pl)
      callWith pos f first (backTo pos (starEach (e :: es) X.env)) (backToKw pos (keywordEach [] X.env))) := by rfl)
    (he : starEach (e :: es) X.env = (false, eval e X.env) :: starEach es X.env := by rfl) (hpl : (backTo pos (starEach es X.env)).any (·.1) = false := by rfl) :
    PE X (.Call (.Attribute (.Name x p1) "__init__" p2) (e :: es) [] pos) (tVeI X.K ta) := by
  refine ⟨fun pins s σ H Q I h => ?_⟩
  refine PySem.W.methodCall_KW (ld_glob I hg hm ?_ hdb) hc
  refine PySem.W.method_cls I.kIn T.ga (PySem.W.cls_value I.kIn T.rd T.vi rfl ?_)
  show wpAny _ _ (callWith pos (Value.builtin "ValueError.__init__") [] (backTo pos (starEach (e :: es) X.env)) []) _ _ _
  refine PyProof.Rows.callWith_method1 (thn (ha.run pos pins _ σ H _ (I.tok _) h) fun us s1 ⟨vs, H1, I1, r1, a, C, ws, ev, hl, T, ea, q⟩ => ?_) he hpl
  subst ev
  cases r1 with
  | @cons _ u0 _ ur ra rw' =>
    obtain rfl : u0 = Value.ref a := ra
    have hlen : ur.length ≤ sizeLine := by
      rw [← Paired.length rw', sizeLine_eq]
      omega
    exact oinit_ok T I1 ea hlen fun s' J => ⟨.non, H1, J, rfl, q⟩
/-! ### the class, its __init__ -/
/-- what __init__ does: the one field is laid down -/
def spI (C : Addr) (fl : Str) : Sp := fun vs H Q _ => ∃ a v, vs = [.ref a, v] ∧ H a = some (exo a C none) ∧ ∀ dx, H dx = none → dx ≠ a → Q .non (upd (upd H dx (exd dx [(fl, v)])) a (exo a C (some dx)))
/-- an error class with a field -/
structure XO (P : Program) (w : World) (K : PySem.W.Frag) (mg : Str → Option Value) (base : Heap) (C : Addr) (fl : Str) : Prop where
  oc : OexC K C
  xf : XfC K C
  no : PySem.W.findIn K (.ref C) fl = some none
  ini : ∃ (fI : Addr) (fd : FuncData) (ps : List Str), PySem.W.findIn K (.ref C) "__init__" = some (some (.ref fI)) ∧ PySem.W.typeIn K (.ref fI) = some (.type "function") ∧ Binds K fd ps [] ∧ FnOk P w K mg base (CX P w) 1 fI fd ps (spI C fl)
theorem upd_xd {H : Hp} {a C dx : Addr} {fs : List (Str × V)} (ha : H a = none) (hd : dx ≠ a) : upd (del (upd (upd (upd H a (exo a C none)) dx (exd dx fs)) a (exo a C (some dx))) a) dx (.xd fs) = upd H dx (.xd fs) := by
  funext b
  by_cases h1 : b = dx
  · subst h1; rw [upd_same, upd_same]
  · rw [upd_ne h1, upd_ne h1]
    by_cases h2 : b = a
    · subst h2; rw [del_same, ha]
    · rw [del_ne h2, upd_ne h2, upd_ne h1, upd_ne h2]
/-- the new error -/
theorem mk_x {X : Cx} {W : WX} {x : Str} {C : Addr} {fl : Str} {e : Expr} {ta : TA} {p pos : Pos} {k : Nat} (T : XO X.prog X.w X.K X.mg X.base C fl) (tk : Takes X W) (hr : Room (k + 2) X.A) (hg : Gl X x) (hm : X.mg x = some (.ref C)) (ha : PA X [e] ta) (hdb : (x == ("__debug__" : Str)) = false)
    (he : starEach [e] X.env = (false, eval e X.env) :: starEach [] X.env) :
    PMk X (.Call (.Name x p) [e] [] pos) (tMkO C (spI C fl) [] ta) := by
  obtain ⟨fI, fd, ps, i1, i2, i3, i4⟩ := T.ini
  exact pmk_oex T.oc i1 i2 i4 (hr.mono (by omega)) i3 .nil (fun pins σ H s e s' I c => tk e s' (XE.of_call I (fun _ _ _ h => h.elim) c)) hg hm ha hdb he rfl
/-- what it makes of a value -/
theorem mk_x_of {C : Addr} {fl : Str} {ta : TA} {σ : L2.St} {H : Hp} {Q : XK} (h : ta σ H fun vs H1 => ∃ v, vs = [v] ∧ ∀ dx, H1 dx = none → Q (.ref C) (some dx) (upd H1 dx (.xd [(fl, v)]))) (mono : ∀ (q q' : List V → Hp → Prop), (∀ vs H, q vs H → q' vs H) → ta σ H q → ta σ H q') : tMkO C (spI C fl) [] ta σ H Q := by
  refine mono _ _ (fun vs H1 z => ?_) h
  obtain ⟨v, rfl, z⟩ := z
  refine ⟨by simp, fun a ha => ⟨a, v, rfl, upd_same, fun dx hd hne => ⟨rfl, dx, [(fl, v)], upd_same, by rw [upd_ne hne, upd_same], by rwa [upd_ne hne] at hd, ?_⟩⟩⟩
  rw [upd_xd ha hne]
  exact z dx (by rwa [upd_ne hne] at hd)
end Z
end
section
namespace Z
open PySem PySem.Spec PyProof.Rows L2
/-! ### the text: is it this term of the small language? -/
/-- the tables: names of defs, constants, error classes, their fields; constants; which class is under which; the defs; how long a while may go -/
structure Tb where
  fnm : Nat → Option Str
  cnm : Nat → Option Str
  xnm : Nat → Option Str
  xfl : Nat → Option Str
  κ : Cons
  cx : Nat → Nat → Bool
  TT : Nat → Option FnD
  wf : Nat
def sEq (x y : Str) : Bool := decide (x = y)
def visB (sc : Scope) (x : Str) : Bool := match sc.names.lookup x with
  | some .local => true
  | some .cell => true
  | some .free => true
  | _ => false
def locB (sc : Scope) (x : Str) : Bool := match sc.names.lookup x with
  | some .local => true
  | some .cell => true
  | _ => false
def glB (sc : Scope) (x : Str) : Bool := (match sc.names.lookup x with
  | some .globalImplicit => true
  | _ => false) && !(x == ("__debug__" : Str)) && !sEq x "__name__"
def ixB (N : List Str) (i : Nat) (x : Str) : Bool := match N[i]? with
  | some y => sEq y x
  | none => false
def ckVar (N : List Str) (sc : Scope) (i : Nat) (x : Str) : Bool := ixB N i x && visB sc x && !(x == ("__debug__" : Str)) && !(x == ("__classdict__" : Str))
def ckK : PV → Const → Bool
  | .non, .none => true
  | .bl a, .bool b => a == b
  | .int i, .int j => decide (i = j)
  | .str s, .str z => decide (z = ⟨s.toArray⟩) && (s.all fun c => Nat.blt c 1114112) && fits s.length
  | _, _ => false
def nmB (o : Option Str) (x : Str) : Bool := match o with
  | some y => sEq y x
  | none => false
def bopB : Bop → Operator → Bool
  | .add, .Add => true | .sub, .Sub => true | .mul, .Mult => true | .fdv, .FloorDiv => true | .mod, .Mod => true | .pow, .Pow => true
  | _, _ => false
def copB : Cop → CmpOp → Bool
  | .eq, .Eq => true | .ne, .NotEq => true | .lt, .Lt => true | .le, .LtE => true | .gt, .Gt => true | .ge, .GtE => true
  | .isn, .Is => true | .nisn, .IsNot => true | .inn, .In => true | .nin, .NotIn => true
  | _, _ => false
def notSet : Expr → Bool
  | .Set _ _ _ => false
  | _ => true
def notStar : Expr → Bool
  | .Starred _ _ => false
  | _ => true
def notSlice : Expr → Bool
  | .Slice _ _ _ _ => false
  | _ => true
/-- the test is the value's truth -/
def plainT : Expr → Bool
  | .UnaryOp .Not _ _ => false
  | .BoolOp _ _ _ => false
  | .IfExp _ _ _ _ => false
  | .Compare _ _ _ _ => false
  | _ => true
def biN : Bi → Str
  | .len => "len" | .abs => "abs" | .min2 => "min" | .max2 => "max" | .min1 => "min" | .max1 => "max" | .sum => "sum" | .int => "int" | .tuple => "tuple" | .list => "list" | .sorted => "sorted" | .dict => "dict" | .ptuple => "tuple"
def tyS : Ty → Str
  | .int => "int" | .bool => "bool" | .str => "str" | .tuple => "tuple" | .list => "list"
def isTupE : Expr → Bool
  | .Tuple _ _ _ => true
  | _ => false
def ownOf (N : List Str) (scope : Scope) : List (Str × Nat) := scope.names.filterMap fun y => match y.2 with
  | .local => (N.findIdx? fun z => sEq z y.1).map fun i => (y.1, i)
  | .cell => (N.findIdx? fun z => sEq z y.1).map fun i => (y.1, i)
  | _ => none
/-- the slots that a target stores -/
def tgS : C → List Nat
  | .tn i => [i]
  | .tt ts => tgS ts
  | .cons a b => tgS a ++ tgS b
  | _ => []
def isTrueC : C → Bool
  | .k (.bl true) => true
  | _ => false
def plainBase : Expr → Bool
  | .Call _ _ _ _ => false
  | _ => true
mutual
def ckG (N : List Str) (sc : Scope) : C → Expr → Bool
  | .tn i, .Name x _ => ixB N i x && locB sc x
  | .tt ts, .Tuple xs _ _ => ckGs N sc ts xs
  | _, _ => false
def ckGs (N : List Str) (sc : Scope) : C → List Expr → Bool
  | .nil, [] => true
  | .cons t ts, x :: xs => ckG N sc t x && ckGs N sc ts xs
  | _, _ => false
end
/-- the looks at one term: as an expression (rd: a list of one's own may be read), as the rest of an and | or, as arguments, as a slice's part, as a test, as the rest of a test, as what a loop goes through -/
structure Ck where
  e : Bool → Scope → Expr → Bool
  b : BoolOp → Scope → List Expr → Bool
  a : Bool → Scope → List Expr → Bool
  p : Scope → Option Expr → Bool
  t : Scope → Expr → Bool
  tb : BoolOp → Scope → List Expr → Bool
  i : Bool → Bool → Scope → Expr → Bool
def no1 : BoolOp → Scope → List Expr → Bool := fun _ _ _ => false
def eNo : Bool → Scope → Expr → Bool := fun _ _ _ => false
def aNo : Bool → Scope → List Expr → Bool := fun _ _ _ => false
def pNo : Scope → Option Expr → Bool := fun _ _ => false
def tNo : Scope → Expr → Bool := fun _ _ => false
def iNo : Bool → Bool → Scope → Expr → Bool := fun _ _ _ _ => false
def tOf (e : Bool → Scope → Expr → Bool) : Scope → Expr → Bool := fun sc x => e true sc x && plainT x
def mkC (e : Bool → Scope → Expr → Bool) (t : Scope → Expr → Bool) (bx tbx : BoolOp → Scope → List Expr → Bool) : Ck where
  e := e
  b := fun op sc xs => match xs with
    | [x] => e false sc x
    | _ => bx op sc xs
  a := aNo
  p := fun sc o => match o with
    | some x => e false sc x
    | none => false
  t := t
  tb := fun op sc xs => match xs with
    | [x] => t sc x
    | _ => tbx op sc xs
  i := iNo
def mkE (e : Bool → Scope → Expr → Bool) : Ck := mkC e (tOf e) no1 no1
def mkA (a : Bool → Scope → List Expr → Bool) : Ck := ⟨eNo, no1, a, pNo, tNo, no1, iNo⟩
def mkI (i : Bool → Bool → Scope → Expr → Bool) : Ck := ⟨eNo, no1, aNo, pNo, tNo, no1, i⟩
def mkP (p : Scope → Option Expr → Bool) : Ck := ⟨eNo, no1, aNo, p, tNo, no1, iNo⟩
section
variable (B : Tb) (N : List Str)
def eV (i : Nat) : Bool → Scope → Expr → Bool := fun _ sc e => match e with
  | .Name x _ => ckVar N sc i x
  | _ => false
def eRd (i : Nat) : Bool → Scope → Expr → Bool := fun rd sc e => match e with
  | .Name x _ => rd && ckVar N sc i x
  | _ => false
def eK (p : PV) : Bool → Scope → Expr → Bool := fun _ _ e => match e with
  | .Constant c _ _ => ckK p c
  | _ => false
def eG (i : Nat) : Bool → Scope → Expr → Bool := fun _ sc e => match e with
  | .Name x _ => nmB (B.cnm i) x && glB sc x
  | _ => false
def eBin (op : Bop) (a b : Ck) : Bool → Scope → Expr → Bool := fun _ sc e => match e with
  | .BinOp x o y _ => bopB op o && a.e true sc x && b.e true sc y
  | _ => false
def eNeg (a : Ck) : Bool → Scope → Expr → Bool := fun _ sc e => match e with
  | .UnaryOp .USub x _ => a.e false sc x
  | _ => false
def eNt (a : Ck) : Bool → Scope → Expr → Bool := fun _ sc e => match e with
  | .UnaryOp .Not x _ => a.e true sc x
  | _ => false
def tNt (a : Ck) : Scope → Expr → Bool := fun sc e => match e with
  | .UnaryOp .Not x _ => a.t sc x
  | _ => false
def eCmp (op : Cop) (a b : Ck) : Bool → Scope → Expr → Bool := fun _ sc e => match e with
  | .Compare x [o] [y] _ => copB op o && a.e true sc x && b.e true sc y && notSet y
  | _ => false
def eChn (op op' : Cop) (a b c : Ck) : Bool → Scope → Expr → Bool := fun _ sc e => match e with
  | .Compare x [o, o'] [y, z] _ => copB op o && copB op' o' && a.e true sc x && b.e true sc y && c.e true sc z && notSet z
  | _ => false
def eChn3 (op op' op'' : Cop) (a b c d : Ck) : Bool → Scope → Expr → Bool := fun _ sc e => match e with
  | .Compare x [o, o', o''] [y, z, w] _ => copB op o && copB op' o' && copB op'' o'' && a.e true sc x && b.e true sc y && c.e true sc z && d.e true sc w && notSet w
  | _ => false
def eAn (a b : Ck) : Bool → Scope → Expr → Bool := fun _ sc e => match e with
  | .BoolOp .And (x :: y :: r) _ => a.e false sc x && b.b .And sc (y :: r)
  | _ => false
def bAn (a b : Ck) : BoolOp → Scope → List Expr → Bool := fun op sc xs => match op, xs with
  | .And, x :: y :: r => a.e false sc x && b.b .And sc (y :: r)
  | _, _ => false
def tAn (a b : Ck) : Scope → Expr → Bool := fun sc e => match e with
  | .BoolOp .And (x :: y :: r) _ => a.t sc x && b.tb .And sc (y :: r)
  | _ => false
def tbAn (a b : Ck) : BoolOp → Scope → List Expr → Bool := fun op sc xs => match op, xs with
  | .And, x :: y :: r => a.t sc x && b.tb .And sc (y :: r)
  | _, _ => false
def eOr (a b : Ck) : Bool → Scope → Expr → Bool := fun _ sc e => match e with
  | .BoolOp .Or (x :: y :: r) _ => a.e false sc x && b.b .Or sc (y :: r)
  | _ => false
def bOr (a b : Ck) : BoolOp → Scope → List Expr → Bool := fun op sc xs => match op, xs with
  | .Or, x :: y :: r => a.e false sc x && b.b .Or sc (y :: r)
  | _, _ => false
def tOr' (a b : Ck) : Scope → Expr → Bool := fun sc e => match e with
  | .BoolOp .Or (x :: y :: r) _ => a.t sc x && b.tb .Or sc (y :: r)
  | _ => false
def tbOr (a b : Ck) : BoolOp → Scope → List Expr → Bool := fun op sc xs => match op, xs with
  | .Or, x :: y :: r => a.t sc x && b.tb .Or sc (y :: r)
  | _, _ => false
def eIfe (c a b : Ck) : Bool → Scope → Expr → Bool := fun _ sc e => match e with
  | .IfExp t x y _ => c.t sc t && a.e false sc x && b.e false sc y
  | _ => false
def eTup (es : Ck) : Bool → Scope → Expr → Bool := fun _ sc e => match e with
  | .Tuple xs _ _ => es.a false sc xs && Nat.ble xs.length 1000
  | _ => false
def eDsp (es : Ck) : Bool → Scope → Expr → Bool := fun _ sc e => match e with
  | .List xs _ => es.a false sc xs && Nat.ble xs.length 1000
  | _ => false
def aNil : Bool → Scope → List Expr → Bool := fun _ _ xs => match xs with
  | [] => true
  | _ => false
def aCons (a as : Ck) : Bool → Scope → List Expr → Bool := fun rd sc xs => match xs with
  | x :: xs => a.e rd sc x && notStar x && as.a rd sc xs
  | _ => false
def eIx (a i : Ck) : Bool → Scope → Expr → Bool := fun _ sc e => match e with
  | .Subscript x y _ => a.e true sc x && i.e false sc y && notSlice y
  | _ => false
def eSl (a lo hi : Ck) : Bool → Scope → Expr → Bool := fun _ sc e => match e with
  | .Subscript x (.Slice l h none _) _ => a.e true sc x && lo.p sc l && hi.p sc h
  | _ => false
def eTl (a : Ck) : Bool → Scope → Expr → Bool := fun _ sc e => match e with
  | .Subscript x (.Slice none (some (.Constant (.int 0) _ _)) (some (.UnaryOp .USub (.Constant (.int 1) _ _) _)) _) _ => a.e true sc x
  | _ => false
def eRev (a : Ck) : Bool → Scope → Expr → Bool := fun _ sc e => match e with
  | .Subscript x (.Slice none none (some (.UnaryOp .USub (.Constant (.int 1) _ _) _)) _) _ => a.e true sc x
  | _ => false
def pNop : Scope → Option Expr → Bool := fun _ o => match o with
  | none => true
  | _ => false
def eCall (f : Nat) (es : Ck) : Bool → Scope → Expr → Bool := fun _ sc e => match e with
  | .Call (.Name x _) xs [] _ => nmB (B.fnm f) x && glB sc x && es.a false sc xs && (B.TT f).isSome
  | _ => false
def eBi (b : Bi) (es : Ck) : Bool → Scope → Expr → Bool := fun _ sc e => match e with
  | .Call (.Name x _) (y :: xs) [] _ => sEq (biN b) x && glB sc x && es.a true sc (y :: xs) && (y :: xs).all notStar
  | _ => false
def eIsi (t : Ty) (a : Ck) : Bool → Scope → Expr → Bool := fun _ sc e => match e with
  | .Call (.Name x _) [y, .Name z _] [] _ => sEq "isinstance" x && glB sc x && a.e true sc y && notStar y && sEq (tyS t) z && glB sc z
  | _ => false
def mtN : Mt → Str
  | .join => "join"
  | .count => "count"
def eMt (m : Mt) (o a : Ck) : Bool → Scope → Expr → Bool := fun _ sc e => match e with
  | .Call (.Attribute x m' ap) [y] [] p => sEq (mtN m) m' && o.e false sc x && a.e true sc y && notStar y && plainBase x && (ap.endLine == p.line)
  | _ => false
def intE (i : Int) : Expr → Bool
  | .Constant (.int j) _ _ => decide (i = j)
  | .UnaryOp .USub (.Constant (.int j) _ _) _ => decide (i = -j)
  | _ => false
def pkB : List (Int × List Nat) → List (Option Expr) → List Expr → Bool
  | [], [], [] => true
  | (i, s) :: r, some k :: ks, .Constant c _ _ :: vs => intE i k && ckK (.str s) c && pkB r ks vs
  | _, _, _ => false
def ePick (kvs : List (Int × List Nat)) (a : Ck) : Bool → Scope → Expr → Bool := fun _ sc e => match e with
  | .Subscript (.Dict ks vs _) y _ => pkB kvs ks vs && a.e false sc y && notSlice y && decide (kvs.map (·.1)).Nodup && Nat.ble kvs.length 15 && !kvs.isEmpty
  | _ => false
def eComp (vs : List Nat) (tg : C) (it cn el : Ck) (yes : Bool) : Bool → Scope → Expr → Bool := fun _ sc e => match e with
  | .ListComp elt [⟨t, i, ifs, 0⟩] scope _ => it.i true (isTupE t) sc i && ckG N scope tg t &&
      (match ifs with | [] => yes | [c] => cn.t (relS scope sc) c | _ => false) && el.e false (relS scope sc) elt &&
      blkC N sc scope (ownOf N scope) && decide (vs = (ownOf N scope).map (·.2)) && notSet i && (tgS tg).all fun i => vs.contains i
  | _ => false
def dkB : List (PV × PV) → List (Option Expr) → List Expr → Bool
  | [], [], [] => true
  | (k, v) :: r, some (.Constant c _ _) :: ks, .Constant c' _ _ :: vs => keyB k && ckK k c && ckK v c' && dkB r ks vs
  | _, _, _ => false
def nodupK : List PV → Bool
  | [] => true
  | k :: r => !hasP r k && nodupK r
def eDk (kvs : List (PV × PV)) : Bool → Scope → Expr → Bool := fun _ _ e => match e with
  | .Dict ks vs _ => dkB kvs ks vs && nodupK (kvs.map (·.1)) && Nat.ble kvs.length 15
  | _ => false
def eGet2 (d k a : Ck) : Bool → Scope → Expr → Bool := fun _ sc e => match e with
  | .Call (.Attribute x m ap) [y, z] [] p => sEq "get" m && d.e true sc x && k.e false sc y && a.e false sc z && notStar y && notStar z && plainBase x && (ap.endLine == p.line)
  | _ => false
def eSf (i : Nat) (f : Str) : Bool → Scope → Expr → Bool := fun rd sc e => match e with
  | .Attribute (.Name x _) f' _ => rd && ckVar N sc i x && sEq f f'
  | _ => false
def eCfl (g : Nat) (f : Str) (es : Ck) : Bool → Scope → Expr → Bool := fun _ sc e => match e with
  | .Attribute (.Call (.Name x _) (y :: ys) [] _) f' _ => nmB (B.fnm g) x && glB sc x && es.a false sc (y :: ys) && (B.TT g).isSome && sEq f f'
  | _ => false
def eLsc (vs : List Nat) (tg : C) (it cn el : Ck) (yes : Bool) : Bool → Scope → Expr → Bool := fun _ sc e => match e with
  | .Call (.Name x _) [.SetComp elt [⟨t, i, ifs, 0⟩] scope _] [] _ => sEq "len" x && glB sc x && it.i true (isTupE t) sc i && ckG N scope tg t &&
      (match ifs with | [] => yes | [c] => cn.t (relS scope sc) c | _ => false) && el.e false (relS scope sc) elt &&
      blkC N sc scope (ownOf N scope) && decide (vs = (ownOf N scope).map (·.2)) && notSet i && (tgS tg).all fun i => vs.contains i
  | _ => false
/-- f(set(a)) -/
def eSet (f : Str) (a : Ck) : Bool → Scope → Expr → Bool := fun _ sc e => match e with
  | .Call (.Name x _) [.Call (.Name y _) [z] [] _] [] _ => sEq f x && glB sc x && sEq "set" y && glB sc y && a.e true sc z && notStar z
  | _ => false
/-- list(range(..)) -/
def eLr1 (a : Ck) : Bool → Scope → Expr → Bool := fun _ sc e => match e with
  | .Call (.Name x _) [.Call (.Name y _) [z] [] _] [] _ => sEq "list" x && glB sc x && sEq "range" y && glB sc y && a.e false sc z && notStar z
  | _ => false
def eLr2 (a b : Ck) : Bool → Scope → Expr → Bool := fun _ sc e => match e with
  | .Call (.Name x _) [.Call (.Name y _) [z, u] [] _] [] _ => sEq "list" x && glB sc x && sEq "range" y && glB sc y && a.e false sc z && notStar z && b.e false sc u && notStar u
  | _ => false
def iSeq (a : Ck) : Bool → Bool → Scope → Expr → Bool := fun rd _ sc x => a.e rd sc x && notSet x
def iRng1' (a : Ck) : Bool → Bool → Scope → Expr → Bool := fun _ _ sc e => match e with
  | .Call (.Name f _) [x] [] _ => sEq "range" f && glB sc f && a.e false sc x && notStar x
  | _ => false
def iRng2' (a b : Ck) : Bool → Bool → Scope → Expr → Bool := fun _ _ sc e => match e with
  | .Call (.Name f _) [x, y] [] _ => sEq "range" f && glB sc f && a.e false sc x && notStar x && b.e false sc y && notStar y
  | _ => false
def iRng3' (a b c : Ck) : Bool → Bool → Scope → Expr → Bool := fun _ _ sc e => match e with
  | .Call (.Name f _) [x, y, z] [] _ => sEq "range" f && glB sc f && a.e false sc x && notStar x && b.e false sc y && notStar y && c.e false sc z && notStar z
  | _ => false
def iEnu (a : Ck) : Bool → Bool → Scope → Expr → Bool := fun rd tp sc e => match e with
  | .Call (.Name f _) [x] [] _ => tp && sEq "enumerate" f && glB sc f && a.e rd sc x && notStar x
  | _ => false
def iZip' (a b : Ck) : Bool → Bool → Scope → Expr → Bool := fun rd tp sc e => match e with
  | .Call (.Name f _) [x, y] [] _ => tp && sEq "zip" f && glB sc f && a.e rd sc x && notStar x && b.e rd sc y && notStar y
  | _ => false
def iZip3' (a b c : Ck) : Bool → Bool → Scope → Expr → Bool := fun rd tp sc e => match e with
  | .Call (.Name f _) [x, y, z] [] _ => tp && sEq "zip" f && glB sc f && a.e rd sc x && notStar x && b.e rd sc y && notStar y && c.e rd sc z && notStar z
  | _ => false
def ck : C → Ck
  | .v i => mkE (eV N i)
  | .rd i => mkE (eRd N i)
  | .k p => mkE (eK p)
  | .g i => mkE (eG B i)
  | .bin op a b => mkE (eBin op (ck a) (ck b))
  | .neg a => mkE (eNeg (ck a))
  | .nt a => mkC (eNt (ck a)) (tNt (ck a)) no1 no1
  | .cmp op a b => mkC (eCmp op (ck a) (ck b)) (fun sc x => eCmp op (ck a) (ck b) false sc x) no1 no1
  | .chn op op' a b c => mkC (eChn op op' (ck a) (ck b) (ck c)) (fun sc x => eChn op op' (ck a) (ck b) (ck c) false sc x) no1 no1
  | .chn3 op op' op'' a b c d => mkC (eChn3 op op' op'' (ck a) (ck b) (ck c) (ck d)) (fun sc x => eChn3 op op' op'' (ck a) (ck b) (ck c) (ck d) false sc x) no1 no1
  | .an a b => mkC (eAn (ck a) (ck b)) (tAn (ck a) (ck b)) (bAn (ck a) (ck b)) (tbAn (ck a) (ck b))
  | .or a b => mkC (eOr (ck a) (ck b)) (tOr' (ck a) (ck b)) (bOr (ck a) (ck b)) (tbOr (ck a) (ck b))
  | .ife c a b => mkE (eIfe (ck c) (ck a) (ck b))
  | .tup es => mkE (eTup (ck es))
  | .dsp es => mkE (eDsp (ck es))
  | .nil => mkA aNil
  | .cons a as => mkA (aCons (ck a) (ck as))
  | .ix a i => mkE (eIx (ck a) (ck i))
  | .sl a lo hi => mkE (eSl (ck a) (ck lo) (ck hi))
  | .nop => mkP pNop
  | .tl a => mkE (eTl (ck a))
  | .rev a => mkE (eRev (ck a))
  | .call f es => mkE (eCall B f (ck es))
  | .bi b es => mkE (eBi b (ck es))
  | .isi t e => mkE (eIsi t (ck e))
  | .mt m o e => mkE (eMt m (ck o) (ck e))
  | .pick kvs e => mkE (ePick kvs (ck e))
  | .comp vs tg it cn el => mkE (eComp N vs tg (ck it) (ck cn) (ck el) (isTrueC cn))
  | .dk kvs => mkE (eDk kvs)
  | .get2 d k e => mkE (eGet2 (ck d) (ck k) (ck e))
  | .sf i f => mkE (eSf N i f)
  | .cfl g f es => mkE (eCfl B g f (ck es))
  | .lsc vs tg it cn el => mkE (eLsc N vs tg (ck it) (ck cn) (ck el) (isTrueC cn))
  | .unp a => mkE fun _ sc e => (ck a).e false sc e
  | .lset e => mkE (eSet "len" (ck e))
  | .sset' e => mkE (eSet "sorted" (ck e))
  | .lr1 a => mkE (eLr1 (ck a))
  | .lr2 a b => mkE (eLr2 (ck a) (ck b))
  | .seq e => mkI (iSeq (ck e))
  | .rng1 a => mkI (iRng1' (ck a))
  | .rng2 a b => mkI (iRng2' (ck a) (ck b))
  | .rng3 a b c => mkI (iRng3' (ck a) (ck b) (ck c))
  | .enu e => mkI (iEnu (ck e))
  | .zip a b => mkI (iZip' (ck a) (ck b))
  | .zip3 a b c => mkI (iZip3' (ck a) (ck b) (ck c))
  | .jk => ⟨fun _ _ _ => true, fun _ _ _ => true, aNo, fun _ _ => true, fun _ _ => true, fun _ _ _ => true, fun _ _ _ _ => true⟩
  | _ => mkE eNo
end
/-! ### what is known where an expression stands -/
def XIs (B : Tb) (K : PySem.W.Frag) (mg : Str → Option Value) : Ends1 := fun c p cls d G H => ∃ x C, B.xnm c = some x ∧ mg x = some (.ref C) ∧ cls = .ref C ∧ (match p with
  | none => d = none
  | some q => ∃ dd fl v, B.xfl c = some fl ∧ d = some dd ∧ H dd = some (.xd [(fl, v)]) ∧ Rep K G v q)
def GF (K : PySem.W.Frag) (XI : Ends1) (G H : Hp) (r : Res RV) (Q : VK) (E : XK) : Prop := match r with
  | .ok (.shr p) => ∀ G' H' v, Ext G H G' H' → Rep K G' v p → Q v H'
  | .ok (.own xs) => ∀ G' H' a vs, Ext G H G' H' → H a = none → G' a = none → H' a = some (.lst vs) → Reps K G' vs xs → Q (.ref a) H'
  | .ok (.obj ns fs) => ∀ G' H' a C dx us, Ext G H G' H' → H' a = some (.ins C dx (ns.zip us)) → ns.length = us.length → Cls K C → (∀ f ∈ ns, NoAttr K C f) → Reps K G' us fs → Q (.ref a) H'
  | .exc c p => ∀ G' H' cls d, Ext G H G' H' → XI c p cls d G' H' → E cls d H'
  | .bad => False
/-- what a def promises -/
def spF (B : Tb) (K : PySem.W.Frag) (XI : Ends1) (n f np : Nat) : Sp := fun vs H Q E => ∃ G ps, Same G H ∧ Reps K G vs ps ∧ ps.length = np ∧ GF K XI G H (callN B.TT B.κ B.cx B.wf n f ps) Q E
def bltN : List Str := ["len", "abs", "min", "max", "sum", "int", "tuple", "list", "isinstance", "bool", "str", "range", "enumerate", "zip", "sorted", "dict", "set"]
/-- an error class of the module's own, over ValueError -/
structure XC (K : PySem.W.Frag) (Ca : Addr) : Prop where
  kp : PySem.W.keepIn K (.ref Ca) = true
  sub : PySem.W.subIn K (.ref Ca) (.type "BaseException") = some true
  ty : PySem.W.typeIn K (.ref Ca) = some (.type "type")
  is : ExcC K Ca
/-- the module, defs to the depth n -/
structure Wo (B : Tb) (P : Program) (w : World) (K : PySem.W.Frag) (mg : Str → Option Value) (base : Heap) (n : Nat) : Prop where
  fns : ∀ f x d, B.fnm f = some x → B.TT f = some d → ∃ (fa : Addr) (fd : FuncData) (ps : List Str), mg x = some (.ref fa) ∧ PySem.W.keepIn K (.ref fa) = true ∧ Binds K fd ps [] ∧ ps.length = d.np ∧
    FnOk P w K mg base (CX P w) (3 * n + 5) fa fd ps (spF B K (XIs B K mg) n f d.np)
  con : ∀ i x p, B.cnm i = some x → B.κ i = some p → ∃ v u, mg x = some u ∧ RelV v u ∧ Rep K (fun _ => none) v p
  blt : ∀ x, x ∈ bltN → mg x = none
  xcl : ∀ c x, B.xnm c = some x → ∃ Ca, mg x = some (.ref Ca) ∧ XC K Ca
  xcx : ∀ c c' x x' Ca Cb, B.xnm c = some x → B.xnm c' = some x' → mg x = some (.ref Ca) → mg x' = some (.ref Cb) → PySem.W.exmOne K (.ref Ca) (.ref Cb) = some (B.cx c c') ∧ PySem.W.kitOne K (.ref Ca) (.ref Cb) = some (B.cx c c')
  xex : ∀ c x Ca, B.xnm c = some x → B.xfl c = none → mg x = some (.ref Ca) → PySem.W.excIn K Ca He.veBase "ValueError.__new__" = true
  xin : ∀ c x fl Ca, B.xnm c = some x → B.xfl c = some fl → mg x = some (.ref Ca) → XO P w K mg base Ca fl
/-- the context of an expression -/
structure EC (B : Tb) (n : Nat) (N : List Str) (sc : Scope) (X : Cx) (W : WX) : Prop where
  scope : X.env.scope = sc
  nm : X.N = N
  nd : N.Nodup
  calm : X.calm = true
  takes : Takes X W
  room : Room (3 * n + 5) X.A
  wo : Wo B X.prog X.w X.K X.mg X.base n
theorem sEq_ok {x y : Str} (h : sEq x y = true) : x = y := of_decide_eq_true h
theorem ixB_ok {N : List Str} {i : Nat} {x : Str} (h : ixB N i x = true) : N[i]? = some x := by
  unfold ixB at h
  split at h
  · rename_i y e
    rw [e, sEq_ok h]
  · cases h
theorem nmB_ok {o : Option Str} {x : Str} (h : nmB o x = true) : o = some x := by
  unfold nmB at h
  split at h
  · rw [sEq_ok h]
  · cases h
theorem visB_ok {sc : Scope} {x : Str} (h : visB sc x = true) : Vis sc x := by
  unfold visB at h
  split at h
  · rename_i e; exact .inl e
  · rename_i e; exact .inr (.inl e)
  · rename_i e; exact .inr (.inr e)
  · cases h
theorem locB_ok {sc : Scope} {x : Str} (h : locB sc x = true) : Loc sc x := by
  unfold locB at h
  split at h
  · rename_i e; exact .inl e
  · rename_i e; exact .inr e
  · cases h
theorem glB_ok {sc : Scope} {x : Str} (h : glB sc x = true) : sc.names.lookup x = some .globalImplicit ∧ (x == ("__debug__" : Str)) = false ∧ x ≠ "__name__" := by
  unfold glB at h
  simp only [Bool.and_eq_true, Bool.not_eq_true'] at h
  obtain ⟨⟨h1, h2⟩, h3⟩ := h
  split at h1
  · rename_i e
    exact ⟨e, h2, of_decide_eq_false h3⟩
  · cases h1
theorem bopB_ok {op : Bop} {o : Operator} (h : bopB op o = true) : o = bopE op := by
  cases op <;> cases o <;> first | rfl | cases h
theorem copB_ok {op : Cop} {o : CmpOp} (h : copB op o = true) : o = copE op := by
  cases op <;> cases o <;> first | rfl | cases h
theorem notSet_marks {op : CmpOp} {e : Expr} (h : notSet e = true) : behindInMarks op e = false := by
  cases e <;> first | rfl | cases h
theorem notSet_folded {e : Expr} (h : notSet e = true) (env : Env) (x : Value) : foldedSetIterable e env x = pure x := by
  cases e <;> first | rfl | cases h
theorem star_of {e : Expr} {es : List Expr} {env : Env} (h : notStar e = true) : starEach (e :: es) env = (false, eval e env) :: starEach es env := by
  cases e <;> first | rfl | cases h
theorem plainT_ok {e : Expr} (h : plainT e = true) (env : Env) (whole : Sem Value) : isTrue e env whole = (do let v ← whole; standAt e.pos; holding [v] (truthy v)) := by
  cases e <;> first | rfl | cases h | (rename_i op _ _; cases op <;> first | rfl | cases h)
theorem notSlice_ok {e : Expr} (h : notSlice e = true) : PlainIx e := fun o i => by
  cases e <;> first | rfl | cases h
theorem nostars {es : List Expr} {env : Env} {pos : Pos} (h : es.all notStar = true) : (backTo pos (starEach es env)).any (·.1) = false := by
  induction es with
  | nil => rfl
  | cons e es ih =>
    simp only [List.all_cons, Bool.and_eq_true] at h
    rw [star_of h.1]
    exact ih h.2
theorem plainBase_ok {e : Expr} {m : Str} {env : Env} {whole : Sem Value} (h : plainBase e = true) : attributeBase e m env whole = whole := by
  cases e <;> first | rfl | cases h
end Z
end
section
namespace Z
open PySem PySem.Spec PyProof.Rows L2
/-! ### the readings that are the machine's own -/
def tcE (X : Cx) (e : Expr) : TE := fun σ H Q => ∀ (pins : List (Addr × Obj)) (s : Shared), Inv X pins σ H s → wpAny (model X.prog X.w) X.A (eval e X.env) (EP X pins σ Q) X.xe s
def tcT (X : Cx) (e : Expr) : TT := fun σ H Q => ∀ (pins : List (Addr × Obj)) (s : Shared), Inv X pins σ H s → wpAny (model X.prog X.w) X.A (isTrue e X.env (eval e X.env)) (TP X pins σ Q) X.xe s
def tcW (X : Cx) (e : Expr) : TT := fun σ H Q => ∀ (wh : Sem Value) (pins : List (Addr × Obj)) (s : Shared), Inv X pins σ H s → wpAny (model X.prog X.w) X.A (isTrue e X.env wh) (TP X pins σ Q) X.xe s
def tcA (X : Cx) (es : List Expr) : TA := fun σ H Q => ∀ (pos : Pos) (pins : List (Addr × Obj)) (s : Shared), Inv X pins σ H s → wpAny (model X.prog X.w) X.A (spliced (backTo pos (starEach es X.env))) (AP X pins σ Q) X.xe s
def tcO (X : Cx) (e : Option Expr) : TO := fun σ H Q => ∀ (pins : List (Addr × Obj)) (s : Shared), Inv X pins σ H s → wpAny (model X.prog X.w) X.A (evalPart e X.env) (fun u s' => ∃ o H', Inv X pins σ H' s' ∧ IsPart u o ∧ Q o H') X.xe s
def tcI (X : Cx) (tg e : Expr) : TI := fun σ H R => ∀ (pins : List (Addr × Obj)) (s : Shared), Inv X pins σ H s → wpAny (model X.prog X.w) X.A (eval e X.env) (fun v s1 => wpAny (model X.prog X.w) X.A (pyIter v) (PIE X pins σ tg R) X.xe s1) X.xe s
section
variable {X : Cx} {e tg : Expr} {es : List Expr} {o : Option Expr} {σ : L2.St} {H : Hp}
theorem pe_can : PE X e (tcE X e) := ⟨fun pins s σ H Q I h => h pins s I⟩
theorem pt_can : PT X e (tcT X e) := ⟨fun pins s σ H Q I h => h pins s I⟩
theorem pw_can : PW X e (tcW X e) := ⟨fun wh pins s σ H Q I h => h wh pins s I⟩
theorem pa_can : PA X es (tcA X es) := ⟨fun pos pins s σ H Q I h => h pos pins s I⟩
theorem po_can : PO X o (tcO X o) := ⟨fun pins s σ H Q I h => h pins s I⟩
theorem pi_can : PI X tg e (tcI X tg e) := ⟨fun pins s σ H Q I h => h pins s I⟩
theorem pe_can' {t : TE} (h : PE X e t) {Q : VK} (q : t σ H Q) : tcE X e σ H Q := fun pins s I => h.run pins s σ H Q I q
theorem pt_can' {t : TT} (h : PT X e t) {Q : Bool → Hp → Prop} (q : t σ H Q) : tcT X e σ H Q := fun pins s I => h.run pins s σ H Q I q
theorem pw_can' {t : TT} (h : PW X e t) {Q : Bool → Hp → Prop} (q : t σ H Q) : tcW X e σ H Q := fun wh pins s I => h.run wh pins s σ H Q I q
theorem pa_can' {t : TA} (h : PA X es t) {Q : List V → Hp → Prop} (q : t σ H Q) : tcA X es σ H Q := fun pos pins s I => h.run pos pins s σ H Q I q
theorem po_can' {t : TO} (h : PO X o t) {Q : Option Int → Hp → Prop} (q : t σ H Q) : tcO X o σ H Q := fun pins s I => h.run pins s σ H Q I q
theorem pi_can' {t : TI} (h : PI X tg e t) {R : It → Hp → Prop} (q : t σ H R) : tcI X tg e σ H R := fun pins s I => h.run pins s σ H R I q
/-- what the state says of the walk's heap may be used -/
theorem tcI_imp {R R' : It → Hp → Prop} (h : tcI X tg e σ H R) (w : ∀ J H' pins s, Inv X pins σ H' s → R J H' → R' J H') : tcI X tg e σ H R' := fun pins s I =>
  thn (h pins s I) fun v s1 h1 => thn h1 fun itv s2 ⟨it, fp, tn, J, H', e1, I2, T, t0, f, r⟩ => ⟨it, fp, tn, J, H', e1, I2, T, t0, f, w J H' pins s2 I2 r⟩
theorem tcE_imp {Q Q' : VK} (h : tcE X e σ H Q) (w : ∀ v H' pins s, Inv X pins σ H' s → Q v H' → Q' v H') : tcE X e σ H Q' := fun pins s I =>
  thn (h pins s I) fun v s1 ⟨x, H1, I1, r1, q1⟩ => ⟨x, H1, I1, r1, w x H1 pins s1 I1 q1⟩
end
/-! ### promises -/
def GX {α : Type} (XI : Ends1) (W : WX) (G H : Hp) (σ : L2.St) (ok : α → Prop) (r : Res α) : Prop := match r with
  | .ok a => ok a
  | .exc c p => ∀ G' H' cls d, Ext G H G' H' → XI c p cls d G' H' → W cls d σ H'
  | .bad => False
theorem GX.bind {α β : Type} {XI : Ends1} {W : WX} {G H : Hp} {σ : L2.St} {ok : β → Prop} {r : Res α} {f : α → Res β} (h : GX XI W G H σ ok (r.bind f)) : GX XI W G H σ (fun a => GX XI W G H σ ok (f a)) r := by
  cases r <;> exact h
theorem GX.imp {α : Type} {XI : Ends1} {W : WX} {G H : Hp} {σ : L2.St} {ok ok' : α → Prop} {r : Res α} (h : GX XI W G H σ ok r) (w : ∀ a, r = .ok a → ok a → ok' a) : GX XI W G H σ ok' r := by
  cases r with
  | ok a => exact w a rfl h
  | exc c p => exact h
  | bad => exact h
theorem GX.move {α : Type} {XI : Ends1} {W : WX} {G H G1 H1 : Hp} {σ : L2.St} {ok ok' : α → Prop} {r : Res α} (h : GX XI W G H σ ok r) (e : Ext G H G1 H1) (w : ∀ a, ok a → ok' a) : GX XI W G1 H1 σ ok' r := by
  cases r with
  | ok a => exact w a h
  | exc c p => exact fun G' H' cls d e2 x => h G' H' cls d (e.trans e2) x
  | bad => exact h
def RB (rd : Bool) (K : PySem.W.Frag) (G H : Hp) (v : V) (p : PV) : Prop := match rd with
  | true => RepX K G H v p
  | false => Rep K G v p
theorem RB.x {rd : Bool} {K : PySem.W.Frag} {G H : Hp} {v : V} {p : PV} (h : RB rd K G H v p) : RepX K G H v p := by
  cases rd with
  | true => exact h
  | false => exact .inl h
theorem RB.mono {rd : Bool} {K : PySem.W.Frag} {G H G' H' : Hp} {v : V} {p : PV} (h : RB rd K G H v p) (e : Ext G H G' H') : RB rd K G' H' v p := by
  cases rd with
  | true => exact RepX.mono h e
  | false => exact Rep.mono e.gs h
inductive RBs (rd : Bool) (K : PySem.W.Frag) (G H : Hp) : List V → List PV → Prop
  | nil : RBs rd K G H [] []
  | cons {v : V} {vs : List V} {p : PV} {ps : List PV} : RB rd K G H v p → RBs rd K G H vs ps → RBs rd K G H (v :: vs) (p :: ps)
theorem RBs.x {rd : Bool} {K : PySem.W.Frag} {G H : Hp} : ∀ {vs : List V} {ps : List PV}, RBs rd K G H vs ps → RepXs K G H vs ps
  | _, _, .nil => .nil
  | _, _, .cons r t => .cons r.x (RBs.x t)
theorem RBs.r {K : PySem.W.Frag} {G H : Hp} : ∀ {vs : List V} {ps : List PV}, RBs false K G H vs ps → Reps K G vs ps
  | _, _, .nil => .nil
  | _, _, .cons r t => .cons r (RBs.r t)
abbrev okE (rd : Bool) (K : PySem.W.Frag) (G H : Hp) (Q : VK) : PV → Prop := fun p => ∀ G' H' v, Ext G H G' H' → RB rd K G' H' v p → Q v H'
abbrev okT (G H : Hp) (Q : Bool → Hp → Prop) : Bool → Prop := fun b => ∀ G' H', Ext G H G' H' → Q b H'
abbrev okA (rd : Bool) (K : PySem.W.Frag) (G H : Hp) (Q : List V → Hp → Prop) : PV → Prop := fun l => ∃ ps, l = .lst ps ∧ ∀ G' H' vs, Ext G H G' H' → RBs rd K G' H' vs ps → Q vs H'
abbrev okO (G H : Hp) (Q : Option Int → Hp → Prop) : Option Int → Prop := fun o => ∀ G' H', Ext G H G' H' → Q o H'
abbrev cnd (rd : Bool) (G H : Hp) : Hp → Hp → Prop := match rd with
  | true => CC G H
  | false => CF G
abbrev okI (rd : Bool) (K : PySem.W.Frag) (G H : Hp) (R : It → Hp → Prop) : PV → Prop := fun l => ∃ xs, l = .lst xs ∧ ∀ G' H' J, Ext G H G' H' → ItP (cnd rd G' H') K J xs → xs.length ≤ sizeLine → R J H'
section
variable (B : Tb) (n : Nat) (N : List Str)
abbrev φn : Fns := callN B.TT B.κ B.cx B.wf n
abbrev XB (X : Cx) : Ends1 := XIs B X.K X.mg
def SE (rd : Bool) (c : C) : Prop := ∀ (sc : Scope) (e : Expr), (ck B N c).e rd sc e = true → ∀ (X : Cx) (W : WX), EC B n N sc X W → ∀ (G0 H0 G H : Hp) (ρ : List Slot) (σ : L2.St) (Q : VK), SI X.K G0 H0 G H ρ σ →
  GX (XB B X) W G H σ (okE rd X.K G H Q) (ev (φn B n) B.κ c ρ) → tcE X e σ H Q
def SB (c : C) : Prop := ∀ (op : BoolOp) (sc : Scope) (x : Expr) (r : List Expr) (pos : Pos), (ck B N c).b op sc (x :: r) = true → ∀ (X : Cx) (W : WX), EC B n N sc X W → ∀ (G0 H0 G H : Hp) (ρ : List Slot) (σ : L2.St) (Q : VK), SI X.K G0 H0 G H ρ σ →
  GX (XB B X) W G H σ (okE false X.K G H Q) (ev (φn B n) B.κ c ρ) → tcE X (.BoolOp op (x :: r) pos) σ H Q
def ST (c : C) : Prop := ∀ (sc : Scope) (e : Expr), (ck B N c).t sc e = true → ∀ (X : Cx) (W : WX), EC B n N sc X W → ∀ (G0 H0 G H : Hp) (ρ : List Slot) (σ : L2.St) (Q : Bool → Hp → Prop), SI X.K G0 H0 G H ρ σ →
  GX (XB B X) W G H σ (okT G H Q) ((ev (φn B n) B.κ c ρ).bind truP) → tcT X e σ H Q
def STB (c : C) : Prop := ∀ (op : BoolOp) (sc : Scope) (x : Expr) (r : List Expr) (pos : Pos), (ck B N c).tb op sc (x :: r) = true → ∀ (X : Cx) (W : WX), EC B n N sc X W → ∀ (G0 H0 G H : Hp) (ρ : List Slot) (σ : L2.St) (Q : Bool → Hp → Prop), SI X.K G0 H0 G H ρ σ →
  GX (XB B X) W G H σ (okT G H Q) ((ev (φn B n) B.κ c ρ).bind truP) → tcW X (.BoolOp op (x :: r) pos) σ H Q
def SA (rd : Bool) (c : C) : Prop := ∀ (sc : Scope) (es : List Expr), (ck B N c).a rd sc es = true → ∀ (X : Cx) (W : WX), EC B n N sc X W → ∀ (G0 H0 G H : Hp) (ρ : List Slot) (σ : L2.St) (Q : List V → Hp → Prop), SI X.K G0 H0 G H ρ σ →
  GX (XB B X) W G H σ (okA rd X.K G H Q) (ev (φn B n) B.κ c ρ) → tcA X es σ H Q
def SO (c : C) : Prop := ∀ (sc : Scope) (o : Option Expr), (ck B N c).p sc o = true → ∀ (X : Cx) (W : WX), EC B n N sc X W → ∀ (G0 H0 G H : Hp) (ρ : List Slot) (σ : L2.St) (Q : Option Int → Hp → Prop), SI X.K G0 H0 G H ρ σ →
  GX (XB B X) W G H σ (okO G H Q) (partC c (ev (φn B n) B.κ c ρ)) → tcO X o σ H Q
def SIt (rd : Bool) (c : C) : Prop := ∀ (sc : Scope) (tg e : Expr), (ck B N c).i rd (isTupE tg) sc e = true → ∀ (X : Cx) (W : WX), EC B n N sc X W → ∀ (G0 H0 G H : Hp) (ρ : List Slot) (σ : L2.St) (R : It → Hp → Prop), SI X.K G0 H0 G H ρ σ →
  GX (XB B X) W G H σ (okI rd X.K G H R) (ev (φn B n) B.κ c ρ) → tcI X tg e σ H R
structure Sd (c : C) : Prop where
  e : ∀ rd, SE B n N rd c
  b : SB B n N c
  t : ST B n N c
  tb : STB B n N c
  a : ∀ rd, SA B n N rd c
  o : SO B n N c
  i : ∀ rd, SIt B n N rd c
end
section
variable {B : Tb} {n : Nat} {N : List Str}
/-- from the plain look to that which may read -/
theorem SE.all {c : C} (h : SE B n N false c) (hk : ∀ rd sc e, (ck B N c).e rd sc e = true → (ck B N c).e false sc e = true) : ∀ rd, SE B n N rd c := fun rd => by
  cases rd with
  | false => exact h
  | true => exact fun sc e hc X W E G0 H0 G H ρ σ Q I g => h sc e (hk _ _ _ hc) X W E G0 H0 G H ρ σ Q I (g.imp fun p _ k G' H' v ex r => k G' H' v ex (.inl r))
theorem no_a {c : C} (h : (ck B N c).a = aNo) : ∀ rd, SA B n N rd c := fun rd sc es hc => by rw [h] at hc; cases hc
theorem no_i {c : C} (h : (ck B N c).i = iNo) : ∀ rd, SIt B n N rd c := fun rd sc tg e hc => by rw [h] at hc; cases hc
theorem partC_is {c : C} (h : c ≠ .nop) (r : Res PV) : partC c r = r.bind intP := by
  cases c <;> first | rfl | exact absurd rfl h
/-- a term that is an expression alone -/
theorem Sd.mk1 {c : C} {ef : Bool → Scope → Expr → Bool} (hck : ck B N c = mkE ef) (hn : c ≠ .nop) (h : ∀ rd, SE B n N rd c) : Sd B n N c where
  e := h
  b := fun op sc x r pos hc X W E G0 H0 G H ρ σ Q I g => by
    rw [hck] at hc
    cases r with
    | nil => exact pe_can' (pe_one pe_can) (h false sc x (by rw [hck]; exact hc) X W E G0 H0 G H ρ σ Q I g)
    | cons y r => cases hc
  t := fun sc e hc X W E G0 H0 G H ρ σ Q I g => by
    rw [hck] at hc
    have hc' : (ef true sc e && plainT e) = true := hc
    simp only [Bool.and_eq_true] at hc'
    refine pt_can' (pt_truth pe_can (fun wh => plainT_ok hc'.2 X.env wh)) ?_
    refine h true sc e (by rw [hck]; exact hc'.1) X W E G0 H0 G H ρ σ _ I (g.bind.imp fun p _ k G' H' v ex r => ?_)
    cases et : truP p with
    | ok b =>
      rw [et] at k
      exact ⟨b, tru_rep (I.grow ex).sub r et, k G' H' ex⟩
    | exc c o => exact absurd et truP_exc
    | bad => rw [et] at k; exact k.elim
  tb := fun op sc x r pos hc X W E G0 H0 G H ρ σ Q I g => by
    rw [hck] at hc
    cases r with
    | nil =>
      have hc' : (ef true sc x && plainT x) = true := hc
      simp only [Bool.and_eq_true] at hc'
      have hT : tcT X x σ H Q := by
        refine pt_can' (pt_truth pe_can (fun wh => plainT_ok hc'.2 X.env wh)) ?_
        refine h true sc x (by rw [hck]; exact hc'.1) X W E G0 H0 G H ρ σ _ I (g.bind.imp fun p _ k G' H' v ex r => ?_)
        cases et : truP p with
        | ok b =>
          rw [et] at k
          exact ⟨b, tru_rep (I.grow ex).sub r et, k G' H' ex⟩
        | exc c o => exact absurd et truP_exc
        | bad => rw [et] at k; exact k.elim
      cases op with
      | And => exact pw_can' (pw_and1 pt_can) hT
      | Or => exact pw_can' (pw_or1 pt_can) hT
    | cons y r => cases hc
  a := no_a (by rw [hck]; rfl)
  o := fun sc o hc X W E G0 H0 G H ρ σ Q I g => by
    rw [hck] at hc
    cases o with
    | none => cases hc
    | some x =>
      refine po_can' (po_some pe_can) ?_
      rw [partC_is hn] at g
      refine h false sc x (by rw [hck]; exact hc) X W E G0 H0 G H ρ σ _ I (g.bind.imp fun p _ k G' H' v ex r => ?_)
      cases p with
      | int i => cases r; exact ⟨i, rfl, k G' H' ex⟩
      | _ => exact k.elim
  i := no_i (by rw [hck]; rfl)
/-- a term with tests and rests of its own -/
theorem Sd.mk2 {c : C} {ef : Bool → Scope → Expr → Bool} {tf : Scope → Expr → Bool} {bx tbx : BoolOp → Scope → List Expr → Bool} (hck : ck B N c = mkC ef tf bx tbx) (hn : c ≠ .nop) (h : ∀ rd, SE B n N rd c) (st : ST B n N c)
    (sb : ∀ (op : BoolOp) (sc : Scope) (x y : Expr) (r : List Expr) (pos : Pos), bx op sc (x :: y :: r) = true → ∀ (X : Cx) (W : WX), EC B n N sc X W → ∀ (G0 H0 G H : Hp) (ρ : List Slot) (σ : L2.St) (Q : VK), SI X.K G0 H0 G H ρ σ →
      GX (XB B X) W G H σ (okE false X.K G H Q) (ev (φn B n) B.κ c ρ) → tcE X (.BoolOp op (x :: y :: r) pos) σ H Q)
    (stb : ∀ (op : BoolOp) (sc : Scope) (x y : Expr) (r : List Expr) (pos : Pos), tbx op sc (x :: y :: r) = true → ∀ (X : Cx) (W : WX), EC B n N sc X W → ∀ (G0 H0 G H : Hp) (ρ : List Slot) (σ : L2.St) (Q : Bool → Hp → Prop), SI X.K G0 H0 G H ρ σ →
      GX (XB B X) W G H σ (okT G H Q) ((ev (φn B n) B.κ c ρ).bind truP) → tcW X (.BoolOp op (x :: y :: r) pos) σ H Q) : Sd B n N c where
  e := h
  b := fun op sc x r pos hc X W E G0 H0 G H ρ σ Q I g => by
    rw [hck] at hc
    cases r with
    | nil => exact pe_can' (pe_one pe_can) (h false sc x (by rw [hck]; exact hc) X W E G0 H0 G H ρ σ Q I g)
    | cons y r => exact sb op sc x y r pos hc X W E G0 H0 G H ρ σ Q I g
  t := st
  tb := fun op sc x r pos hc X W E G0 H0 G H ρ σ Q I g => by
    rw [hck] at hc
    cases r with
    | nil =>
      have hT : tcT X x σ H Q := st sc x (by rw [hck]; exact hc) X W E G0 H0 G H ρ σ Q I g
      cases op with
      | And => exact pw_can' (pw_and1 pt_can) hT
      | Or => exact pw_can' (pw_or1 pt_can) hT
    | cons y r => exact stb op sc x y r pos hc X W E G0 H0 G H ρ σ Q I g
  a := no_a (by rw [hck]; rfl)
  o := fun sc o hc X W E G0 H0 G H ρ σ Q I g => by
    rw [hck] at hc
    cases o with
    | none => cases hc
    | some x =>
      refine po_can' (po_some pe_can) ?_
      rw [partC_is hn] at g
      refine h false sc x (by rw [hck]; exact hc) X W E G0 H0 G H ρ σ _ I (g.bind.imp fun p _ k G' H' v ex r => ?_)
      cases p with
      | int i => cases r; exact ⟨i, rfl, k G' H' ex⟩
      | _ => exact k.elim
  i := no_i (by rw [hck]; rfl)
end
end Z
end
section
namespace Z
open PySem PySem.Spec PyProof.Rows L2
section
variable {B : Tb} {n : Nat} {N : List Str}
theorem and3 {a b c : Bool} (h : (a && b && c) = true) : a = true ∧ b = true ∧ c = true := by
  simp only [Bool.and_eq_true] at h
  exact ⟨h.1.1, h.1.2, h.2⟩
theorem EC.vis {sc : Scope} {X : Cx} {W : WX} (E : EC B n N sc X W) {x : Str} (h : Vis sc x) : Vis X.env.scope x := by rw [E.scope]; exact h
theorem EC.gl {sc : Scope} {X : Cx} {W : WX} (E : EC B n N sc X W) {x : Str} (h : sc.names.lookup x = some .globalImplicit) : Gl X x := by
  show X.env.scope.names.lookup x = _
  rw [E.scope]; exact h
theorem EC.blt {sc : Scope} {X : Cx} {W : WX} (E : EC B n N sc X W) {x : Str} (h : x ∈ bltN) : X.mg x = none := E.wo.blt x h
/-- a name: its slot holds v -/
theorem name_ok {i : Nat} {x : Str} {pos : Pos} {sc : Scope} {X : Cx} {W : WX} (E : EC B n N sc X W) (h : ckVar N sc i x = true) {σ : L2.St} {H : Hp} {Q : VK} {v : V} (hv : σ[i]? = some (some v)) (q : Q v H) : tcE X (.Name x pos) σ H Q := by
  unfold ckVar at h
  simp only [Bool.and_eq_true, Bool.not_eq_true'] at h
  obtain ⟨⟨⟨h1, h2⟩, h3⟩, h4⟩ := h
  exact pe_can' (pe_var (i := i) (by rw [E.nm]; exact ixB_ok h1) (E.vis (visB_ok h2)) h3 h4) ⟨v, hv, q⟩
theorem sd_v (i : Nat) : Sd B n N (.v i) := by
  refine Sd.mk1 rfl (fun z => nomatch z) (SE.all ?_ fun _ _ _ h => h)
  intro sc e hc X W E G0 H0 G H ρ σ Q I g
  have hc : eV N i false sc e = true := hc
  unfold eV at hc
  split at hc
  · have g : GX _ W G H σ (okE false X.K G H Q) (match ρ[i]? with | some (.shr p) => .ok p | _ => .bad) := g
    split at g
    · rename_i p hp
      obtain ⟨v, hv, r⟩ := I.shr hp
      exact name_ok E hc hv (g G H v (Ext.refl I.sub) r)
    · exact g.elim
  · cases hc
theorem sd_rd (i : Nat) : Sd B n N (.rd i) := by
  refine Sd.mk1 rfl (fun z => nomatch z) fun rd => ?_
  intro sc e hc X W E G0 H0 G H ρ σ Q I g
  have hc : eRd N i rd sc e = true := hc
  unfold eRd at hc
  split at hc
  · simp only [Bool.and_eq_true] at hc
    obtain ⟨rfl, hc⟩ := hc
    have g : GX _ W G H σ (okE true X.K G H Q) (match ρ[i]? with | some (.shr p) => .ok p | some (.own xs) => .ok (.lst xs) | some (.owd ks vs) => .ok (.dct ks vs) | _ => .bad) := g
    split at g
    · rename_i p hp
      obtain ⟨v, hv, r⟩ := I.shr hp
      exact name_ok E hc hv (g G H v (Ext.refl I.sub) (.inl r))
    · rename_i xs hp
      obtain ⟨a, vs, hv, _, _, h, r⟩ := I.own hp
      exact name_ok E hc hv (g G H _ (Ext.refl I.sub) (.inr (.inl ⟨a, vs, xs, rfl, rfl, h, r⟩)))
    · rename_i ks vs hp
      obtain ⟨a, kvs, hv, _, _, h, r, q⟩ := I.owd hp
      exact name_ok E hc hv (g G H _ (Ext.refl I.sub) (.inr (.inr ⟨a, kvs, ks, vs, rfl, rfl, h, r, q⟩)))
    · exact g.elim
  · cases hc
theorem ckK_ok {p : PV} {c : Const} (h : ckK p c = true) {X : Cx} {j : Nat} {pos : Pos} {G H : Hp} {σ : L2.St} {Q : VK} (q : ∀ v, Rep X.K G v p → Q v H) : tcE X (.Constant c j pos) σ H Q := by
  unfold ckK at h
  split at h
  · exact pe_can' pe_non (q _ .non)
  · rename_i a b
    have e : a = b := by simpa using h
    subst e
    exact pe_can' pe_bl (q _ (.bl _))
  · rename_i a b
    have e : a = b := by simpa using h
    subst e
    exact pe_can' pe_int (q _ (.int _))
  · rename_i s z
    simp only [Bool.and_eq_true, decide_eq_true_eq] at h
    obtain ⟨⟨rfl, h2⟩, h3⟩ := h
    refine pe_can' pe_str (q _ (.str _ (fun c hc => ?_) (fits_le h3)))
    have := List.all_eq_true.mp h2 c hc
    exact Nat.le_of_ble_eq_true this
  · cases h
theorem sd_k (p : PV) : Sd B n N (.k p) := by
  refine Sd.mk1 rfl (fun z => nomatch z) (SE.all ?_ fun _ _ _ h => h)
  intro sc e hc X W E G0 H0 G H ρ σ Q I g
  have hc : eK p false sc e = true := hc
  unfold eK at hc
  split at hc
  · exact ckK_ok hc fun v r => g G H v (Ext.refl I.sub) r
  · cases hc
theorem sd_g (i : Nat) : Sd B n N (.g i) := by
  refine Sd.mk1 rfl (fun z => nomatch z) (SE.all ?_ fun _ _ _ h => h)
  intro sc e hc X W E G0 H0 G H ρ σ Q I g
  have hc : eG B i false sc e = true := hc
  unfold eG at hc
  split at hc
  · simp only [Bool.and_eq_true] at hc
    obtain ⟨g1, g2, _⟩ := glB_ok hc.2
    have g : GX _ W G H σ (okE false X.K G H Q) (match B.κ i with | some p => .ok p | none => .bad) := g
    split at g
    · rename_i p hp
      obtain ⟨v, u, h1, h2, h3⟩ := E.wo.con i _ p (nmB_ok hc.1) hp
      exact pe_can' (pe_glob (E.gl g1) h1 h2 g2) (g G H v (Ext.refl I.sub) (h3.mono fun b o z => by cases z))
    · exact g.elim
  · cases hc
/-- two operands -/
theorem two_ok {a b : C} {x y : Expr} {sc : Scope} {X : Cx} {W : WX} (Sa : Sd B n N a) (Sb : Sd B n N b) (E : EC B n N sc X W) {ra rb : Bool} (ha : (ck B N a).e ra sc x = true) (hb : (ck B N b).e rb sc y = true)
    {G0 H0 G H : Hp} {ρ : List Slot} {σ : L2.St} (I : SI X.K G0 H0 G H ρ σ) {K : V → V → Hp → Prop} {ok : PV → Prop} {f : PV → PV → Res PV}
    (g : GX (XB B X) W G H σ ok ((ev (φn B n) B.κ a ρ).bind fun x => (ev (φn B n) B.κ b ρ).bind fun y => f x y))
    (k : ∀ p q G' H' v u, Ext G H G' H' → SI X.K G0 H0 G' H' ρ σ → RB ra X.K G' H' v p → RB rb X.K G' H' u q → GX (XB B X) W G H σ ok (f p q) → K v u H') :
    tcE X x σ H fun v H1 => tcE X y σ H1 fun u H2 => K v u H2 := by
  refine Sa.e ra sc x ha X W E G0 H0 G H ρ σ _ I (g.bind.imp fun p _ g1 G1 H1 v e1 r1 => ?_)
  have I1 := I.grow e1
  refine Sb.e rb sc y hb X W E G0 H0 G1 H1 ρ σ _ I1 ((GX.move (ok' := fun q => GX (XB B X) W G H σ ok (f p q)) g1.bind e1 fun q h => h).imp fun q _ g2 G2 H2 u e2 r2 => ?_)
  exact k p q G2 H2 v u (e1.trans e2) (I1.grow e2) (r1.mono e2) r2 g2
theorem GX.ge {XI : Ends1} {W : WX} {G H G1 H1 : Hp} {σ : L2.St} {K : PySem.W.Frag} {Q : VK} {r : Res PV} (h : GX XI W G H σ (okE false K G H Q) r) (e : Ext G H G1 H1) : GE K XI W G1 H1 σ r Q := by
  cases r with
  | ok p => exact fun G' H' v e2 rv => h G' H' v (e.trans e2) rv
  | exc c p => exact fun G' H' cls d e2 x => h G' H' cls d (e.trans e2) x
  | bad => exact h
theorem cmp_bl {op : Cop} {p q z : PV} (ec : cmpP op p q = .ok z) : ∃ b, z = .bl b := by
  unfold cmpP at ec
  split at ec <;> first | (cases ec; exact ⟨_, rfl⟩) | (split at ec <;> first | (cases ec; exact ⟨_, rfl⟩) | cases ec) | cases ec
theorem chn_bl {φ : Fns} {κ : Cons} {op op' : Cop} {a b c : C} {ρ : List Slot} {z : PV} (ec : ev φ κ (.chn op op' a b c) ρ = .ok z) : ∃ b, z = .bl b := by
  have ec : ((ev φ κ a ρ).bind fun x => (ev φ κ b ρ).bind fun y => (cmpP op x y).bind fun r => match r with
    | .bl true => (ev φ κ c ρ).bind fun z => cmpP op' y z
    | .bl false => .ok (.bl false)
    | _ => .bad) = .ok z := ec
  cases ea : ev φ κ a ρ with
  | ok x =>
    rw [ea] at ec
    cases eb : ev φ κ b ρ with
    | ok y =>
      rw [eb] at ec
      cases e1 : cmpP op x y with
      | ok r =>
        have ec : (Res.bind (cmpP op x y) fun r => match r with
          | .bl true => (ev φ κ c ρ).bind fun z => cmpP op' y z
          | .bl false => .ok (.bl false)
          | _ => .bad) = .ok z := ec
        rw [e1] at ec
        obtain ⟨b1, rfl⟩ := cmp_bl e1
        cases b1 with
        | true =>
          have ec : ((ev φ κ c ρ).bind fun z => cmpP op' y z) = .ok z := ec
          cases e2 : ev φ κ c ρ with
          | ok w => rw [e2] at ec; exact cmp_bl ec
          | exc c o => rw [e2] at ec; cases ec
          | bad => rw [e2] at ec; cases ec
        | false => cases ec; exact ⟨_, rfl⟩
      | exc c0 o =>
        have ec : (Res.bind (cmpP op x y) fun r => match r with
          | .bl true => (ev φ κ c ρ).bind fun z => cmpP op' y z
          | .bl false => .ok (.bl false)
          | _ => .bad) = .ok z := ec
        rw [e1] at ec; cases ec
      | bad =>
        have ec : (Res.bind (cmpP op x y) fun r => match r with
          | .bl true => (ev φ κ c ρ).bind fun z => cmpP op' y z
          | .bl false => .ok (.bl false)
          | _ => .bad) = .ok z := ec
        rw [e1] at ec; cases ec
    | exc c o => rw [eb] at ec; cases ec
    | bad => rw [eb] at ec; cases ec
  | exc c o => rw [ea] at ec; cases ec
  | bad => rw [ea] at ec; cases ec
theorem units65 {k : Nat} {A : Around} (r : Room k A) : A.units + 65 < cLine := by
  have := r.un
  omega
theorem sd_bin (op : Bop) {a b : C} (Sa : Sd B n N a) (Sb : Sd B n N b) : Sd B n N (.bin op a b) := by
  refine Sd.mk1 rfl (fun z => nomatch z) (SE.all ?_ fun _ _ _ h => h)
  intro sc e hc X W E G0 H0 G H ρ σ Q I g
  have hc : eBin op (ck B N a) (ck B N b) false sc e = true := hc
  unfold eBin at hc
  split at hc
  · obtain ⟨h1, h2, h3⟩ := and3 hc
    have h1' := bopB_ok h1
    subst h1'
    refine pe_can' (pe_op (opCan_ok X _) pe_can pe_can) ?_
    exact two_ok Sa Sb E h2 h3 I g fun p q G' H' v u ex I' r1 r2 g' => bin_ok op I'.sub r1 r2 (g'.ge ex)
  · cases hc
theorem sd_cmp (op : Cop) {a b : C} (Sa : Sd B n N a) (Sb : Sd B n N b) : Sd B n N (.cmp op a b) := by
  have key : ∀ sc e, eCmp op (ck B N a) (ck B N b) false sc e = true → ∃ x y pos, e = .Compare x [copE op] [y] pos ∧ (ck B N a).e true sc x = true ∧ (ck B N b).e true sc y = true ∧ notSet y = true := fun sc e hc => by
    unfold eCmp at hc
    split at hc
    · simp only [Bool.and_eq_true] at hc
      obtain ⟨⟨⟨h1, h2⟩, h3⟩, h4⟩ := hc
      have h1' := copB_ok h1
      subst h1'
      exact ⟨_, _, _, rfl, h2, h3, h4⟩
    · cases hc
  have se : SE B n N false (.cmp op a b) := by
    intro sc e hc X W E G0 H0 G H ρ σ Q I g
    obtain ⟨x, y, pos, rfl, h2, h3, h4⟩ := key sc e hc
    refine pe_can' (pe_cmpR (opCan_ok X _) pe_can pe_can (notSet_marks h4)) ?_
    exact two_ok Sa Sb E h2 h3 I g fun p q G' H' v u ex I' r1 r2 g' => cmp_ok op (units65 E.room) I'.sub r1 r2 (g'.ge ex)
  have st : ∀ sc e, eCmp op (ck B N a) (ck B N b) false sc e = true → ∀ (X : Cx) (W : WX), EC B n N sc X W → ∀ (G0 H0 G H : Hp) (ρ : List Slot) (σ : L2.St) (Q : Bool → Hp → Prop), SI X.K G0 H0 G H ρ σ →
      GX (XB B X) W G H σ (okT G H Q) ((ev (φn B n) B.κ (.cmp op a b) ρ).bind truP) → tcT X e σ H Q := by
    intro sc e hc X W E G0 H0 G H ρ σ Q I g
    obtain ⟨x, y, pos, rfl, h2, h3, h4⟩ := key sc e hc
    refine pt_can' (pt_cmpR (opCan_ok X _) pe_can pe_can (notSet_marks h4)) ?_
    refine two_ok Sa Sb E h2 h3 I g.bind fun p q G' H' v u ex I' r1 r2 g' => cmp_ok (XI := XB B X) (W := W) (σ := σ) op (units65 E.room) I'.sub r1 r2 ?_
    cases ec : cmpP op p q with
    | ok z =>
      rw [ec] at g'
      intro G2 H2 w e2 rw2
      obtain ⟨b, rfl⟩ := cmp_bl ec
      cases rw2
      exact ⟨b, rfl, g' G2 H2 (ex.trans e2)⟩
    | exc c o => rw [ec] at g'; exact fun G2 H2 cls d e2 xx => g' G2 H2 cls d (ex.trans e2) xx
    | bad => rw [ec] at g'; exact g'
  exact Sd.mk2 rfl (fun z => nomatch z) (SE.all se fun _ _ _ h => h) st (fun _ _ _ _ _ _ h => nomatch h) (fun _ _ _ _ _ _ h => nomatch h)
/-- a chain of two comparisons -/
theorem sd_chn (op op' : Cop) {a b c : C} (Sa : Sd B n N a) (Sb : Sd B n N b) (Sc : Sd B n N c) : Sd B n N (.chn op op' a b c) := by
  have key : ∀ sc e, eChn op op' (ck B N a) (ck B N b) (ck B N c) false sc e = true → ∃ x y z pos, e = .Compare x [copE op, copE op'] [y, z] pos ∧ (ck B N a).e true sc x = true ∧ (ck B N b).e true sc y = true ∧ (ck B N c).e true sc z = true ∧ notSet z = true := fun sc e hc => by
    unfold eChn at hc
    split at hc
    · simp only [Bool.and_eq_true] at hc
      obtain ⟨⟨⟨⟨⟨h1, h0⟩, h2⟩, h3⟩, h5⟩, h4⟩ := hc
      have h1' := copB_ok h1
      subst h1'
      have h0' := copB_ok h0
      subst h0'
      exact ⟨_, _, _, _, rfl, h2, h3, h5, h4⟩
    · cases hc
  have core : ∀ (sc : Scope) (x y z : Expr), (ck B N a).e true sc x = true → (ck B N b).e true sc y = true → (ck B N c).e true sc z = true → ∀ (X : Cx) (W : WX), EC B n N sc X W → ∀ (G0 H0 G H : Hp) (ρ : List Slot) (σ : L2.St) (Q : VK) (ok : PV → Prop), SI X.K G0 H0 G H ρ σ →
      (∀ p, ok p → okE false X.K G H Q p) → GX (XB B X) W G H σ ok (ev (φn B n) B.κ (.chn op op' a b c) ρ) → tChain (opCan X (compareOp (copE op))) (opCan X (compareOp (copE op'))) (tcE X x) (tcE X y) (tcE X z) σ H Q := by
    intro sc x y z h2 h3 h5 X W E G0 H0 G H ρ σ Q ok I hok g
    refine two_ok Sa Sb E h2 h3 I g fun p q G' H' v u ex I' r1 r2 g' => cmp_ok (XI := XB B X) (W := W) (σ := σ) op (units65 E.room) I'.sub r1.x r2.x ?_
    cases ec : cmpP op p q with
    | ok w =>
      rw [ec] at g'
      intro G2 H2 w' e2 rw2
      obtain ⟨b1, rfl⟩ := cmp_bl ec
      cases rw2
      refine ⟨b1, rfl, ?_⟩
      cases b1 with
      | false => exact iteF (hok _ g' G2 H2 _ (ex.trans e2) (.bl _))
      | true =>
        refine iteT ?_
        have I2 := I'.grow e2
        have exx := ex.trans e2
        have g3 : GX (XB B X) W G H σ ok ((ev (φn B n) B.κ c ρ).bind fun z => cmpP op' q z) := g'
        refine Sc.e true sc z h5 X W E G0 H0 G2 H2 ρ σ _ I2 ((GX.move (ok' := fun s => GX (XB B X) W G H σ ok (cmpP op' q s)) g3.bind exx fun s h => h).imp fun s _ g4 G3 H3 u3 e3 r3 => ?_)
        exact cmp_ok (XI := XB B X) (W := W) (σ := σ) op' (units65 E.room) (I2.grow e3).sub ((r2.mono e2).mono e3).x r3.x ((g4.imp fun p _ h => hok p h).ge (exx.trans e3))
    | exc c o => rw [ec] at g'; exact fun G2 H2 cls d e2 xx => g' G2 H2 cls d (ex.trans e2) xx
    | bad => rw [ec] at g'; exact g'
  have se : SE B n N false (.chn op op' a b c) := by
    intro sc e hc X W E G0 H0 G H ρ σ Q I g
    obtain ⟨x, y, z, pos, rfl, h2, h3, h5, h4⟩ := key sc e hc
    refine pe_can' (pe_chain (opCan_ok X _) (opCan_ok X _) pe_can pe_can pe_can (notSet_marks (op := copE op') h4)) ?_
    exact core sc x y z h2 h3 h5 X W E G0 H0 G H ρ σ Q _ I (fun _ h => h) g
  have st : ST B n N (.chn op op' a b c) := by
    intro sc e hc X W E G0 H0 G H ρ σ Q I g
    obtain ⟨x, y, z, pos, rfl, h2, h3, h5, h4⟩ := key sc e hc
    refine pt_can' (pt_chain (opCan_ok X _) (opCan_ok X _) pe_can pe_can pe_can (notSet_marks (op := copE op') h4)) ?_
    refine core sc x y z h2 h3 h5 X W E G0 H0 G H ρ σ _ _ I (fun p hp G' H' v ex r => ?_) (g.bind.imp (ok' := fun p => ∃ b, p = .bl b ∧ okT G H Q b) fun p ep hp => ?_)
    · obtain ⟨b1, rfl, hb⟩ := hp
      cases r
      exact ⟨b1, rfl, hb G' H' ex⟩
    · obtain ⟨b1, rfl⟩ := chn_bl ep
      exact ⟨b1, rfl, hp⟩
  exact Sd.mk2 rfl (fun z => nomatch z) (SE.all se fun _ _ _ h => h) st (fun _ _ _ _ _ _ h => nomatch h) (fun _ _ _ _ _ _ h => nomatch h)
theorem sd_neg {a : C} (Sa : Sd B n N a) : Sd B n N (.neg a) := by
  refine Sd.mk1 rfl (fun z => nomatch z) (SE.all ?_ fun _ _ _ h => h)
  intro sc e hc X W E G0 H0 G H ρ σ Q I g
  have hc : eNeg (ck B N a) false sc e = true := hc
  unfold eNeg at hc
  split at hc
  · refine pe_can' (pe_un un_neg pe_can) ?_
    refine Sa.e false sc _ hc X W E G0 H0 G H ρ σ _ I ((GX.bind g).imp fun p _ g1 G1 H1 v e1 r1 => ?_)
    cases p with
    | int i => cases r1; exact ⟨i, rfl, g1 G1 H1 _ e1 (.int _)⟩
    | _ => exact g1.elim
  · cases hc
theorem sd_nt {a : C} (Sa : Sd B n N a) : Sd B n N (.nt a) := by
  have se : SE B n N false (.nt a) := by
    intro sc e hc X W E G0 H0 G H ρ σ Q I g
    have hc : eNt (ck B N a) false sc e = true := hc
    unfold eNt at hc
    split at hc
    · refine pe_can' (pe_notT pe_can) ?_
      refine Sa.e true sc _ hc X W E G0 H0 G H ρ σ _ I ((GX.bind g).imp fun p _ g1 G1 H1 v e1 r1 => ?_)
      cases et : truP p with
      | ok b =>
        rw [et] at g1
        exact ⟨b, tru_rep (I.grow e1).sub r1 et, g1 G1 H1 _ e1 (.bl _)⟩
      | exc c o => exact absurd et truP_exc
      | bad => rw [et] at g1; exact g1.elim
    · cases hc
  have st : ST B n N (.nt a) := by
    intro sc e hc X W E G0 H0 G H ρ σ Q I g
    have hc : tNt (ck B N a) sc e = true := hc
    unfold tNt at hc
    split at hc
    · refine pt_can' (pt_not pt_can) ?_
      refine Sa.t sc _ hc X W E G0 H0 G H ρ σ _ I ?_
      have e : ((ev (φn B n) B.κ (.nt a) ρ).bind truP) = (((ev (φn B n) B.κ a ρ).bind truP).bind fun t => .ok (!t)) := by
        show (((ev (φn B n) B.κ a ρ).bind fun x => (truP x).bind fun t => .ok (.bl (!t))).bind truP) = _
        cases ev (φn B n) B.κ a ρ with
        | ok p =>
          show (((truP p).bind fun t => .ok (.bl (!t))).bind truP) = ((truP p).bind fun t => .ok (!t))
          cases truP p <;> rfl
        | exc c o => rfl
        | bad => rfl
      rw [e] at g
      exact g.bind
    · cases hc
  exact Sd.mk2 rfl (fun z => nomatch z) (SE.all se fun _ _ _ h => h) st (fun _ _ _ _ _ _ h => nomatch h) (fun _ _ _ _ _ _ h => nomatch h)
/-- and, as a value -/
theorem an_ok {a b : C} {op : BoolOp} (hop : op = .And) {sc : Scope} {x y : Expr} {r : List Expr} {pos : Pos} (Sa : Sd B n N a) (Sb : Sd B n N b) (h1 : (ck B N a).e false sc x = true) (h2 : (ck B N b).b .And sc (y :: r) = true) {X : Cx} {W : WX} (E : EC B n N sc X W)
    {G0 H0 G H : Hp} {ρ : List Slot} {σ : L2.St} {Q : VK} (I : SI X.K G0 H0 G H ρ σ) (g : GX (XB B X) W G H σ (okE false X.K G H Q) (ev (φn B n) B.κ (.an a b) ρ)) : tcE X (.BoolOp op (x :: y :: r) pos) σ H Q := by
  subst hop
  refine pe_can' (pe_andT pe_can pe_can) ?_
  refine Sa.e false sc x h1 X W E G0 H0 G H ρ σ _ I ((GX.bind g).imp fun p _ g1 G1 H1 v e1 r1 => ?_)
  cases et : truP p with
  | ok t =>
    rw [et] at g1
    refine ⟨t, tru_rep (I.grow e1).sub (.inl r1) et, ?_⟩
    cases t with
    | true =>
      refine iteT ?_
      have g2 : GX (XB B X) W G H σ (okE false X.K G H Q) (ev (φn B n) B.κ b ρ) := g1
      exact Sb.b .And sc y r pos h2 X W E G0 H0 G1 H1 ρ σ _ (I.grow e1) (GX.move g2 e1 fun q k G' H' v ex rr => k G' H' v (e1.trans ex) rr)
    | false =>
      refine iteF ?_
      exact g1 G1 H1 v e1 r1
  | exc c o => exact absurd et truP_exc
  | bad => rw [et] at g1; exact g1.elim
theorem or_ok {a b : C} {op : BoolOp} (hop : op = .Or) {sc : Scope} {x y : Expr} {r : List Expr} {pos : Pos} (Sa : Sd B n N a) (Sb : Sd B n N b) (h1 : (ck B N a).e false sc x = true) (h2 : (ck B N b).b .Or sc (y :: r) = true) {X : Cx} {W : WX} (E : EC B n N sc X W)
    {G0 H0 G H : Hp} {ρ : List Slot} {σ : L2.St} {Q : VK} (I : SI X.K G0 H0 G H ρ σ) (g : GX (XB B X) W G H σ (okE false X.K G H Q) (ev (φn B n) B.κ (.or a b) ρ)) : tcE X (.BoolOp op (x :: y :: r) pos) σ H Q := by
  subst hop
  refine pe_can' (pe_orT pe_can pe_can) ?_
  refine Sa.e false sc x h1 X W E G0 H0 G H ρ σ _ I ((GX.bind g).imp fun p _ g1 G1 H1 v e1 r1 => ?_)
  cases et : truP p with
  | ok t =>
    rw [et] at g1
    refine ⟨t, tru_rep (I.grow e1).sub (.inl r1) et, ?_⟩
    cases t with
    | false =>
      refine iteF ?_
      have g2 : GX (XB B X) W G H σ (okE false X.K G H Q) (ev (φn B n) B.κ b ρ) := g1
      exact Sb.b .Or sc y r pos h2 X W E G0 H0 G1 H1 ρ σ _ (I.grow e1) (GX.move g2 e1 fun q k G' H' v ex rr => k G' H' v (e1.trans ex) rr)
    | true =>
      refine iteT ?_
      exact g1 G1 H1 v e1 r1
  | exc c o => exact absurd et truP_exc
  | bad => rw [et] at g1; exact g1.elim
theorem anT_ok {a b : C} {op : BoolOp} (hop : op = .And) {sc : Scope} {x y : Expr} {r : List Expr} {pos : Pos} (Sa : Sd B n N a) (Sb : Sd B n N b) (h1 : (ck B N a).t sc x = true) (h2 : (ck B N b).tb .And sc (y :: r) = true) {X : Cx} {W : WX} (E : EC B n N sc X W)
    {G0 H0 G H : Hp} {ρ : List Slot} {σ : L2.St} {Q : Bool → Hp → Prop} (I : SI X.K G0 H0 G H ρ σ) (g : GX (XB B X) W G H σ (okT G H Q) ((ev (φn B n) B.κ (.an a b) ρ).bind truP)) : tcW X (.BoolOp op (x :: y :: r) pos) σ H Q := by
  subst hop
  refine pw_can' (pw_and pt_can pw_can) ?_
  have e : ((ev (φn B n) B.κ (.an a b) ρ).bind truP) = (((ev (φn B n) B.κ a ρ).bind truP).bind fun t => if t then (ev (φn B n) B.κ b ρ).bind truP else .ok false) := by
    show (((ev (φn B n) B.κ a ρ).bind fun x => (truP x).bind fun t => if t then ev (φn B n) B.κ b ρ else .ok x).bind truP) = _
    cases ev (φn B n) B.κ a ρ with
    | ok p =>
      cases h : truP p with
      | ok t => cases t <;> simp [Res.bind, h]
      | exc c o => simp [Res.bind, h]
      | bad => simp [Res.bind, h]
    | exc c o => rfl
    | bad => rfl
  rw [e] at g
  refine Sa.t sc x h1 X W E G0 H0 G H ρ σ _ I (g.bind.imp fun t _ g1 G1 H1 e1 => ?_)
  cases t with
  | true =>
    refine iteT ?_
    have g2 : GX (XB B X) W G H σ (okT G H Q) ((ev (φn B n) B.κ b ρ).bind truP) := g1
    exact Sb.tb .And sc y r pos h2 X W E G0 H0 G1 H1 ρ σ _ (I.grow e1) (GX.move g2 e1 fun q k G' H' ex => k G' H' (e1.trans ex))
  | false =>
    refine iteF ?_
    exact g1 G1 H1 e1
theorem orT_ok {a b : C} {op : BoolOp} (hop : op = .Or) {sc : Scope} {x y : Expr} {r : List Expr} {pos : Pos} (Sa : Sd B n N a) (Sb : Sd B n N b) (h1 : (ck B N a).t sc x = true) (h2 : (ck B N b).tb .Or sc (y :: r) = true) {X : Cx} {W : WX} (E : EC B n N sc X W)
    {G0 H0 G H : Hp} {ρ : List Slot} {σ : L2.St} {Q : Bool → Hp → Prop} (I : SI X.K G0 H0 G H ρ σ) (g : GX (XB B X) W G H σ (okT G H Q) ((ev (φn B n) B.κ (.or a b) ρ).bind truP)) : tcW X (.BoolOp op (x :: y :: r) pos) σ H Q := by
  subst hop
  refine pw_can' (pw_or pt_can pw_can) ?_
  have e : ((ev (φn B n) B.κ (.or a b) ρ).bind truP) = (((ev (φn B n) B.κ a ρ).bind truP).bind fun t => if t then .ok true else (ev (φn B n) B.κ b ρ).bind truP) := by
    show (((ev (φn B n) B.κ a ρ).bind fun x => (truP x).bind fun t => if t then .ok x else ev (φn B n) B.κ b ρ).bind truP) = _
    cases ev (φn B n) B.κ a ρ with
    | ok p =>
      cases h : truP p with
      | ok t => cases t <;> simp [Res.bind, h]
      | exc c o => simp [Res.bind, h]
      | bad => simp [Res.bind, h]
    | exc c o => rfl
    | bad => rfl
  rw [e] at g
  refine Sa.t sc x h1 X W E G0 H0 G H ρ σ _ I (g.bind.imp fun t _ g1 G1 H1 e1 => ?_)
  cases t with
  | false =>
    refine iteF ?_
    have g2 : GX (XB B X) W G H σ (okT G H Q) ((ev (φn B n) B.κ b ρ).bind truP) := g1
    exact Sb.tb .Or sc y r pos h2 X W E G0 H0 G1 H1 ρ σ _ (I.grow e1) (GX.move g2 e1 fun q k G' H' ex => k G' H' (e1.trans ex))
  | true =>
    refine iteT ?_
    exact g1 G1 H1 e1
theorem tcT_of_W {X : Cx} {e : Expr} {σ : L2.St} {H : Hp} {Q : Bool → Hp → Prop} (h : tcW X e σ H Q) : tcT X e σ H Q := fun pins s I => h _ pins s I
theorem sd_an {a b : C} (Sa : Sd B n N a) (Sb : Sd B n N b) : Sd B n N (.an a b) := by
  refine Sd.mk2 rfl (fun z => nomatch z) (SE.all ?_ fun _ _ _ h => h) ?_ ?_ ?_
  · intro sc e hc X W E G0 H0 G H ρ σ Q I g
    have hc : eAn (ck B N a) (ck B N b) false sc e = true := hc
    unfold eAn at hc
    split at hc
    · simp only [Bool.and_eq_true] at hc
      exact an_ok rfl Sa Sb hc.1 hc.2 E I g
    · cases hc
  · intro sc e hc X W E G0 H0 G H ρ σ Q I g
    have hc : tAn (ck B N a) (ck B N b) sc e = true := hc
    unfold tAn at hc
    split at hc
    · simp only [Bool.and_eq_true] at hc
      exact tcT_of_W (anT_ok rfl Sa Sb hc.1 hc.2 E I g)
    · cases hc
  · intro op sc x y r pos hc X W E G0 H0 G H ρ σ Q I g
    have hc : bAn (ck B N a) (ck B N b) op sc (x :: y :: r) = true := hc
    unfold bAn at hc
    cases op with
    | And =>
      simp only [Bool.and_eq_true] at hc
      exact an_ok rfl Sa Sb hc.1 hc.2 E I g
    | Or => cases hc
  · intro op sc x y r pos hc X W E G0 H0 G H ρ σ Q I g
    have hc : tbAn (ck B N a) (ck B N b) op sc (x :: y :: r) = true := hc
    unfold tbAn at hc
    cases op with
    | And =>
      simp only [Bool.and_eq_true] at hc
      exact anT_ok rfl Sa Sb hc.1 hc.2 E I g
    | Or => cases hc
theorem sd_or {a b : C} (Sa : Sd B n N a) (Sb : Sd B n N b) : Sd B n N (.or a b) := by
  refine Sd.mk2 rfl (fun z => nomatch z) (SE.all ?_ fun _ _ _ h => h) ?_ ?_ ?_
  · intro sc e hc X W E G0 H0 G H ρ σ Q I g
    have hc : eOr (ck B N a) (ck B N b) false sc e = true := hc
    unfold eOr at hc
    split at hc
    · simp only [Bool.and_eq_true] at hc
      exact or_ok rfl Sa Sb hc.1 hc.2 E I g
    · cases hc
  · intro sc e hc X W E G0 H0 G H ρ σ Q I g
    have hc : tOr' (ck B N a) (ck B N b) sc e = true := hc
    unfold tOr' at hc
    split at hc
    · simp only [Bool.and_eq_true] at hc
      exact tcT_of_W (orT_ok rfl Sa Sb hc.1 hc.2 E I g)
    · cases hc
  · intro op sc x y r pos hc X W E G0 H0 G H ρ σ Q I g
    have hc : bOr (ck B N a) (ck B N b) op sc (x :: y :: r) = true := hc
    unfold bOr at hc
    cases op with
    | Or =>
      simp only [Bool.and_eq_true] at hc
      exact or_ok rfl Sa Sb hc.1 hc.2 E I g
    | And => cases hc
  · intro op sc x y r pos hc X W E G0 H0 G H ρ σ Q I g
    have hc : tbOr (ck B N a) (ck B N b) op sc (x :: y :: r) = true := hc
    unfold tbOr at hc
    cases op with
    | Or =>
      simp only [Bool.and_eq_true] at hc
      exact orT_ok rfl Sa Sb hc.1 hc.2 E I g
    | And => cases hc
theorem sd_ife {c a b : C} (Sc : Sd B n N c) (Sa : Sd B n N a) (Sb : Sd B n N b) : Sd B n N (.ife c a b) := by
  refine Sd.mk1 rfl (fun z => nomatch z) (SE.all ?_ fun _ _ _ h => h)
  intro sc e hc X W E G0 H0 G H ρ σ Q I g
  have hc : eIfe (ck B N c) (ck B N a) (ck B N b) false sc e = true := hc
  unfold eIfe at hc
  split at hc
  · obtain ⟨h1, h2, h3⟩ := and3 hc
    refine pe_can' (pe_ifExp pt_can pe_can pe_can) ?_
    have e : (ev (φn B n) B.κ (.ife c a b) ρ) = (((ev (φn B n) B.κ c ρ).bind truP).bind fun t => if t then ev (φn B n) B.κ a ρ else ev (φn B n) B.κ b ρ) := by
      show ((ev (φn B n) B.κ c ρ).bind fun x => (truP x).bind fun t => if t then ev (φn B n) B.κ a ρ else ev (φn B n) B.κ b ρ) = _
      cases ev (φn B n) B.κ c ρ <;> rfl
    rw [e] at g
    refine Sc.t sc _ h1 X W E G0 H0 G H ρ σ _ I (g.bind.imp fun t _ g1 G1 H1 e1 => ?_)
    cases t with
    | true =>
      refine iteT ?_
      have g2 : GX (XB B X) W G H σ (okE false X.K G H Q) (ev (φn B n) B.κ a ρ) := g1
      exact Sa.e false sc _ h2 X W E G0 H0 G1 H1 ρ σ _ (I.grow e1) (GX.move g2 e1 fun q k G' H' v ex rr => k G' H' v (e1.trans ex) rr)
    | false =>
      refine iteF ?_
      have g2 : GX (XB B X) W G H σ (okE false X.K G H Q) (ev (φn B n) B.κ b ρ) := g1
      exact Sb.e false sc _ h3 X W E G0 H0 G1 H1 ρ σ _ (I.grow e1) (GX.move g2 e1 fun q k G' H' v ex rr => k G' H' v (e1.trans ex) rr)
  · cases hc
end
end Z
end
section
/-! a chain of three comparisons -/
namespace L2
open PySem PySem.Spec PyProof.Rows
def tChn3 (ra rb rc : R2) (ta tb tc td : TE) : TE := fun σ H Q => ta σ H fun x H1 => tb σ H1 fun y H2 => ra x y H2 fun z H3 => ∃ k, z = .bl k ∧
  (if k = true then tc σ H3 fun w H4 => rb y w H4 fun z' H5 => ∃ k', z' = .bl k' ∧ (if k' = true then td σ H5 fun w2 H6 => rc w w2 H6 Q else Q (.bl false) H5) else Q (.bl false) H3)
section
variable {X : Cx}
theorem pe_chn3 {oa ob oc : CmpOp} {ra rb rc : R2} {a b c d : Expr} {ta tb tc td : TE} {pos : Pos} (h1 : OpR X (compareOp oa) ra) (h2 : OpR X (compareOp ob) rb) (h3 : OpR X (compareOp oc) rc) (ha : PE X a ta) (hb : PE X b tb) (hc : PE X c tc) (hd : PE X d td)
    (hm : lastMarks [oa, ob, oc] [b, c, d] = false) : PE X (.Compare a [oa, ob, oc] [b, c, d] pos) (tChn3 ra rb rc ta tb tc td) := by
  refine ⟨fun pins s σ H Q I g => ?_⟩
  refine Compare_chain (thn (ha.run pins s σ H _ I g) fun v s1 ⟨x, H1, I1, r1, q1⟩ => chain_link (thn (hb.run pins s1 σ H1 _ I1 q1) fun u s2 ⟨y, H2, I2, r2, q2⟩ =>
    thn (h1 pins s2 σ H2 x y v u _ I2 r1 r2 q2) fun e0 s3 ⟨z, H3, I3, r3, k, e, q3⟩ => ?_)) hm
  subst e
  cases r3
  refine wpAny_truthy_bool ?_
  cases k with
  | false => exact ite_ff ⟨.bl false, H3, I3, rfl, q3⟩
  | true =>
    refine ite_tt (chain_link (thn (hc.run pins s3 σ H3 _ I3 q3) fun u2 s4 ⟨y2, H4, I4, r4, q4⟩ => thn (h2 pins s4 σ H4 y y2 u u2 _ I4 r2 r4 q4) fun e1 s5 ⟨z2, H5, I5, r5, k2, e', q5⟩ => ?_))
    subst e'
    cases r5
    refine wpAny_truthy_bool ?_
    cases k2 with
    | false => exact ite_ff ⟨.bl false, H5, I5, rfl, q5⟩
    | true => exact ite_tt (chain_last (thn (hd.run pins s5 σ H5 _ I5 q5) fun w' s6 ⟨z', H6, I6, r6, q6⟩ => h3 pins s6 σ H6 y2 z' u2 w' Q I6 r4 r6 q6))
theorem pt_chn3 {oa ob oc : CmpOp} {ra rb rc : R2} {a b c d : Expr} {ta tb tc td : TE} {pos : Pos} (h1 : OpR X (compareOp oa) ra) (h2 : OpR X (compareOp ob) rb) (h3 : OpR X (compareOp oc) rc) (ha : PE X a ta) (hb : PE X b tb) (hc : PE X c tc) (hd : PE X d td)
    (hm : lastMarks [oa, ob, oc] [b, c, d] = false) : PT X (.Compare a [oa, ob, oc] [b, c, d] pos) (tTest (tChn3 ra rb rc ta tb tc td)) := by
  refine ⟨fun pins s σ H Q I g => ?_⟩
  refine isTrue_chain (thn (ha.run pins s σ H _ I g) fun v s1 ⟨x, H1, I1, r1, q1⟩ => test_link (thn (hb.run pins s1 σ H1 _ I1 q1) fun u s2 ⟨y, H2, I2, r2, q2⟩ =>
    thn (h1 pins s2 σ H2 x y v u _ I2 r1 r2 q2) fun e0 s3 ⟨z, H3, I3, r3, k, e, q3⟩ => ?_)) hm
  subst e
  cases r3
  refine wpAny_truthy_bool ?_
  cases k with
  | false =>
    obtain ⟨k', e', q'⟩ := q3
    cases e'
    exact ite_ff ⟨H3, I3, q'⟩
  | true =>
    refine ite_tt (test_link (thn (hc.run pins s3 σ H3 _ I3 q3) fun u2 s4 ⟨y2, H4, I4, r4, q4⟩ => thn (h2 pins s4 σ H4 y y2 u u2 _ I4 r2 r4 q4) fun e1 s5 ⟨z2, H5, I5, r5, k2, e', q5⟩ => ?_))
    subst e'
    cases r5
    refine wpAny_truthy_bool ?_
    cases k2 with
    | false =>
      obtain ⟨k', e', q'⟩ := q5
      cases e'
      exact ite_ff ⟨H5, I5, q'⟩
    | true =>
      refine ite_tt (test_last (thn (hd.run pins s5 σ H5 _ I5 q5) fun w' s6 ⟨z', H6, I6, r6, q6⟩ => thn (h3 pins s6 σ H6 y2 z' u2 w' _ I6 r4 r6 q6) fun d' s7 ⟨z3, H7, I7, r7, k3, e3, q7⟩ => ?_))
      subst e3
      cases r7
      exact wpAny_truthy_bool ⟨H7, I7, q7⟩
end
end L2
namespace Z
open PySem PySem.Spec PyProof.Rows L2
theorem chn3_bl {φ : Fns} {κ : Cons} {op op' op'' : Cop} {a b c d : C} {ρ : List Slot} {z : PV} (ec : ev φ κ (.chn3 op op' op'' a b c d) ρ = .ok z) : ∃ b, z = .bl b := by
  have ec : ((ev φ κ a ρ).bind fun x => (ev φ κ b ρ).bind fun y => (cmpP op x y).bind fun r => match r with
    | .bl true => (ev φ κ c ρ).bind fun z => (cmpP op' y z).bind fun r' => (match r' with
      | .bl true => (ev φ κ d ρ).bind fun u => cmpP op'' z u
      | .bl false => .ok (.bl false)
      | _ => .bad)
    | .bl false => .ok (.bl false)
    | _ => .bad) = .ok z := ec
  cases ea : ev φ κ a ρ with
  | ok x =>
    rw [ea] at ec
    cases eb : ev φ κ b ρ with
    | ok y =>
      rw [eb] at ec
      have ec : ((cmpP op x y).bind fun r => match r with
        | .bl true => (ev φ κ c ρ).bind fun z => (cmpP op' y z).bind fun r' => (match r' with
          | .bl true => (ev φ κ d ρ).bind fun u => cmpP op'' z u
          | .bl false => .ok (.bl false)
          | _ => .bad)
        | .bl false => .ok (.bl false)
        | _ => .bad) = .ok z := ec
      cases e1 : cmpP op x y with
      | ok w =>
        rw [e1] at ec
        obtain ⟨t, rfl⟩ := cmp_bl e1
        cases t with
        | false => cases ec; exact ⟨_, rfl⟩
        | true =>
          have ec : ((ev φ κ c ρ).bind fun z => (cmpP op' y z).bind fun r' => (match r' with
            | .bl true => (ev φ κ d ρ).bind fun u => cmpP op'' z u
            | .bl false => .ok (.bl false)
            | _ => .bad)) = .ok z := ec
          cases e2 : ev φ κ c ρ with
          | ok v =>
            rw [e2] at ec
            have ec : ((cmpP op' y v).bind fun r' => (match r' with
              | .bl true => (ev φ κ d ρ).bind fun u => cmpP op'' v u
              | .bl false => .ok (.bl false)
              | _ => .bad)) = .ok z := ec
            cases e3 : cmpP op' y v with
            | ok w2 =>
              rw [e3] at ec
              obtain ⟨t2, rfl⟩ := cmp_bl e3
              cases t2 with
              | false => cases ec; exact ⟨_, rfl⟩
              | true =>
                have ec : ((ev φ κ d ρ).bind fun u => cmpP op'' v u) = .ok z := ec
                cases e4 : ev φ κ d ρ with
                | ok u =>
                  rw [e4] at ec
                  exact cmp_bl ec
                | exc _ _ => rw [e4] at ec; cases ec
                | bad => rw [e4] at ec; cases ec
            | exc _ _ => rw [e3] at ec; cases ec
            | bad => rw [e3] at ec; cases ec
          | exc _ _ => rw [e2] at ec; cases ec
          | bad => rw [e2] at ec; cases ec
      | exc _ _ => rw [e1] at ec; cases ec
      | bad => rw [e1] at ec; cases ec
    | exc _ _ => rw [eb] at ec; cases ec
    | bad => rw [eb] at ec; cases ec
  | exc _ _ => rw [ea] at ec; cases ec
  | bad => rw [ea] at ec; cases ec
section
variable {B : Tb} {n : Nat} {N : List Str}
theorem sd_chn3 (op op' op'' : Cop) {a b c d : C} (Sa : Sd B n N a) (Sb : Sd B n N b) (Sc : Sd B n N c) (Sdd : Sd B n N d) : Sd B n N (.chn3 op op' op'' a b c d) := by
  have key : ∀ sc e, eChn3 op op' op'' (ck B N a) (ck B N b) (ck B N c) (ck B N d) false sc e = true → ∃ x y z w pos, e = .Compare x [copE op, copE op', copE op''] [y, z, w] pos ∧ (ck B N a).e true sc x = true ∧ (ck B N b).e true sc y = true ∧ (ck B N c).e true sc z = true ∧ (ck B N d).e true sc w = true ∧ notSet w = true := fun sc e hc => by
    unfold eChn3 at hc
    split at hc
    · simp only [Bool.and_eq_true] at hc
      obtain ⟨⟨⟨⟨⟨⟨⟨h1, h0⟩, h9⟩, h2⟩, h3⟩, h5⟩, h6⟩, h4⟩ := hc
      have h1' := copB_ok h1
      subst h1'
      have h0' := copB_ok h0
      subst h0'
      have h9' := copB_ok h9
      subst h9'
      exact ⟨_, _, _, _, _, rfl, h2, h3, h5, h6, h4⟩
    · cases hc
  have core : ∀ (sc : Scope) (x y z w : Expr), (ck B N a).e true sc x = true → (ck B N b).e true sc y = true → (ck B N c).e true sc z = true → (ck B N d).e true sc w = true → ∀ (X : Cx) (W : WX), EC B n N sc X W → ∀ (G0 H0 G H : Hp) (ρ : List Slot) (σ : L2.St) (Q : VK) (ok : PV → Prop), SI X.K G0 H0 G H ρ σ →
      (∀ p, ok p → okE false X.K G H Q p) → GX (XB B X) W G H σ ok (ev (φn B n) B.κ (.chn3 op op' op'' a b c d) ρ) → tChn3 (opCan X (compareOp (copE op))) (opCan X (compareOp (copE op'))) (opCan X (compareOp (copE op''))) (tcE X x) (tcE X y) (tcE X z) (tcE X w) σ H Q := by
    intro sc x y z w h2 h3 h5 h6 X W E G0 H0 G H ρ σ Q ok I hok g
    refine two_ok Sa Sb E h2 h3 I g fun p q G' H' v u ex I' r1 r2 g' => cmp_ok (XI := XB B X) (W := W) (σ := σ) op (units65 E.room) I'.sub r1.x r2.x ?_
    cases ec : cmpP op p q with
    | ok w1 =>
      rw [ec] at g'
      intro G2 H2 w' e2 rw2
      obtain ⟨b1, rfl⟩ := cmp_bl ec
      cases rw2
      refine ⟨b1, rfl, ?_⟩
      cases b1 with
      | false => exact iteF (hok _ g' G2 H2 _ (ex.trans e2) (.bl _))
      | true =>
        refine iteT ?_
        have I2 := I'.grow e2
        have exx := ex.trans e2
        have g3 : GX (XB B X) W G H σ ok ((ev (φn B n) B.κ c ρ).bind fun z => (cmpP op' q z).bind fun r' => (match r' with
          | .bl true => (ev (φn B n) B.κ d ρ).bind fun u => cmpP op'' z u
          | .bl false => .ok (.bl false)
          | _ => .bad)) := g'
        refine Sc.e true sc z h5 X W E G0 H0 G2 H2 ρ σ _ I2 ((GX.move (ok' := fun s => GX (XB B X) W G H σ ok ((cmpP op' q s).bind fun r' => (match r' with
          | .bl true => (ev (φn B n) B.κ d ρ).bind fun u => cmpP op'' s u
          | .bl false => .ok (.bl false)
          | _ => .bad))) g3.bind exx fun s h => h).imp fun s _ g4 G3 H3 u3 e3 r3 => ?_)
        have I3 := I2.grow e3
        have ex3 := exx.trans e3
        refine cmp_ok (XI := XB B X) (W := W) (σ := σ) op' (units65 E.room) I3.sub ((r2.mono e2).mono e3).x r3.x ?_
        cases ec2 : cmpP op' q s with
        | ok w2 =>
          rw [ec2] at g4
          intro G4 H4 w'' e4 rw4
          obtain ⟨b2, rfl⟩ := cmp_bl ec2
          cases rw4
          refine ⟨b2, rfl, ?_⟩
          cases b2 with
          | false => exact iteF (hok _ g4 G4 H4 _ (ex3.trans e4) (.bl _))
          | true =>
            refine iteT ?_
            have I4 := I3.grow e4
            have ex4 := ex3.trans e4
            have g5 : GX (XB B X) W G H σ ok ((ev (φn B n) B.κ d ρ).bind fun u => cmpP op'' s u) := g4
            refine Sdd.e true sc w h6 X W E G0 H0 G4 H4 ρ σ _ I4 ((GX.move (ok' := fun t => GX (XB B X) W G H σ ok (cmpP op'' s t)) g5.bind ex4 fun t h => h).imp fun t _ g6 G5 H5 u5 e5 r5 => ?_)
            exact cmp_ok (XI := XB B X) (W := W) (σ := σ) op'' (units65 E.room) (I4.grow e5).sub ((r3.mono e4).mono e5).x r5.x ((g6.imp fun p _ h => hok p h).ge (ex4.trans e5))
        | exc c o => rw [ec2] at g4; exact fun G4 H4 cls d e4 xx => g4 G4 H4 cls d (ex3.trans e4) xx
        | bad => rw [ec2] at g4; exact g4
    | exc c o => rw [ec] at g'; exact fun G2 H2 cls d e2 xx => g' G2 H2 cls d (ex.trans e2) xx
    | bad => rw [ec] at g'; exact g'
  have se : SE B n N false (.chn3 op op' op'' a b c d) := by
    intro sc e hc X W E G0 H0 G H ρ σ Q I g
    obtain ⟨x, y, z, w, pos, rfl, h2, h3, h5, h6, h4⟩ := key sc e hc
    refine pe_can' (pe_chn3 (opCan_ok X _) (opCan_ok X _) (opCan_ok X _) pe_can pe_can pe_can pe_can (notSet_marks (op := copE op'') h4)) ?_
    exact core sc x y z w h2 h3 h5 h6 X W E G0 H0 G H ρ σ Q _ I (fun _ h => h) g
  have st : ST B n N (.chn3 op op' op'' a b c d) := by
    intro sc e hc X W E G0 H0 G H ρ σ Q I g
    obtain ⟨x, y, z, w, pos, rfl, h2, h3, h5, h6, h4⟩ := key sc e hc
    refine pt_can' (pt_chn3 (opCan_ok X _) (opCan_ok X _) (opCan_ok X _) pe_can pe_can pe_can pe_can (notSet_marks (op := copE op'') h4)) ?_
    refine core sc x y z w h2 h3 h5 h6 X W E G0 H0 G H ρ σ _ _ I (fun p hp G' H' v ex r => ?_) (g.bind.imp (ok' := fun p => ∃ b, p = .bl b ∧ okT G H Q b) fun p ep hp => ?_)
    · obtain ⟨b1, rfl, hb⟩ := hp
      cases r
      exact ⟨b1, rfl, hb G' H' ex⟩
    · obtain ⟨b1, rfl⟩ := chn3_bl ep
      exact ⟨b1, rfl, hp⟩
  exact Sd.mk2 rfl (fun z => nomatch z) (SE.all se fun _ _ _ h => h) st (fun _ _ _ _ _ _ h => nomatch h) (fun _ _ _ _ _ _ h => nomatch h)
end
end Z
end
section
namespace Z
open PySem PySem.Spec PyProof.Rows L2
section
variable {B : Tb} {n : Nat} {N : List Str}
theorem sd_none {c : C} (h : ck B N c = mkE eNo) (hn : c ≠ .nop) : Sd B n N c := Sd.mk1 h hn fun rd sc e hc => by rw [h] at hc; cases hc
/-- argument lists -/
theorem Sd.mkArgs {c : C} {af : Bool → Scope → List Expr → Bool} (hck : ck B N c = mkA af) (h : ∀ rd, SA B n N rd c) : Sd B n N c where
  e := fun rd sc e hc => by rw [hck] at hc; cases hc
  b := fun op sc x r pos hc => by rw [hck] at hc; cases hc
  t := fun sc e hc => by rw [hck] at hc; cases hc
  tb := fun op sc x r pos hc => by rw [hck] at hc; cases hc
  a := h
  o := fun sc o hc => by rw [hck] at hc; cases hc
  i := fun rd sc tg e hc => by rw [hck] at hc; cases hc
theorem Sd.mkIter {c : C} {f : Bool → Bool → Scope → Expr → Bool} (hck : ck B N c = mkI f) (h : ∀ rd, SIt B n N rd c) : Sd B n N c where
  e := fun rd sc e hc => by rw [hck] at hc; cases hc
  b := fun op sc x r pos hc => by rw [hck] at hc; cases hc
  t := fun sc e hc => by rw [hck] at hc; cases hc
  tb := fun op sc x r pos hc => by rw [hck] at hc; cases hc
  a := fun rd sc es hc => by rw [hck] at hc; cases hc
  o := fun sc o hc => by rw [hck] at hc; cases hc
  i := h
theorem sd_nop : Sd B n N .nop where
  e := fun rd sc e hc => by cases hc
  b := fun op sc x r pos hc => by cases hc
  t := fun sc e hc => by cases hc
  tb := fun op sc x r pos hc => by cases hc
  a := fun rd sc es hc => by cases hc
  o := fun sc o hc X W E G0 H0 G H ρ σ Q I g => by
    cases o with
    | none => exact po_can' po_none (g G H (Ext.refl I.sub))
    | some x => cases hc
  i := fun rd sc tg e hc => by cases hc
theorem sd_nil : Sd B n N .nil := by
  refine Sd.mkArgs rfl fun rd sc es hc X W E G0 H0 G H ρ σ Q I g => ?_
  cases es with
  | nil =>
    obtain ⟨ps, e, k⟩ := g
    cases e
    exact pa_can' pa_nil (k G H [] (Ext.refl I.sub) .nil)
  | cons x xs => cases hc
theorem sd_cons {a as : C} (Sa : Sd B n N a) (Ss : Sd B n N as) : Sd B n N (.cons a as) := by
  refine Sd.mkArgs rfl fun rd sc es hc X W E G0 H0 G H ρ σ Q I g => ?_
  cases es with
  | nil => cases hc
  | cons x xs =>
    obtain ⟨h1, h2, h3⟩ := and3 hc
    refine pa_can' (pa_cons pe_can pa_can (star_of h2)) ?_
    have g0 : GX (XB B X) W G H σ (okA rd X.K G H Q) ((ev (φn B n) B.κ a ρ).bind fun x => (ev (φn B n) B.κ as ρ).bind fun l => (lstOf l).bind fun xs => .ok (.lst (x :: xs))) := g
    refine Sa.e rd sc x h1 X W E G0 H0 G H ρ σ _ I (g0.bind.imp fun p _ g1 G1 H1 v e1 r1 => ?_)
    have I1 := I.grow e1
    refine Ss.a rd sc xs h3 X W E G0 H0 G1 H1 ρ σ _ I1 ((GX.move (ok' := fun l => GX (XB B X) W G H σ (okA rd X.K G H Q) ((lstOf l).bind fun xs => .ok (.lst (p :: xs)))) g1.bind e1 fun q h => h).imp fun l _ g2 => ?_)
    cases l with
    | lst ps =>
      obtain ⟨qs, e, k⟩ := g2
      cases e
      exact ⟨ps, rfl, fun G2 H2 vs e2 rs => k G2 H2 (v :: vs) (e1.trans e2) (.cons (r1.mono e2) rs)⟩
    | _ => exact g2.elim
theorem args_ok {es : C} {xs : List Expr} {rd : Bool} {sc : Scope} (Ss : Sd B n N es) (hc : (ck B N es).a rd sc xs = true) {X : Cx} {W : WX} (E : EC B n N sc X W) {G0 H0 G H : Hp} {ρ : List Slot} {σ : L2.St} (I : SI X.K G0 H0 G H ρ σ) {Q : List V → Hp → Prop} {α : Type} {ok : α → Prop} {f : List PV → Res α}
    (g : GX (XB B X) W G H σ ok ((ev (φn B n) B.κ es ρ).bind fun l => (lstOf l).bind fun xs => f xs))
    (k : ∀ ps G' H' vs, Ext G H G' H' → SI X.K G0 H0 G' H' ρ σ → RBs rd X.K G' H' vs ps → GX (XB B X) W G H σ ok (f ps) → Q vs H') : tcA X xs σ H Q := by
  refine Ss.a rd sc xs hc X W E G0 H0 G H ρ σ _ I (g.bind.imp fun l _ g1 => ?_)
  cases l with
  | lst ps => exact ⟨ps, rfl, fun G1 H1 vs e1 rs => k ps G1 H1 vs e1 (I.grow e1) rs g1⟩
  | _ => exact g1.elim
theorem ble1000 {n : Nat} (h : Nat.ble n 1000 = true) : n ≤ sizeLine := Nat.le_trans (Nat.le_of_ble_eq_true h) (by decide)
theorem argsLen {c : C} {rd : Bool} {sc : Scope} : ∀ {es : C} {xs : List Expr}, (ck B N es).a rd sc xs = true → ∀ {φ : Fns} {κ : Cons} {ρ : List Slot} {ps : List PV}, ev φ κ es ρ = Res.ok (PV.lst ps) → ps.length = xs.length := by
  intro es
  induction es with
  | nil =>
    intro xs hc φ κ ρ ps he
    cases xs with
    | nil => cases he; rfl
    | cons x xs => cases hc
  | cons a as _ ih =>
    intro xs hc φ κ ρ ps he
    cases xs with
    | nil => cases hc
    | cons x xs =>
      obtain ⟨h1, h2, h3⟩ := and3 hc
      have he : ((ev φ κ a ρ).bind fun x => (ev φ κ as ρ).bind fun l => (lstOf l).bind fun xs => Res.ok (PV.lst (x :: xs))) = Res.ok (PV.lst ps) := he
      cases ea : ev φ κ a ρ with
      | ok p =>
        rw [ea] at he
        have he : ((ev φ κ as ρ).bind fun l => (lstOf l).bind fun xs => Res.ok (PV.lst (p :: xs))) = Res.ok (PV.lst ps) := he
        cases eb : ev φ κ as ρ with
        | ok l =>
          rw [eb] at he
          cases l with
          | lst qs => cases he; simp [ih h3 eb]
          | _ => cases he
        | exc c o => rw [eb] at he; cases he
        | bad => rw [eb] at he; cases he
      | exc c o => rw [ea] at he; cases he
      | bad => rw [ea] at he; cases he
  | _ => intro xs hc; cases hc
theorem RBs.length {rd : Bool} {K : PySem.W.Frag} {G H : Hp} : ∀ {vs : List V} {ps : List PV}, RBs rd K G H vs ps → vs.length = ps.length
  | _, _, .nil => rfl
  | _, _, .cons _ t => congrArg (· + 1) (RBs.length t)
theorem sd_tup {es : C} (Ss : Sd B n N es) : Sd B n N (.tup es) := by
  refine Sd.mk1 rfl (fun z => nomatch z) (SE.all ?_ fun _ _ _ h => h)
  intro sc e hc X W E G0 H0 G H ρ σ Q I g
  have hc : eTup (ck B N es) false sc e = true := hc
  unfold eTup at hc
  split at hc
  · simp only [Bool.and_eq_true] at hc
    refine pe_can' (pe_tup pa_can) ?_
    have hl := ble1000 hc.2
    have g0 : GX (XB B X) W G H σ (okE false X.K G H Q) ((ev (φn B n) B.κ es ρ).bind fun l => (lstOf l).bind fun xs => .ok (.tup xs)) := g
    refine Ss.a false sc _ hc.1 X W E G0 H0 G H ρ σ _ I (g0.bind.imp fun l el g1 => ?_)
    cases l with
    | lst ps =>
      have en := argsLen (c := es) hc.1 el
      refine ⟨ps, rfl, fun G1 H1 vs e1 rs => ⟨by rw [rs.length, en]; exact hl, fun p hp => ?_⟩⟩
      have I1 := I.grow e1
      exact g1 _ _ _ (e1.trans (Ext.new I1.sub hp)) (repTup rs.r (I1.sub.free hp))
    | _ => exact g1.elim
  · cases hc
theorem sd_dsp {es : C} (Ss : Sd B n N es) : Sd B n N (.dsp es) := by
  refine Sd.mk1 rfl (fun z => nomatch z) (SE.all ?_ fun _ _ _ h => h)
  intro sc e hc X W E G0 H0 G H ρ σ Q I g
  have hc : eDsp (ck B N es) false sc e = true := hc
  unfold eDsp at hc
  split at hc
  · simp only [Bool.and_eq_true] at hc
    refine pe_can' (pe_lst pa_can) ?_
    have hl := ble1000 hc.2
    have g0 : GX (XB B X) W G H σ (okE false X.K G H Q) ((ev (φn B n) B.κ es ρ).bind fun l => (lstOf l).bind fun xs => .ok (.lst xs)) := g
    refine Ss.a false sc _ hc.1 X W E G0 H0 G H ρ σ _ I (g0.bind.imp fun l el g1 => ?_)
    cases l with
    | lst ps =>
      have en := argsLen (c := es) hc.1 el
      refine ⟨ps, rfl, fun G1 H1 vs e1 rs => ⟨by rw [rs.length, en]; exact hl, fun p hp => ?_⟩⟩
      have I1 := I.grow e1
      exact g1 _ _ _ (e1.trans (Ext.new I1.sub hp)) (repLst rs.r (I1.sub.free hp))
    | _ => exact g1.elim
  · cases hc
theorem sd_ix {a i : C} (Sa : Sd B n N a) (Si : Sd B n N i) : Sd B n N (.ix a i) := by
  refine Sd.mk1 rfl (fun z => nomatch z) (SE.all ?_ fun _ _ _ h => h)
  intro sc e hc X W E G0 H0 G H ρ σ Q I g
  have hc : eIx (ck B N a) (ck B N i) false sc e = true := hc
  unfold eIx at hc
  split at hc
  · obtain ⟨h1, h2, h3⟩ := and3 hc
    refine pe_can' (pe_ix (ixCan_ok X) pe_can pe_can (notSlice_ok h3)) ?_
    exact two_ok Sa Si E h1 h2 I g fun p q G' H' v u ex I' r1 r2 g' => ix_ok (units65 E.room) I'.sub r1.x r2.x (g'.ge ex)
  · cases hc
theorem sd_sl {a lo hi : C} (Sa : Sd B n N a) (Sl : Sd B n N lo) (Sh : Sd B n N hi) : Sd B n N (.sl a lo hi) := by
  refine Sd.mk1 rfl (fun z => nomatch z) (SE.all ?_ fun _ _ _ h => h)
  intro sc e hc X W E G0 H0 G H ρ σ Q I g
  have hc : eSl (ck B N a) (ck B N lo) (ck B N hi) false sc e = true := hc
  unfold eSl at hc
  split at hc
  · obtain ⟨h1, h2, h3⟩ := and3 hc
    refine pe_can' (pe_slice (slCan_ok X) pe_can po_can po_can) ?_
    have g0 : GX (XB B X) W G H σ (okE false X.K G H Q) ((ev (φn B n) B.κ a ρ).bind fun x => (partC lo (ev (φn B n) B.κ lo ρ)).bind fun l => (partC hi (ev (φn B n) B.κ hi ρ)).bind fun h => slV x l h) := g
    refine Sa.e true sc _ h1 X W E G0 H0 G H ρ σ _ I (g0.bind.imp fun p _ g1 G1 H1 v e1 r1 => ?_)
    have I1 := I.grow e1
    refine Sl.o sc _ h2 X W E G0 H0 G1 H1 ρ σ _ I1 ((GX.move (ok' := fun l => GX (XB B X) W G H σ (okE false X.K G H Q) ((partC hi (ev (φn B n) B.κ hi ρ)).bind fun h => slV p l h)) g1.bind e1 fun q h => h).imp fun l _ g2 G2 H2 e2 => ?_)
    have I2 := I1.grow e2
    refine Sh.o sc _ h3 X W E G0 H0 G2 H2 ρ σ _ I2 ((GX.move (ok' := fun h => GX (XB B X) W G H σ (okE false X.K G H Q) (slV p l h)) g2.bind (e1.trans e2) fun q h => h).imp fun h _ g3 G3 H3 e3 => ?_)
    exact sl_ok (I2.grow e3).sub ((r1.mono e2).mono e3).x l h (g3.ge ((e1.trans e2).trans e3))
  · cases hc
theorem allStar {es : C} {xs : List Expr} {rd : Bool} {sc : Scope} (h : (ck B N es).a rd sc xs = true) : xs.all notStar = true := by
  induction es generalizing xs with
  | nil => cases xs with
    | nil => rfl
    | cons x xs => cases h
  | cons a as _ ih => cases xs with
    | nil => cases h
    | cons x xs =>
      obtain ⟨h1, h2, h3⟩ := and3 h
      rw [List.all_cons, h2, ih h3]; rfl
  | _ => cases h
theorem gf_of {X : Cx} {W : WX} {G H G1 H1 : Hp} {σ : L2.St} {Q : VK} {rv : RV} (e1 : Ext G H G1 H1) (g : GX (XB B X) W G H σ (okE false X.K G H Q) (rvR rv)) : GF X.K (XB B X) G1 H1 (.ok rv) Q (WE W σ) := by
  cases rv with
  | shr p => exact fun G' H' v ex rr => g G' H' v (e1.trans ex) rr
  | own xs =>
    intro G' H' a vs ex h0 ga ha rr
    exact g (upd G' a (.lst vs)) H' (.ref a) (e1.trans (ex.frz ha ga h0)) (repLst rr ga)
  | obj ns fs => exact g.elim
theorem callN_len {f : Nat} {ps : List PV} {d : FnD} (hd : B.TT f = some d) (h : callN B.TT B.κ B.cx B.wf n f ps ≠ .bad) : ps.length = d.np := by
  cases n with
  | zero => exact absurd rfl h
  | succ m =>
    unfold callN at h
    rw [hd] at h
    cases e : Nat.beq ps.length d.np with
    | true => exact Nat.eq_of_beq_eq_true e
    | false =>
      simp only [e] at h
      exact absurd rfl h
theorem call_tc (f : Nat) {es : C} (Ss : Sd B n N es) {sc : Scope} {x : Str} {p : Pos} {xs : List Expr} {pos : Pos} (hk : (nmB (B.fnm f) x && glB sc x && (ck B N es).a false sc xs && (B.TT f).isSome) = true) {X : Cx} {W : WX} (E : EC B n N sc X W) {G0 H0 G H : Hp} {ρ : List Slot} {σ : L2.St} {Q : VK} (I : SI X.K G0 H0 G H ρ σ)
    {okr : RV → Prop} (g0 : GX (XB B X) W G H σ okr ((ev (φn B n) B.κ es ρ).bind fun l => (lstOf l).bind fun xs => φn B n f xs)) (hok : ∀ G1 H1 rv, Ext G H G1 H1 → okr rv → GF X.K (XB B X) G1 H1 (.ok rv) Q (WE W σ)) : tcE X (.Call (.Name x p) xs [] pos) σ H Q := by
  simp only [Bool.and_eq_true] at hk
  obtain ⟨⟨⟨h1, h2⟩, h3⟩, h4⟩ := hk
  obtain ⟨g1, g2, g3⟩ := glB_ok h2
  obtain ⟨d, hT⟩ := Option.isSome_iff_exists.mp h4
  obtain ⟨fa, fd, ps, m1, m2, m3, m4, F⟩ := E.wo.fns f x d (nmB_ok h1) hT
  have key : ∀ qs G' H' vs, Ext G H G' H' → SI X.K G0 H0 G' H' ρ σ → RBs false X.K G' H' vs qs → GX (XB B X) W G H σ okr (φn B n f qs) → spF B X.K (XB B X) n f d.np vs H' Q (WE W σ) := fun qs G' H' vs ex I' rs g' => by
    refine ⟨G', qs, I'.sub, rs.r, ?_, ?_⟩
    · refine callN_len (n := n) hT fun hb => ?_
      have hb : φn B n f qs = .bad := hb
      rw [hb] at g'
      exact g'
    · have g' : GX (XB B X) W G H σ okr (callN B.TT B.κ B.cx B.wf n f qs) := g'
      cases er : callN B.TT B.κ B.cx B.wf n f qs with
      | ok r => rw [er] at g'; exact hok _ _ r ex g'
      | exc c o => rw [er] at g'; exact fun G2 H2 cls d e2 xx => g' G2 H2 cls d (ex.trans e2) xx
      | bad => rw [er] at g'; exact g'
  cases xs with
  | nil =>
    intro pins s J
    refine wpAny_Call_Name_kw (ld_glob J (E.gl g1) m1 ?_ g2)
    have hv : spF B X.K (XB B X) n f d.np [] H Q (WE W σ) := by
      cases es with
      | nil => exact key [] G H [] (Ext.refl I.sub) I .nil g0
      | cons a as => cases h3
      | _ => cases h3
    exact PySem.W.callWith_K0 J.kIn m2 (run_fnS (us := []) F E.room m3 (passAt E.takes σ) J .nil hv)
  | cons y ys =>
    have hs : (y :: ys).all notStar = true := allStar h3
    simp only [List.all_cons, Bool.and_eq_true] at hs
    refine pe_can' (pe_callS F E.room (E.gl g1) m1 m2 m3 (fun σ => passAt E.takes σ) pa_can g2 (star_of hs.1) (nostars hs.2)) ?_
    exact args_ok Ss h3 E I g0 key
theorem call_g {φ : Fns} {X : Cx} {W : WX} {G H : Hp} {σ : L2.St} {ok : PV → Prop} {r : Res PV} {f : Nat} {k : RV → Res PV} (g : GX (XB B X) W G H σ ok (r.bind fun l => (lstOf l).bind fun xs => (φ f xs).bind k)) : GX (XB B X) W G H σ (fun rv => GX (XB B X) W G H σ ok (k rv)) (r.bind fun l => (lstOf l).bind fun xs => φ f xs) := by
  cases r with
  | ok l =>
    cases l with
    | lst xs =>
      have g : GX (XB B X) W G H σ ok ((φ f xs).bind k) := g
      exact g.bind
    | _ => exact g.elim
  | exc c p => exact g
  | bad => exact g
theorem sd_call (f : Nat) {es : C} (Ss : Sd B n N es) : Sd B n N (.call f es) := by
  refine Sd.mk1 rfl (fun z => nomatch z) (SE.all ?_ fun _ _ _ h => h)
  intro sc e hc X W E G0 H0 G H ρ σ Q I g
  obtain ⟨x, p, xs, pos, rfl, hk⟩ : ∃ x p xs pos, e = .Call (.Name x p) xs [] pos ∧ (nmB (B.fnm f) x && glB sc x && (ck B N es).a false sc xs && (B.TT f).isSome) = true := by
    have hc : eCall B f (ck B N es) false sc e = true := hc
    unfold eCall at hc
    split at hc
    · exact ⟨_, _, _, _, rfl, hc⟩
    · cases hc
  have g0 : GX (XB B X) W G H σ (okE false X.K G H Q) ((ev (φn B n) B.κ es ρ).bind fun l => (lstOf l).bind fun xs => (φn B n f xs).bind rvR) := g
  exact call_tc f Ss hk E I (call_g g0) fun G1 H1 rv ex h => gf_of ex h
theorem fld_look {K : PySem.W.Frag} {G : Hp} {f : Str} : ∀ {ns : List Str} {us : List V} {fs : List PV} {p : PV}, ns.length = us.length → Reps K G us fs → fldL f ns fs = .ok p → f ∈ ns ∧ ∃ v, (ns.zip us).lookup f = some v ∧ Rep K G v p
  | [], us, fs, p, _, r, h => by cases fs <;> cases h
  | n :: ns, [], fs, p, hl, r, h => by cases hl
  | n :: ns, u :: us, fs, p, hl, r, h => by
    cases r with
    | cons r t =>
      rename_i q qs
      have h : (if n = f then Res.ok q else fldL f ns qs) = .ok p := h
      rw [List.zip_cons_cons, List.lookup_cons]
      by_cases e : n = f
      · subst e
        rw [if_pos rfl] at h
        cases h
        rw [beq_self_eq_true]
        exact ⟨List.mem_cons_self .., u, rfl, r⟩
      · rw [if_neg e] at h
        obtain ⟨h1, v, h2, h3⟩ := fld_look (by simpa using hl) t h
        have e' : (f == n) = false := by
          cases q : f == n with
          | false => rfl
          | true => exact absurd (eq_of_beq q).symm e
        rw [e']
        exact ⟨List.mem_cons_of_mem _ h1, v, h2, h3⟩
theorem fldL_exc {f : Str} : ∀ {ns : List Str} {fs : List PV} {c : Nat} {o : Option PV}, fldL f ns fs ≠ .exc c o
  | [], fs, c, o => fun h => by cases fs <;> cases h
  | n :: ns, [], c, o => fun h => by cases h
  | n :: ns, q :: qs, c, o => fun h => by
    have h : (if n = f then Res.ok q else fldL f ns qs) = .exc c o := h
    split at h
    · cases h
    · exact fldL_exc h
theorem fs_look {K : PySem.W.Frag} {G H0 H : Hp} {f : Str} (sh : Same H0 H) : ∀ {ns : List Str} {us : List V} {fs : List PV} {p : PV}, ns.length = us.length → RepFs K G H0 us fs → fldL f ns fs = .ok p → f ∈ ns ∧ ∃ v, (ns.zip us).lookup f = some v ∧ RepX K G H v p
  | [], us, fs, p, _, r, h => by cases fs <;> cases h
  | n :: ns, [], fs, p, hl, r, h => by cases hl
  | n :: ns, u :: us, fs, p, hl, r, h => by
    have key : ∀ {q : PV} {qs : List PV}, RepX K G H u q → RepFs K G H0 us qs → fldL f (n :: ns) (q :: qs) = .ok p → f ∈ n :: ns ∧ ∃ v, ((n :: ns).zip (u :: us)).lookup f = some v ∧ RepX K G H v p := fun {q qs} rx t h => by
      have h : (if n = f then Res.ok q else fldL f ns qs) = .ok p := h
      rw [List.zip_cons_cons, List.lookup_cons]
      by_cases e : n = f
      · subst e
        rw [if_pos rfl] at h
        cases h
        rw [beq_self_eq_true]
        exact ⟨List.mem_cons_self .., u, rfl, rx⟩
      · rw [if_neg e] at h
        obtain ⟨h1, v, h2, h3⟩ := fs_look sh (by simpa using hl) t h
        have e' : (f == n) = false := by
          cases q : f == n with
          | false => rfl
          | true => exact absurd (eq_of_beq q).symm e
        rw [e']
        exact ⟨List.mem_cons_of_mem _ h1, v, h2, h3⟩
    cases r with
    | val r t => exact key (.inl r) t h
    | lst hb r t => exact key (.inr (.inl ⟨_, _, _, rfl, rfl, sh _ _ hb, r⟩)) t h
theorem sd_sf (i : Nat) (f : Str) : Sd B n N (.sf i f) := by
  refine Sd.mk1 rfl (fun z => nomatch z) fun rd => ?_
  intro sc e hc X W E G0 H0 G H ρ σ Q I g
  obtain ⟨x, p, pos, rfl, rfl, hk⟩ : ∃ x p pos, e = .Attribute (.Name x p) f pos ∧ rd = true ∧ ckVar N sc i x = true := by
    have hc : eSf N i f rd sc e = true := hc
    unfold eSf at hc
    split at hc
    · simp only [Bool.and_eq_true] at hc
      have e0 := sEq_ok hc.2
      subst e0
      exact ⟨_, _, _, rfl, hc.1.1, hc.1.2⟩
    · cases hc
  have g0 : GX (XB B X) W G H σ (okE true X.K G H Q) (match ρ[i]? with | some (.self _ ns fs) => fldL f ns fs | _ => .bad) := g
  refine pe_can' (pe_fld pe_can rfl) ?_
  cases hp : ρ[i]? with
  | none => rw [hp] at g0; exact g0.elim
  | some s =>
    rw [hp] at g0
    cases s with
    | self a ns fs =>
      have g0 : GX (XB B X) W G H σ (okE true X.K G H Q) (fldL f ns fs) := g0
      obtain ⟨o, ho, e1, C, dx, us, h1, h2, h3, h4, h5⟩ := I.at_ i _ hp
      subst e1
      cases ef : fldL f ns fs with
      | bad => rw [ef] at g0; exact g0.elim
      | exc c o => exact absurd ef fldL_exc
      | ok p =>
        rw [ef] at g0
        obtain ⟨q1, v, q2, q3⟩ := fs_look I.ext.hs h2 h5 ef
        exact name_ok E hk ho ⟨a, C, dx, _, v, rfl, I.ext.hs _ _ h1, h3, h4 f q1, q2, g0 G H v (Ext.refl I.sub) q3⟩
    | _ => exact g0.elim
theorem sd_cfl (g : Nat) (f : Str) {es : C} (Ss : Sd B n N es) : Sd B n N (.cfl g f es) := by
  refine Sd.mk1 rfl (fun z => nomatch z) (SE.all ?_ fun _ _ _ h => h)
  intro sc e hc X W E G0 H0 G H ρ σ Q I g1
  obtain ⟨x, p, y, ys, pos, ap, rfl, hk⟩ : ∃ x p y ys pos ap, e = .Attribute (.Call (.Name x p) (y :: ys) [] pos) f ap ∧ (nmB (B.fnm g) x && glB sc x && (ck B N es).a false sc (y :: ys) && (B.TT g).isSome) = true := by
    have hc : eCfl B g f (ck B N es) false sc e = true := hc
    unfold eCfl at hc
    split at hc
    · rw [Bool.and_eq_true] at hc
      have e0 := sEq_ok hc.2
      subst e0
      exact ⟨_, _, _, _, _, _, rfl, hc.1⟩
    · cases hc
  have g0 : GX (XB B X) W G H σ (okE false X.K G H Q) ((ev (φn B n) B.κ es ρ).bind fun l => (lstOf l).bind fun xs => (φn B n g xs).bind fun r => rvF f r) := g1
  refine pe_can' (pe_fld pe_can rfl) ?_
  refine call_tc g Ss hk E I (call_g g0) fun G1 H1 rv ex h => ?_
  cases rv with
  | shr p => exact h.elim
  | own xs => exact h.elim
  | obj ns fs =>
    intro G2 H2 a C dx us e2 ha hl hC hN r
    have h : GX (XB B X) W G H σ (okE false X.K G H Q) (fldL f ns fs) := h
    cases ef : fldL f ns fs with
    | ok p =>
      rw [ef] at h
      obtain ⟨q1, v, q2, q3⟩ := fld_look hl r ef
      exact ⟨a, C, dx, _, v, rfl, ha, hC, hN f q1, q2, h G2 H2 v (ex.trans e2) q3⟩
    | exc c o => exact absurd ef fldL_exc
    | bad => rw [ef] at h; exact h.elim
theorem biN_mem (b : Bi) : biN b ∈ bltN := by cases b <;> decide +kernel
theorem sd_bi (b : Bi) {es : C} (Ss : Sd B n N es) : Sd B n N (.bi b es) := by
  refine Sd.mk1 rfl (fun z => nomatch z) (SE.all ?_ fun _ _ _ h => h)
  intro sc e hc X W E G0 H0 G H ρ σ Q I g
  obtain ⟨x, p, y, xs, pos, rfl, hk⟩ : ∃ x p y xs pos, e = .Call (.Name x p) (y :: xs) [] pos ∧ (sEq (biN b) x && glB sc x && (ck B N es).a true sc (y :: xs) && (y :: xs).all notStar) = true := by
    have hc : eBi b (ck B N es) false sc e = true := hc
    unfold eBi at hc
    split at hc
    · exact ⟨_, _, _, _, _, rfl, hc⟩
    · cases hc
  simp only [Bool.and_eq_true, List.all_cons] at hk
  obtain ⟨⟨⟨h1, h2⟩, h3⟩, h4, h5⟩ := hk
  obtain ⟨g1, g2, g3⟩ := glB_ok h2
  have h1' := sEq_ok h1
  subst h1'
  have g0 : GX (XB B X) W G H σ (okE false X.K G H Q) ((ev (φn B n) B.κ es ρ).bind fun l => (lstOf l).bind fun xs => biP b xs) := g
  have hm := E.blt (biN_mem b)
  have hA : tcA X (y :: xs) σ H fun vs H1 => callCan X (biV b) vs H1 Q := args_ok Ss h3 E I g0 fun ps G' H' vs ex I' rs g' => bi_ok b E.calm (units65 E.room) I'.sub rs.x (g'.ge ex)
  cases b with
  | len => exact pe_can' (pe_callB (callCan_ok X _) (E.gl g1) hm boot_len pa_can g3 g2 (star_of h4) (nostars h5)) hA
  | abs => exact pe_can' (pe_callB (callCan_ok X _) (E.gl g1) hm boot_abs pa_can g3 g2 (star_of h4) (nostars h5)) hA
  | min2 => exact pe_can' (pe_callB (callCan_ok X _) (E.gl g1) hm boot_min pa_can g3 g2 (star_of h4) (nostars h5)) hA
  | max2 => exact pe_can' (pe_callB (callCan_ok X _) (E.gl g1) hm boot_max pa_can g3 g2 (star_of h4) (nostars h5)) hA
  | min1 => exact pe_can' (pe_callB (callCan_ok X _) (E.gl g1) hm boot_min pa_can g3 g2 (star_of h4) (nostars h5)) hA
  | max1 => exact pe_can' (pe_callB (callCan_ok X _) (E.gl g1) hm boot_max pa_can g3 g2 (star_of h4) (nostars h5)) hA
  | sum => exact pe_can' (pe_callB (callCan_ok X _) (E.gl g1) hm boot_sum pa_can g3 g2 (star_of h4) (nostars h5)) hA
  | int => exact pe_can' (pe_callTy (callCan_ok X _) (E.gl g1) hm boot_int pa_can g3 g2 (star_of h4) (nostars h5)) hA
  | tuple => exact pe_can' (pe_callTy (callCan_ok X _) (E.gl g1) hm boot_tuple pa_can g3 g2 (star_of h4) (nostars h5)) hA
  | list => exact pe_can' (pe_callTy (callCan_ok X _) (E.gl g1) hm boot_list pa_can g3 g2 (star_of h4) (nostars h5)) hA
  | sorted => exact pe_can' (pe_callB (callCan_ok X _) (E.gl g1) hm boot_sorted pa_can g3 g2 (star_of h4) (nostars h5)) hA
  | ptuple => exact pe_can' (pe_callTy (callCan_ok X _) (E.gl g1) hm boot_tuple pa_can g3 g2 (star_of h4) (nostars h5)) hA
  | dict => exact pe_can' (pe_callTy (callCan_ok X _) (E.gl g1) hm (by decide +kernel) pa_can g3 g2 (star_of h4) (nostars h5)) hA
theorem tyS_boot (t : Ty) : bootBuiltins (tyS t) = some (.type (tyN t)) := by cases t <;> decide +kernel
theorem tyS_mem (t : Ty) : tyS t ∈ bltN := by cases t <;> decide +kernel
theorem sd_isi (t : Ty) {a : C} (Sa : Sd B n N a) : Sd B n N (.isi t a) := by
  refine Sd.mk1 rfl (fun z => nomatch z) (SE.all ?_ fun _ _ _ h => h)
  intro sc e hc X W E G0 H0 G H ρ σ Q I g
  obtain ⟨x, p, y, z, p2, pos, rfl, hk⟩ : ∃ x p y z p2 pos, e = .Call (.Name x p) [y, .Name z p2] [] pos ∧ (sEq "isinstance" x && glB sc x && (ck B N a).e true sc y && notStar y && sEq (tyS t) z && glB sc z) = true := by
    have hc : eIsi t (ck B N a) false sc e = true := hc
    unfold eIsi at hc
    split at hc
    · exact ⟨_, _, _, _, _, _, rfl, hc⟩
    · cases hc
  simp only [Bool.and_eq_true] at hk
  obtain ⟨⟨⟨⟨⟨h1, h2⟩, h3⟩, h4⟩, h5⟩, h6⟩ := hk
  obtain ⟨g1, g2, g3⟩ := glB_ok h2
  obtain ⟨k1, k2, k3⟩ := glB_ok h6
  have h1' := sEq_ok h1
  subst h1'
  have h5' := sEq_ok h5
  subst h5'
  have hm : X.mg "isinstance" = none := E.blt (by decide +kernel)
  have hn := E.blt (tyS_mem t)
  refine pe_can' (pe_callB (callCan_ok X _) (E.gl g1) hm boot_isinstance (pa_cons pe_can (pa_cons (pe_bltn (v := .ty (tyN t)) (E.gl k1) hn (tyS_boot t) rfl k3 k2) pa_nil) (star_of h4)) g3 g2 (star_of h4) rfl) ?_
  exact Sa.e true sc y h3 X W E G0 H0 G H ρ σ _ I ((GX.bind g).imp fun p _ g1 G1 H1 v e1 r1 => isi_ok (XI := XB B X) (W := W) (σ := σ) t (I.grow e1).sub r1 (GX.ge g1 e1))
end
end Z
end
section
namespace Z
open PySem PySem.Spec PyProof.Rows L2
section
variable {B : Tb} {n : Nat} {N : List Str}
/-! ### what a loop goes through -/
theorem cndL {rd : Bool} {K : PySem.W.Frag} {G1 H1 : Hp} {v : V} {xs : List PV} (s1 : Same G1 H1) (r : RB rd K G1 H1 v (.lst xs)) : ∃ a vs, v = .ref a ∧ H1 a = some (.lst vs) ∧ vs.length = xs.length ∧ ∀ G H, cnd rd G1 H1 G H → Same G H → SqL K H a vs ∧ Reps K G vs xs := by
  cases rd with
  | true =>
    obtain ⟨a, vs, rfl, h, rr⟩ := RepX.lst r s1
    exact ⟨a, vs, rfl, h, rr.length, fun G H c s => ⟨.inl (.inl (c.hs _ _ h)), rr.mono c.gs⟩⟩
  | false =>
    cases r with
    | lst h rr => exact ⟨_, _, rfl, s1 _ _ h, rr.length, fun G H c s => ⟨.inl (.inl (s _ _ (c _ _ h))), rr.mono c⟩⟩
theorem cndT {rd : Bool} {K : PySem.W.Frag} {G1 H1 : Hp} {v : V} {xs : List PV} (s1 : Same G1 H1) (r : RB rd K G1 H1 v (.tup xs)) : ∃ a vs, v = .ref a ∧ SqT K H1 a vs ∧ vs.length = xs.length ∧ ∀ G H, cnd rd G1 H1 G H → Same G H → SqT K H a vs ∧ Reps K G vs xs := by
  obtain ⟨a, vs, rfl, sg, sh, rr⟩ := r.x.tup s1
  refine ⟨a, vs, rfl, sh, rr.length, fun G H c s => ?_⟩
  have cg : Same G1 G := by
    cases rd with
    | true => exact c.gs
    | false => exact c
  exact ⟨Same.tup s (Same.tup cg sg), rr.mono cg⟩
theorem sd_seq {a : C} (Sa : Sd B n N a) : Sd B n N (.seq a) := by
  refine Sd.mkIter rfl fun rd sc tg e hc X W E G0 H0 G H ρ σ R I g => ?_
  have hc : ((ck B N a).e rd sc e && notSet e) = true := hc
  simp only [Bool.and_eq_true] at hc
  have g0 : GX (XB B X) W G H σ (okI rd X.K G H R) ((ev (φn B n) B.κ a ρ).bind itemsP) := g
  cases ea : ev (φn B n) B.κ a ρ with
  | bad => rw [ea] at g0; exact g0.elim
  | exc c o =>
    rw [ea] at g0
    refine pi_can' (pi_list pe_can) ?_
    refine Sa.e rd sc e hc.1 X W E G0 H0 G H ρ σ _ I ?_
    rw [ea]
    exact g0
  | ok p =>
    rw [ea] at g0
    cases p with
    | lst xs =>
      obtain ⟨ys, ey, k⟩ := g0
      cases ey
      refine tcI_imp (R := fun J H' => ∃ a vs G', J = Itl X.K a ∧ Ext G H G' H' ∧ H' a = some (.lst vs) ∧ vs.length = xs.length ∧ ∀ G2 H2, cnd rd G' H' G2 H2 → Same G2 H2 → SqL X.K H2 a vs ∧ Reps X.K G2 vs xs) (pi_can' (pi_list pe_can) ?_) fun J H' pins s J' hR => ?_
      · refine Sa.e rd sc e hc.1 X W E G0 H0 G H ρ σ _ I ?_
        rw [ea]
        intro G1 H1 v e1 r1
        obtain ⟨b, vs, rfl, hb, hl, hw⟩ := cndL (I.grow e1).sub r1
        exact ⟨b, rfl, ⟨vs, .inl (.inl hb)⟩, b, vs, G1, rfl, e1, hb, hl, hw⟩
      · obtain ⟨b, vs, G1, rfl, e1, hb, hl, hw⟩ := hR
        obtain ⟨hz, _⟩ := J'.lstM hb
        exact k G1 H' _ e1 (itl_ok hw) (by rw [← hl]; exact hz)
    | tup xs =>
      obtain ⟨ys, ey, k⟩ := g0
      cases ey
      refine tcI_imp (R := fun J H' => ∃ a vs G', J = Itt X.K a ∧ Ext G H G' H' ∧ SqT X.K H' a vs ∧ vs.length = xs.length ∧ ∀ G2 H2, cnd rd G' H' G2 H2 → Same G2 H2 → SqT X.K H2 a vs ∧ Reps X.K G2 vs xs) (pi_can' (pi_tup pe_can) ?_) fun J H' pins s J' hR => ?_
      · refine Sa.e rd sc e hc.1 X W E G0 H0 G H ρ σ _ I ?_
        rw [ea]
        intro G1 H1 v e1 r1
        obtain ⟨b, vs, rfl, hb, hl, hw⟩ := cndT (I.grow e1).sub r1
        exact ⟨b, rfl, ⟨vs, hb⟩, b, vs, G1, rfl, e1, hb, hl, hw⟩
      · obtain ⟨b, vs, G1, rfl, e1, hb, hl, hw⟩ := hR
        obtain ⟨_, _, _, hz⟩ := J'.tuple hb
        exact k G1 H' _ e1 (itt_ok hw) (by rw [← hl]; exact hz)
    | str x =>
      obtain ⟨ys, ey, k⟩ := g0
      cases ey
      refine pi_can' (pi_str pe_can) ?_
      refine Sa.e rd sc e hc.1 X W E G0 H0 G H ρ σ _ I ?_
      rw [ea]
      intro G1 H1 v e1 r1
      obtain ⟨rfl, h1, h2⟩ := r1.x.str
      exact ⟨_, rfl, k G1 H1 _ e1 (its_ok h1) (by rw [List.length_map]; exact h2)⟩
    | _ => exact g0.elim
theorem smallI_ok {i : Int} (h : smallI i = true) : -(2 ^ 62) ≤ i ∧ i < 2 ^ 62 := by
  unfold smallI at h
  simp only [Bool.and_eq_true, decide_eq_true_eq] at h
  exact h
theorem rng_mem : ("range" : Str) ∈ bltN := by decide +kernel
theorem sd_rng1 {a : C} (Sa : Sd B n N a) : Sd B n N (.rng1 a) := by
  refine Sd.mkIter rfl fun rd sc tg e hc X W E G0 H0 G H ρ σ R I g => ?_
  obtain ⟨f, p, x, pos, rfl, hk⟩ : ∃ f p x pos, e = .Call (.Name f p) [x] [] pos ∧ (sEq "range" f && glB sc f && (ck B N a).e false sc x && notStar x) = true := by
    have hc : iRng1' (ck B N a) rd (isTupE tg) sc e = true := hc
    unfold iRng1' at hc
    split at hc
    · exact ⟨_, _, _, _, rfl, hc⟩
    · cases hc
  simp only [Bool.and_eq_true] at hk
  obtain ⟨⟨⟨h1, h2⟩, h3⟩, h4⟩ := hk
  have h1' := sEq_ok h1
  subst h1'
  obtain ⟨g1, g2, g3⟩ := glB_ok h2
  refine pi_can' (pi_range1 (E.gl g1) (E.blt rng_mem) (pa_cons pe_can pa_nil (star_of h4)) (star_of h4)) ?_
  have g0 : GX (XB B X) W G H σ (okI rd X.K G H R) ((ev (φn B n) B.κ a ρ).bind fun x => rngP (.int 0) x) := g
  refine Sa.e false sc x h3 X W E G0 H0 G H ρ σ _ I (g0.bind.imp fun p _ k G1 H1 v e1 r1 => ?_)
  cases p with
  | int b1 =>
    have k : GX (XB B X) W G H σ (okI rd X.K G H R) (if smallI 0 && smallI b1 && fits (b1 - 0).toNat then .ok (.lst (upL 0 (b1 - 0).toNat)) else .bad) := k
    split at k
    · rename_i hs
      simp only [Bool.and_eq_true] at hs
      obtain ⟨ys, ey, k⟩ := k
      cases ey
      cases r1
      have q := smallI_ok hs.1.2
      refine ⟨b1, rfl, q.1, q.2, ?_⟩
      have e0 : (b1 - 0).toNat = b1.toNat := by rw [Int.sub_zero]
      rw [e0] at k
      refine k G1 H1 _ e1 (itr_ok 0 _) ?_
      rw [upL_len, ← e0]; exact fits_le hs.2
    · exact k.elim
  | _ => exact k.elim
theorem sd_rng2 {a b : C} (Sa : Sd B n N a) (Sb : Sd B n N b) : Sd B n N (.rng2 a b) := by
  refine Sd.mkIter rfl fun rd sc tg e hc X W E G0 H0 G H ρ σ R I g => ?_
  obtain ⟨f, p, x, y, pos, rfl, hk⟩ : ∃ f p x y pos, e = .Call (.Name f p) [x, y] [] pos ∧ (sEq "range" f && glB sc f && (ck B N a).e false sc x && notStar x && (ck B N b).e false sc y && notStar y) = true := by
    have hc : iRng2' (ck B N a) (ck B N b) rd (isTupE tg) sc e = true := hc
    unfold iRng2' at hc
    split at hc
    · exact ⟨_, _, _, _, _, rfl, hc⟩
    · cases hc
  simp only [Bool.and_eq_true] at hk
  obtain ⟨⟨⟨⟨⟨h1, h2⟩, h3⟩, h4⟩, h5⟩, h6⟩ := hk
  have h1' := sEq_ok h1
  subst h1'
  obtain ⟨g1, g2, g3⟩ := glB_ok h2
  refine pi_can' (pi_range2 (E.gl g1) (E.blt rng_mem) (pa_cons pe_can (pa_cons pe_can pa_nil (star_of h6)) (star_of h4)) (by rw [star_of h4, star_of h6]; rfl) (star_of h6)) ?_
  have g0 : GX (XB B X) W G H σ (okI rd X.K G H R) ((ev (φn B n) B.κ a ρ).bind fun x => (ev (φn B n) B.κ b ρ).bind fun y => rngP x y) := g
  refine two_ok Sa Sb E h3 h5 I g0 fun p q G' H' v u ex I' r1 r2 k => ?_
  unfold rngP at k
  split at k
  · rename_i a1 b1
    split at k
    · rename_i hs
      simp only [Bool.and_eq_true] at hs
      obtain ⟨ys, ey, k⟩ := k
      cases ey
      cases r1
      cases r2
      have q1 := smallI_ok hs.1.1
      have q2 := smallI_ok hs.1.2
      refine ⟨_, _, rfl, ⟨q1.1, q1.2, q2.1, q2.2⟩, ?_⟩
      refine k G' H' _ ex (itr_ok _ _) ?_
      rw [upL_len]; exact fits_le hs.2
    · exact k.elim
  · exact k.elim
theorem sd_rng3 {a b c : C} (Sa : Sd B n N a) (Sb : Sd B n N b) (Sc : Sd B n N c) : Sd B n N (.rng3 a b c) := by
  refine Sd.mkIter rfl fun rd sc tg e hc X W E G0 H0 G H ρ σ R I g => ?_
  obtain ⟨f, p, x, y, z, pos, rfl, hk⟩ : ∃ f p x y z pos, e = .Call (.Name f p) [x, y, z] [] pos ∧ (sEq "range" f && glB sc f && (ck B N a).e false sc x && notStar x && (ck B N b).e false sc y && notStar y && (ck B N c).e false sc z && notStar z) = true := by
    have hc : iRng3' (ck B N a) (ck B N b) (ck B N c) rd (isTupE tg) sc e = true := hc
    unfold iRng3' at hc
    split at hc
    · exact ⟨_, _, _, _, _, _, rfl, hc⟩
    · cases hc
  simp only [Bool.and_eq_true] at hk
  obtain ⟨⟨⟨⟨⟨⟨⟨h1, h2⟩, h3⟩, h4⟩, h5⟩, h6⟩, h7⟩, h8⟩ := hk
  have h1' := sEq_ok h1
  subst h1'
  obtain ⟨g1, g2, g3⟩ := glB_ok h2
  refine pi_can' (pi_range3 (E.gl g1) (E.blt rng_mem) (pa_cons pe_can (pa_cons pe_can (pa_cons pe_can pa_nil (star_of h8)) (star_of h6)) (star_of h4)) (star_of h4) (nostars (by simp [h6, h8]))) ?_
  have g0 : GX (XB B X) W G H σ (okI rd X.K G H R) ((ev (φn B n) B.κ a ρ).bind fun x => (ev (φn B n) B.κ b ρ).bind fun y => (ev (φn B n) B.κ c ρ).bind fun z => rng3P x y z) := g
  refine two_ok Sa Sb E h3 h5 I g0 fun p q G' H' v u ex I' r1 r2 k => ?_
  refine Sc.e false sc z h7 X W E G0 H0 G' H' ρ σ _ I' ((GX.move (ok' := fun s => GX (XB B X) W G H σ (okI rd X.K G H R) (rng3P p q s)) k.bind ex fun s h => h).imp fun s _ k G2 H2 w e2 r3 => ?_)
  unfold rng3P at k
  split at k
  · rename_i a1 b1
    split at k
    · rename_i hs
      simp only [Bool.and_eq_true] at hs
      obtain ⟨ys, ey, k⟩ := k
      cases ey
      cases r1
      cases r2
      cases r3
      have q1 := smallI_ok hs.1.1
      have q2 := smallI_ok hs.1.2
      refine ⟨_, _, _, _, rfl, RgC.neg q1.1 q1.2 q2.1 q2.2, ?_⟩
      refine k G2 H2 _ (ex.trans e2) (itc_ok _ _) ?_
      rw [dnL_len]; exact fits_le hs.2
    · exact k.elim
  · exact k.elim
theorem isTup_of {tg : Expr} (h : isTupE tg = true) : ∃ es k p, tg = .Tuple es k p := by
  cases tg <;> first | exact ⟨_, _, _, rfl⟩ | cases h
theorem sd_zip {a b : C} (Sa : Sd B n N a) (Sb : Sd B n N b) : Sd B n N (.zip a b) := by
  refine Sd.mkIter rfl fun rd sc tg e hc X W E G0 H0 G H ρ σ R I g => ?_
  obtain ⟨f, p, x, y, pos, rfl, hk⟩ : ∃ f p x y pos, e = .Call (.Name f p) [x, y] [] pos ∧ (isTupE tg && sEq "zip" f && glB sc f && (ck B N a).e rd sc x && notStar x && (ck B N b).e rd sc y && notStar y) = true := by
    have hc : iZip' (ck B N a) (ck B N b) rd (isTupE tg) sc e = true := hc
    unfold iZip' at hc
    split at hc
    · exact ⟨_, _, _, _, _, rfl, hc⟩
    · cases hc
  simp only [Bool.and_eq_true] at hk
  obtain ⟨⟨⟨⟨⟨⟨h0, h1⟩, h2⟩, h3⟩, h4⟩, h5⟩, h6⟩ := hk
  have h1' := sEq_ok h1
  subst h1'
  obtain ⟨es, kk, tp, rfl⟩ := isTup_of h0
  obtain ⟨g1, g2, g3⟩ := glB_ok h2
  have g0 : GX (XB B X) W G H σ (okI rd X.K G H R) ((ev (φn B n) B.κ a ρ).bind fun x => (ev (φn B n) B.κ b ρ).bind fun y => zipP x y) := g
  refine tcI_imp (R := fun J H' => ∃ G' xs ys, Ext G H G' H' ∧ okI rd X.K G H R (.lst (zipL xs ys)) ∧ ((∃ a vs b ws, J = Itz X.K a b ∧ H' a = some (.lst vs) ∧ vs.length = xs.length ∧ ∀ G2 H2, cnd rd G' H' G2 H2 → Same G2 H2 → (SqL X.K H2 a vs ∧ Reps X.K G2 vs xs) ∧ SqL X.K H2 b ws ∧ Reps X.K G2 ws ys) ∨
      (∃ a vs b ws, J = RZ.ItzT X.K a b ∧ SqT X.K H' a vs ∧ vs.length = xs.length ∧ ∀ G2 H2, cnd rd G' H' G2 H2 → Same G2 H2 → (SqT X.K H2 a vs ∧ Reps X.K G2 vs xs) ∧ SqT X.K H2 b ws ∧ Reps X.K G2 ws ys)))
    (pi_can' (RZ.pi_zipA (E.gl g1) (E.blt (by decide +kernel)) (pa_cons pe_can (pa_cons pe_can pa_nil (star_of h6)) (star_of h4)) (star_of h4) (nostars (by simp [h6]))) ?_) fun J H' pins s J' hR => ?_
  · refine two_ok Sa Sb E h3 h5 I g0 fun p q G' H' v u ex I' r1 r2 k => ?_
    unfold zipP at k
    split at k
    · obtain ⟨a1, vs, rfl, ha, hl, hw⟩ := cndL I'.sub r1
      obtain ⟨b1, ws, rfl, hb, hl2, hw2⟩ := cndL I'.sub r2
      exact ⟨a1, b1, vs, ws, rfl, .inl ⟨.inl (.inl ha), .inl (.inl hb), G', _, _, ex, k, .inl ⟨a1, vs, b1, ws, rfl, ha, hl, fun G2 H2 c s => ⟨hw G2 H2 c s, hw2 G2 H2 c s⟩⟩⟩⟩
    · obtain ⟨a1, vs, rfl, ha, hl, hw⟩ := cndT I'.sub r1
      obtain ⟨b1, ws, rfl, hb, hl2, hw2⟩ := cndT I'.sub r2
      exact ⟨a1, b1, vs, ws, rfl, .inr ⟨ha, hb, G', _, _, ex, k, .inr ⟨a1, vs, b1, ws, rfl, ha, hl, fun G2 H2 c s => ⟨hw G2 H2 c s, hw2 G2 H2 c s⟩⟩⟩⟩
    · exact k.elim
  · obtain ⟨G', xs, ys, ex, ⟨zs, ez, k⟩, hR⟩ := hR
    cases ez
    rcases hR with ⟨a1, vs, b1, ws, rfl, ha, hl, hw⟩ | ⟨a1, vs, b1, ws, rfl, ha, hl, hw⟩
    · obtain ⟨hz, _⟩ := J'.lstM ha
      exact k G' H' _ ex (itz_ok hw) (by rw [zipL_len]; omega)
    · obtain ⟨_, _, _, hz⟩ := J'.tuple ha
      exact k G' H' _ ex (itzt_ok hw) (by rw [zipL_len]; omega)
end
end Z
end
section
namespace Z
open PySem PySem.Spec PyProof.Rows L2
/-! ### targets -/
def tcG (X : Cx) (tg : Expr) : TG := fun v σ H Q => ∀ (pins : List (Addr × Obj)) (s : Shared) (u : Value), Inv X pins σ H s → RelV v u → wpAny (model X.prog X.w) X.A (assign tg X.env u) (fun _ s' => ∃ σ' H', Inv X pins σ' H' s' ∧ Q σ' H') X.xe s
def tcGs (X : Cx) (tgs : List Expr) : TGs := fun vs σ H Q => ∀ (pins : List (Addr × Obj)) (s : Shared) (us : List Value), Inv X pins σ H s → Vals vs us → wpAny (model X.prog X.w) X.A (assignInOrder ((assignEach tgs X.env).map (·.2)) us) (fun _ s' => ∃ σ' H', Inv X pins σ' H' s' ∧ Q σ' H') X.xe s
section
variable {X : Cx} {tg : Expr} {tgs : List Expr} {σ : L2.St} {H : Hp} {v : V} {vs : List V} {Q : L2.St → Hp → Prop}
theorem pg_can : PG X tg (tcG X tg) := ⟨fun pins s σ H v u Q I r h => h pins s u I r⟩
theorem pgs_can : PGs X tgs (tcGs X tgs) := ⟨fun pins s σ H vs us Q I r h => h pins s us I r⟩
theorem pg_can' {t : TG} (h : PG X tg t) (q : t v σ H Q) : tcG X tg v σ H Q := fun pins s u I r => h.run pins s σ H v u Q I r q
theorem pgs_can' {t : TGs} (h : PGs X tgs t) (q : t vs σ H Q) : tcGs X tgs vs σ H Q := fun pins s us I r => h.run pins s σ H vs us Q I r q
end
def isTgC : C → Bool
  | .tn _ => true
  | .tt _ => true
  | _ => false
def isTgE : Expr → Bool
  | .Name _ _ => true
  | .Tuple _ _ _ => true
  | _ => false
def isTgs : C → Bool
  | .nil => true
  | .cons _ _ => true
  | _ => false
theorem ckG_tg {N : List Str} {sc : Scope} {c : C} {e : Expr} (h : ckG N sc c e = true) : isTgC c = true ∧ isTgE e = true := by
  unfold ckG at h
  split at h
  · exact ⟨rfl, rfl⟩
  · exact ⟨rfl, rfl⟩
  · cases h
theorem ckGs_tg {N : List Str} {sc : Scope} {c : C} {es : List Expr} (h : ckGs N sc c es = true) : isTgs c = true := by
  unfold ckGs at h
  split at h
  · rfl
  · rfl
  · cases h
theorem assignEach_plain {N : List Str} {ts : Scope} {env : Env} {c : C} : ∀ {es : List Expr}, ckGs N ts c es = true → assignEach es env = es.map fun e => (false, assign e env) := by
  induction c with
  | nil =>
    intro es h
    cases es with
    | nil => rfl
    | cons _ _ => cases h
  | cons t c _ ihc =>
    intro es h
    cases es with
    | nil => cases h
    | cons e es =>
      have h : (ckG N ts t e && ckGs N ts c es) = true := h
      simp only [Bool.and_eq_true] at h
      have ih := ihc h.2
      cases e with
      | Name x p => show (false, _) :: assignEach es env = _; rw [ih]; rfl
      | Tuple a b p => show (false, _) :: assignEach es env = _; rw [ih]; rfl
      | _ => cases (ckG_tg h.1).2
  | _ => intro es h; cases ckGs_tg h
theorem no_star_idx {α : Type} (f : α → Bool × (Value → Sem Unit)) (h : ∀ a, (f a).1 = false) : ∀ l : List α, (l.map f).findIdx? (·.1) = none
  | [] => rfl
  | a :: l => by
    rw [List.map_cons, List.findIdx?_cons, h a]
    simp [no_star_idx f h l]
theorem asgLen {N : List Str} {ts : Scope} {c : C} : ∀ {es : List Expr} {ps : List PV} {ρ ρ' : List Slot}, ckGs N ts c es = true → asgP c (.tup ps) ρ = .ok ρ' → ps.length = es.length := by
  induction c with
  | nil =>
    intro es ps ρ ρ' hc ha
    cases es with
    | nil => cases ps with
      | nil => rfl
      | cons _ _ => cases ha
    | cons _ _ => cases hc
  | cons t c _ ihc =>
    intro es ps ρ ρ' hc ha
    cases es with
    | nil => cases hc
    | cons e es => cases ps with
      | nil => cases ha
      | cons p ps =>
        have hc : (ckG N ts t e && ckGs N ts c es) = true := hc
        simp only [Bool.and_eq_true] at hc
        have ha : ((asgP t p ρ).bind fun ρ' => asgP c (.tup ps) ρ') = .ok ρ' := ha
        cases e1 : asgP t p ρ with
        | ok ρ1 =>
          rw [e1] at ha
          rw [List.length_cons, List.length_cons, ihc hc.2 ha]
        | exc c o => rw [e1] at ha; cases ha
        | bad => rw [e1] at ha; cases ha
  | _ => intro es ps ρ ρ' hc; cases ckGs_tg hc
/-- what is known where a target stands: ts: the scope of its names -/
structure TC (N : List Str) (ts : Scope) (X : Cx) : Prop where
  nm : X.N = N
  nd : N.Nodup
  calm : X.calm = true
  loc : ∀ x, Loc ts x → Loc X.env.scope x ∧ (X.fn x = true ∨ X.env.scope.names.lookup x = some .local)
section
variable {N : List Str} {ts : Scope} {X : Cx} {G0 H0 G H : Hp}
theorem tgt_both (T : TC N ts X) (c : C) :
    (∀ (e : Expr), ckG N ts c e = true → ∀ (p : PV) (v : V) (ρ ρ' : List Slot) (σ : L2.St) (Q : L2.St → Hp → Prop), asgP c p ρ = .ok ρ' → SI X.K G0 H0 G H ρ σ → Rep X.K G v p →
      (∀ σ', SI X.K G0 H0 G H ρ' σ' → (∀ i, i ∉ tgS c → σ'[i]? = σ[i]?) → σ'.length = σ.length → Q σ' H) → tcG X e v σ H Q) ∧
    (∀ (es : List Expr), ckGs N ts c es = true → ∀ (ps : List PV) (vs : List V) (ρ ρ' : List Slot) (σ : L2.St) (Q : L2.St → Hp → Prop), asgP c (.tup ps) ρ = .ok ρ' → SI X.K G0 H0 G H ρ σ → Reps X.K G vs ps →
      (∀ σ', SI X.K G0 H0 G H ρ' σ' → (∀ i, i ∉ tgS c → σ'[i]? = σ[i]?) → σ'.length = σ.length → Q σ' H) → tcGs X es vs σ H Q) := by
  induction c with
  | tn i =>
    refine ⟨fun e hc p v ρ ρ' σ Q ha I r k => ?_, fun es hc => (by cases ckGs_tg hc)⟩
    cases e with
    | Name x pos =>
      have hc : (ixB N i x && locB ts x) = true := hc
      simp only [Bool.and_eq_true] at hc
      cases ha
      have hl := T.loc x (locB_ok hc.2)
      refine pg_can' (pg_name (i := i) (by rw [T.nm]; exact T.nd) (by rw [T.nm]; exact ixB_ok hc.1) hl.1 hl.2) ?_
      exact k _ (I.setShr r) (fun j hj => get_set_ne fun e => hj (by rw [← e]; exact List.mem_singleton.mpr rfl)) (List.length_set ..)
    | _ => cases hc
  | tt ts' ih =>
    refine ⟨fun e hc p v ρ ρ' σ Q ha I r k => ?_, fun es hc => (by cases ckGs_tg hc)⟩
    cases e with
    | Tuple es kk pos =>
      have hc : ckGs N ts ts' es = true := hc
      have hE := assignEach_plain (env := X.env) hc
      have hst : (assignEach es X.env).findIdx? (·.1) = none := by rw [hE]; exact no_star_idx _ (fun _ => rfl) es
      have hn : (assignEach es X.env).length = es.length := by rw [hE, List.length_map]
      cases p with
      | tup xs =>
        have ha : asgP ts' (.tup xs) ρ = .ok ρ' := ha
        cases r with
        | tup sq rr =>
          have q := ih.2 es hc xs _ ρ ρ' σ Q ha I rr k
          exact pg_can' (pg_tup T.calm pgs_can hn hst) ⟨_, _, rfl, Same.tup I.sub sq, by rw [rr.length]; exact asgLen hc ha, q⟩
      | lst xs =>
        have ha : asgP ts' (.tup xs) ρ = .ok ρ' := ha
        cases r with
        | lst sq rr =>
          have q := ih.2 es hc xs _ ρ ρ' σ Q ha I rr k
          exact pg_can' (pg_lst T.calm pgs_can hn hst) ⟨_, _, rfl, .inl (.inl (I.sub _ _ sq)), by rw [rr.length]; exact asgLen hc ha, q⟩
      | _ => cases ha
    | _ => cases hc
  | nil =>
    refine ⟨fun e hc => (by cases (ckG_tg hc).1), fun es hc ps vs ρ ρ' σ Q ha I r k => ?_⟩
    cases es with
    | nil =>
      cases r with
      | nil =>
        cases ha
        exact pgs_can' pgs_nil ⟨rfl, k σ I (fun _ _ => rfl) rfl⟩
      | cons r t => cases ha
    | cons e es => cases hc
  | cons a b iha ihb =>
    refine ⟨fun e hc => (by cases (ckG_tg hc).1), fun es hc ps vs ρ ρ' σ Q ha I r k => ?_⟩
    cases es with
    | nil => cases hc
    | cons e es =>
      have hc0 := hc
      have hc : (ckG N ts a e && ckGs N ts b es) = true := hc
      simp only [Bool.and_eq_true] at hc
      cases r with
      | nil => cases ha
      | cons r t =>
        rename_i v vs p ps
        have ha : ((asgP a p ρ).bind fun ρ' => asgP b (.tup ps) ρ') = .ok ρ' := ha
        cases e1 : asgP a p ρ with
        | ok ρ1 =>
          rw [e1] at ha
          have ha : asgP b (.tup ps) ρ1 = .ok ρ' := ha
          have hs : (assignEach (e :: es) X.env).map (·.2) = assign e X.env :: (assignEach es X.env).map (·.2) := by
            rw [assignEach_plain (env := X.env) hc0, assignEach_plain (env := X.env) hc.2]
            simp
          refine pgs_can' (pgs_cons pg_can pgs_can hs) ⟨v, vs, rfl, ?_⟩
          refine iha.1 e hc.1 p v ρ ρ1 σ _ e1 I r fun σ1 I1 o1 l1 => ?_
          refine ihb.2 es hc.2 ps vs ρ1 ρ' σ1 Q ha I1 t fun σ2 I2 o2 l2 => ?_
          refine k σ2 I2 (fun i hi => ?_) (l2.trans l1)
          have hi' : i ∉ tgS a ++ tgS b := hi
          rw [List.mem_append] at hi'
          rw [o2 i fun z => hi' (.inr z), o1 i fun z => hi' (.inl z)]
        | exc c o => rw [e1] at ha; cases ha
        | bad => rw [e1] at ha; cases ha
  | _ => exact ⟨fun e hc => (by cases (ckG_tg hc).1), fun es hc => (by cases ckGs_tg hc)⟩
end
end Z
end
section
namespace Z
open PySem PySem.Spec PyProof.Rows L2
theorem wipe_in {σ : L2.St} {i : Nat} : ∀ {vs : List Nat}, i ∈ vs → i < σ.length → (wipe σ vs)[i]? = some none
  | v :: vs, h, hl => by
    show ((wipe σ vs).set v none)[i]? = some none
    by_cases e : v = i
    · subst e
      rw [List.getElem?_set_self (by rw [wipe_length]; exact hl)]
    · rw [get_set_ne e]
      rcases List.mem_cons.mp h with z | z
      · exact absurd z.symm e
      · exact wipe_in z hl
theorem wipe_same {σ σ2 : L2.St} {vs : List Nat} (hl : σ2.length = σ.length) (h : ∀ i, i ∉ vs → σ2[i]? = (wipe σ vs)[i]?) : wipe σ2 vs = wipe σ vs := by
  apply List.ext_getElem?
  intro i
  by_cases hi : i ∈ vs
  · by_cases hlt : i < σ.length
    · rw [wipe_in hi hlt, wipe_in hi (by rw [hl]; exact hlt)]
    · rw [List.getElem?_eq_none (by rw [wipe_length, hl]; omega), List.getElem?_eq_none (by rw [wipe_length]; omega)]
  · rw [wipe_out hi, h i hi]
section
variable {K : PySem.W.Frag} {G0 H0 G H : Hp}
theorem SI.wipe {ρ : List Slot} {σ : L2.St} (I : SI K G0 H0 G H ρ σ) : ∀ vs : List Nat, SI K G0 H0 G H (wipeS ρ vs) (L2.wipe σ vs)
  | [] => I
  | v :: vs => (SI.wipe I vs).setUn
end
section
variable {B : Tb} {n : Nat} {N : List Str}
/-- the context within a comprehension -/
theorem EC.blk {sc scope : Scope} {X : Cx} {W : WX} (E : EC B n N sc X W) (s : Shared) (H : Hp) (Ca : Addr) (cl : List (Str × Addr)) (fp : List Addr) : EC B n N (relS scope sc) (X.blk s H scope (compEnvC scope cl Ca X.env) fp) (fun _ _ _ _ => False) where
  scope := by
    show relabel scope X.env = relS scope sc
    rw [← E.scope]; rfl
  nm := E.nm
  nd := E.nd
  calm := E.calm
  takes := fun u s' h => by
    obtain ⟨_, _, _, _, _, _, _, _, _, _, _, _, _, _, _, _, w⟩ := h
    exact w.elim
  room := E.room
  wo := E.wo
theorem TC.blk {sc scope : Scope} {X : Cx} {W : WX} (E : EC B n N sc X W) (s : Shared) (H : Hp) (Ca : Addr) (cl : List (Str × Addr)) (fp : List Addr) : TC N scope (X.blk s H scope (compEnvC scope cl Ca X.env) fp) where
  nm := E.nm
  nd := E.nd
  calm := E.calm
  loc := fun x h => by
    rcases h with h | h
    · have h2 := lookup_relS_keep (sc := X.env.scope) (k := .local) (fun z => nomatch z) h
      exact ⟨.inl h2, .inr h2⟩
    · have h2 := lookup_relS_keep (sc := X.env.scope) (k := .cell) (fun z => nomatch z) h
      refine ⟨.inr h2, .inl ?_⟩
      show (scope.names.lookup x == some NameKind.cell) = true
      rw [h]; rfl
theorem compL_exc {f : PV → Res (Option PV)} {c : Nat} {o : Option PV} : ∀ xs, compL f xs ≠ .exc c o
  | [], h => nomatch h
  | x :: r, h => by
    unfold compL at h
    split at h
    · cases e : compL f r with
      | ok ys => rw [e] at h; cases h
      | exc c o => exact compL_exc r e
      | bad => rw [e] at h; cases h
    · exact compL_exc r h
    · cases h
theorem compL_step {f : PV → Res (Option PV)} {x : PV} {r ys : List PV} (h : compL f (x :: r) = .ok ys) : (∃ y zs, f x = .ok (some y) ∧ compL f r = .ok zs ∧ ys = y :: zs) ∨ (f x = .ok none ∧ compL f r = .ok ys) := by
  unfold compL at h
  split at h
  · rename_i y e1
    cases e : compL f r with
    | ok zs => rw [e] at h; cases h; exact .inl ⟨y, zs, e1, rfl, rfl⟩
    | exc c o => rw [e] at h; cases h
    | bad => rw [e] at h; cases h
  · rename_i e1
    exact .inr ⟨e1, h⟩
  · cases h
theorem bind_ok {α β : Type} {r : Res α} {f : α → Res β} {b : β} (h : r.bind f = .ok b) : ∃ a, r = .ok a ∧ f a = .ok b := by
  cases r with
  | ok a => exact ⟨a, rfl, h⟩
  | exc c o => cases h
  | bad => cases h
/-- the block's parts, whatever its frame -/
def tcGU (X : Cx) (scope : Scope) (tg : Expr) : TG := fun v σ H Q => ∀ (s : Shared) (H1 : Hp) (Ca : Addr) (cl : List (Str × Addr)) (fp : List Addr), tcG (X.blk s H1 scope (compEnvC scope cl Ca X.env) fp) tg v σ H Q
def tcTU (X : Cx) (scope : Scope) (e : Expr) : TT := fun σ H Q => ∀ (s : Shared) (H1 : Hp) (Ca : Addr) (cl : List (Str × Addr)) (fp : List Addr), tcT (X.blk s H1 scope (compEnvC scope cl Ca X.env) fp) e σ H Q
def tcEU (X : Cx) (scope : Scope) (e : Expr) : TE := fun σ H Q => ∀ (s : Shared) (H1 : Hp) (Ca : Addr) (cl : List (Str × Addr)) (fp : List Addr), tcE (X.blk s H1 scope (compEnvC scope cl Ca X.env) fp) e σ H Q
theorem Ext.put {G1 H1 G2 Hh : Hp} {D : Addr} {o : HO} (e : Ext G1 H1 G2 Hh) (h1 : H1 D = none) (g : G2 D = none) : Ext G1 H1 G2 (upd Hh D o) where
  gs := e.gs
  hs := fun b x q => by rw [upd_ne (ne_of_none q h1)]; exact e.hs _ _ q
  gh := fun b x q => by rw [upd_ne (ne_of_none q g)]; exact e.gh _ _ q
  nw := e.nw
/-- the turns of a comprehension -/
theorem comp_run {sc scope : Scope} {X : Cx} {W : WX} (E : EC B n N sc X W) {tg cn el : C} {t elt : Expr} {vs : List Nat} (Sc : Sd B n N cn) (Se : Sd B n N el)
    (h2 : ckG N scope tg t = true) (h4 : (ck B N el).e false (relS scope sc) elt = true) (h7 : ∀ i ∈ tgS tg, i ∈ vs) {tt : TT}
    (htt : ∀ (σ2 : L2.St) (H2 : Hp) (G2 : Hp) (ρ2 : List Slot) (G0 H0 : Hp) (b : Bool) (Q : Bool → Hp → Prop), SI X.K G0 H0 G2 H2 ρ2 σ2 → (ev (φn B n) B.κ cn ρ2).bind truP = .ok b → (∀ G' H', Ext G2 H2 G' H' → Q b H') → tt σ2 H2 Q)
    {G0 H0 G H G1 H1 : Hp} {ρ : List Slot} {σ : L2.St} {Q : VK} (I : SI X.K G0 H0 G H ρ σ) (e1 : Ext G H G1 H1) {J : It} {xs ys : List PV} (hJ : ItP (CC G1 H1) X.K J xs) (hz : xs.length ≤ sizeLine)
    (hy : compL (fun x => (asgP tg x (wipeS ρ vs)).bind fun ρ' => (ev (φn B n) B.κ cn ρ').bind fun c => (truP c).bind fun t => if t then (ev (φn B n) B.κ el ρ').bind fun y => .ok (some y) else .ok none) xs = .ok ys)
    (D : Addr) (hD : H1 D = none) (k : ∀ G2 Hh accV, Ext G1 H1 G2 Hh → G2 D = none → Hh D = some (.lst accV) → Reps X.K G2 accV ys → Q (.ref D) Hh) :
    ∃ W : Nat → Nat → Hp → Prop, (∃ m, W 0 m (upd H1 D (.lst []))) ∧ ∀ i m H, W i m H →
      (J.stop i H ∧ Q (.ref D) H) ∨ (J.go i H ∧ ∃ Nx : Hp → Prop, (∀ H', Nx H' → ∃ m', m' < m ∧ W (i + 1) m' H') ∧ ∀ x H', J.yld i H x H' → tcGU X scope t x (L2.wipe σ vs) H' fun σ2 H2 => L2.wipe σ2 vs = L2.wipe σ vs ∧ tt σ2 H2 fun b H3 =>
        if b = true then tcEU X scope elt σ2 H3 fun y H4 => ∃ acc, H4 D = some (.lst acc) ∧ acc.length < sizeLine ∧ Nx (upd H4 D (.lst (acc ++ [y]))) else Nx H3) := by
  generalize hf : (fun x => (asgP tg x (wipeS ρ vs)).bind fun ρ' => (ev (φn B n) B.κ cn ρ').bind fun c => (truP c).bind fun t => if t then (ev (φn B n) B.κ el ρ').bind fun y => Res.ok (some y) else Res.ok none) = f at hy
  have g1D : G1 D = none := e1.gh.free hD
  refine ⟨fun i m Hh => ∃ G2 accV acc rest, m = xs.length - i ∧ i ≤ xs.length ∧ Ext G1 H1 G2 Hh ∧ G2 D = none ∧ Hh D = some (.lst accV) ∧ Reps X.K G2 accV acc ∧ acc.length ≤ i ∧ compL f (xs.drop i) = .ok rest ∧ ys = acc ++ rest,
    ⟨xs.length, G1, [], [], ys, rfl, Nat.zero_le _, Ext.newOwn e1.gh hD, g1D, upd_same, .nil, Nat.le_refl _, hy, rfl⟩, fun i m Hh hW => ?_⟩
  obtain ⟨G2, accV, acc, rest, rfl, hi, e2, g2D, hhD, rr, hal, hr, rfl⟩ := hW
  have hJi := hJ i G2 Hh e2 e2.gh
  by_cases hlt : i < xs.length
  · obtain ⟨x, hx⟩ : ∃ x, xs[i]? = some x := ⟨xs[i], List.getElem?_eq_getElem hlt⟩
    obtain ⟨go, yl⟩ := hJi.1 x hx
    have hdrop : xs.drop i = x :: xs.drop (i + 1) := by
      rw [List.drop_eq_getElem_cons hlt]
      rw [List.getElem?_eq_getElem hlt] at hx
      cases hx; rfl
    rw [hdrop] at hr
    refine .inr ⟨go, fun H' => ∃ G2 accV acc' rest', Ext G1 H1 G2 H' ∧ G2 D = none ∧ H' D = some (.lst accV) ∧ Reps X.K G2 accV acc' ∧ acc'.length ≤ i + 1 ∧ compL f (xs.drop (i + 1)) = .ok rest' ∧ acc ++ rest = acc' ++ rest', fun H' hN => ?_, fun v H' hyl => ?_⟩
    · obtain ⟨G3, aV, a3, r3, q1, q2, q3, q4, q5, q6, q7⟩ := hN
      exact ⟨xs.length - (i + 1), by omega, G3, aV, a3, r3, rfl, by omega, q1, q2, q3, q4, q5, q6, q7⟩
    · obtain ⟨G3, e3, rv⟩ := yl v H' hyl
      intro s1 Hs Ca cl fp
      have I3 : SI X.K G0 H0 G3 H' (wipeS ρ vs) (L2.wipe σ vs) := ((I.grow ((e1.trans e2).trans e3))).wipe vs
      have efx : ∃ o, f x = .ok o := by
        rcases compL_step hr with ⟨y, zs, h, _⟩ | ⟨h, _⟩
        · exact ⟨_, h⟩
        · exact ⟨_, h⟩
      obtain ⟨o, ho⟩ := efx
      have ho2 := ho
      rw [← hf] at ho2
      obtain ⟨ρ', ea, ho3⟩ := bind_ok ho2
      obtain ⟨c, ec, ho4⟩ := bind_ok ho3
      obtain ⟨b, eb, ho5⟩ := bind_ok ho4
      refine (tgt_both (G0 := G0) (H0 := H0) (G := G3) (H := H') (TC.blk E s1 Hs Ca cl fp) tg).1 t h2 x v (wipeS ρ vs) ρ' (L2.wipe σ vs) _ ea I3 rv fun σ2 I4 o4 l4 => ?_
      refine ⟨wipe_same (by rw [l4, wipe_length]) fun j hj => o4 j fun z => hj (h7 j z), ?_⟩
      refine htt σ2 H' G3 ρ' G0 H0 b _ I4 (by rw [ec]; exact eb) fun G4 H4 e4 => ?_
      have I5 : SI X.K G0 H0 G4 H4 ρ' σ2 := I4.grow e4
      have e24 : Ext G2 Hh G4 H4 := e3.trans e4
      have g4D : G4 D = none := e24.own g2D hhD
      have h4D : H4 D = some (.lst accV) := e24.hs _ _ hhD
      cases b with
      | true =>
        refine iteT ?_
        have ho6 : ((ev (φn B n) B.κ el ρ').bind fun y => Res.ok (some y)) = .ok o := ho5
        obtain ⟨y, ey, ho7⟩ := bind_ok ho6
        cases ho7
        rcases compL_step hr with ⟨y', zs, h, hzs, rfl⟩ | ⟨h, _⟩
        · rw [ho] at h; cases h
          intro s2 Hs2 Ca2 cl2 fp2
          refine Se.e false (relS scope sc) elt h4 _ _ (E.blk s2 Hs2 Ca2 cl2 fp2) G0 H0 G4 H4 ρ' σ2 _ I5 ?_
          rw [ey]
          intro G5 H5 v5 e5 r5
          have e25 : Ext G2 Hh G5 H5 := e24.trans e5
          have g5D : G5 D = none := e25.own g2D hhD
          have h5D : H5 D = some (.lst accV) := e25.hs _ _ hhD
          refine ⟨accV, h5D, ?_, G5, accV ++ [v5], acc ++ [y], zs, (e2.trans e25).put hD g5D, g5D, upd_same, (rr.mono e25.gs).append (.cons r5 .nil), ?_, hzs, ?_⟩
          · rw [rr.length]; omega
          · rw [List.length_append]; show acc.length + 1 ≤ i + 1; omega
          · rw [List.append_assoc]; rfl
        · rw [ho] at h; cases h
      | false =>
        refine iteF ?_
        have ho6 : (Res.ok none : Res (Option PV)) = .ok o := ho5
        cases ho6
        rcases compL_step hr with ⟨y', zs, h, hzs, rfl⟩ | ⟨h, hrest⟩
        · rw [ho] at h; cases h
        · exact ⟨G4, accV, acc, rest, e2.trans e24, g4D, h4D, rr.mono e24.gs, by omega, hrest, rfl⟩
  · have hi' : i = xs.length := by omega
    refine .inl ⟨hJi.2 (by omega), ?_⟩
    rw [hi', List.drop_length] at hr
    cases hr
    rw [List.append_nil] at k
    exact k G2 Hh accV e2 g2D hhD rr
theorem comp_list {scope : Scope} {vs : List Nat} {own : List (Str × Nat)} {sc : Scope} {X : Cx} {W : WX} (E : EC B n N sc X W) {tg it cn el : C} {t i elt : Expr} {ifs : List Expr} (Si : Sd B n N it) (Sc : Sd B n N cn) (Se : Sd B n N el)
    (h1 : (ck B N it).i true (isTupE t) sc i = true) (h2 : ckG N scope tg t = true) (h3 : (match ifs with | [] => isTrueC cn | [c] => (ck B N cn).t (relS scope sc) c | _ => false) = true) (h4 : (ck B N el).e false (relS scope sc) elt = true)
    (h6 : vs = own.map (·.2)) (h7 : ∀ i ∈ tgS tg, i ∈ vs)
    {G0 H0 G H : Hp} {ρ : List Slot} {σ : L2.St} {Q : VK} {okP : PV → Prop} (I : SI X.K G0 H0 G H ρ σ) (g : GX (XB B X) W G H σ okP (ev (φn B n) B.κ (.comp vs tg it cn el) ρ))
    (hok : ∀ ys, okP (.lst ys) → ∀ G1 H1, Ext G H G1 H1 → ∀ D, H1 D = none → ∀ G2 Hh accV, Ext G1 H1 G2 Hh → G2 D = none → Hh D = some (.lst accV) → Reps X.K G2 accV ys → Q (.ref D) Hh) :
    ∃ tt : TT, (∀ (s : Shared) (H : Hp) (Ca : Addr) (cl : List (Str × Addr)) (fp : List Addr), PTs (X.blk s H scope (compEnvC scope cl Ca X.env) fp) ifs tt) ∧
      tLc (tcI X t i) (tcGU X scope t) tt (tcEU X scope elt) (own.map (·.2)) σ H Q := by
  have g0 : GX (XB B X) W G H σ okP ((ev (φn B n) B.κ it ρ).bind fun l => (lstOf l).bind fun xs =>
    (compL (fun x => (asgP tg x (wipeS ρ vs)).bind fun ρ' => (ev (φn B n) B.κ cn ρ').bind fun c => (truP c).bind fun t => if t then (ev (φn B n) B.κ el ρ').bind fun y => .ok (some y) else .ok none) xs).bind fun ys => .ok (.lst ys)) := g
  have fin : ∀ tt : TT, (∀ (σ2 : L2.St) (H2 : Hp) (G2 : Hp) (ρ2 : List Slot) (G0 H0 : Hp) (b : Bool) (Q : Bool → Hp → Prop), SI X.K G0 H0 G2 H2 ρ2 σ2 → (ev (φn B n) B.κ cn ρ2).bind truP = .ok b → (∀ G' H', Ext G2 H2 G' H' → Q b H') → tt σ2 H2 Q) →
      tLc (tcI X t i) (tcGU X scope t) tt (tcEU X scope elt) (own.map (·.2)) σ H Q := fun tt htt => by
    refine Si.i true sc t i h1 X W E G0 H0 G H ρ σ _ I (g0.bind.imp fun l _ g1 => ?_)
    cases l with
    | lst xs =>
      refine ⟨xs, rfl, fun G1 H1 J e1 hJ hz D hD => ?_⟩
      rw [← h6]
      have g2 : GX (XB B X) W G H σ okP ((compL (fun x => (asgP tg x (wipeS ρ vs)).bind fun ρ' => (ev (φn B n) B.κ cn ρ').bind fun c => (truP c).bind fun t => if t then (ev (φn B n) B.κ el ρ').bind fun y => .ok (some y) else .ok none) xs).bind fun ys => .ok (.lst ys)) := g1
      cases ey : compL (fun x => (asgP tg x (wipeS ρ vs)).bind fun ρ' => (ev (φn B n) B.κ cn ρ').bind fun c => (truP c).bind fun t => if t then (ev (φn B n) B.κ el ρ').bind fun y => Res.ok (some y) else Res.ok none) xs with
      | ok ys =>
        rw [ey] at g2
        exact comp_run E Sc Se h2 h4 h7 htt I e1 hJ hz ey D hD fun G2 Hh accV q1 q2 q3 q4 => hok ys g2 G1 H1 e1 D hD G2 Hh accV q1 q2 q3 q4
      | exc c o => exact absurd ey (compL_exc xs)
      | bad => rw [ey] at g2; exact g2.elim
    | _ => exact g1.elim
  cases ifs with
  | nil =>
    refine ⟨tYes, fun _ _ _ _ _ => pts_nil, fin _ fun σ2 H2 G2 ρ2 G0 H0 b Q I2 hb hq => ?_⟩
    have hcn : cn = .k (.bl true) := by
      have h3 : isTrueC cn = true := h3
      unfold isTrueC at h3
      split at h3
      · rfl
      · cases h3
    subst hcn
    cases hb
    exact hq G2 H2 (Ext.refl I2.sub)
  | cons c r =>
    cases r with
    | nil =>
      refine ⟨tcTU X scope c, fun s H Ca cl fp => pts_one ⟨fun pins s' σ H Q J h => h s _ Ca cl fp pins s' J⟩, fin _ fun σ2 H2 G2 ρ2 G0 H0 b Q I2 hb hq => ?_⟩
      intro s1 Hs Ca cl fp
      refine Sc.t (relS scope sc) c h3 _ _ (E.blk s1 Hs Ca cl fp) G0 H0 G2 H2 ρ2 σ2 Q I2 ?_
      rw [hb]
      exact hq
    | cons d r => cases h3
theorem contains_mem {vs : List Nat} {l : List Nat} (h : (l.all fun i => vs.contains i) = true) : ∀ i ∈ l, i ∈ vs := fun i hi => by
  have := List.all_eq_true.mp h i hi
  simpa using this
theorem eComp_ok {vs : List Nat} {tg : C} {it cn el : C} {sc : Scope} {e : Expr} (hc : (ck B N (.comp vs tg it cn el)).e false sc e = true) : ∃ elt t i ifs scope pos, e = .ListComp elt [⟨t, i, ifs, 0⟩] scope pos ∧ (ck B N it).i true (isTupE t) sc i = true ∧ ckG N scope tg t = true ∧
      (match ifs with | [] => isTrueC cn | [c] => (ck B N cn).t (relS scope sc) c | _ => false) = true ∧ (ck B N el).e false (relS scope sc) elt = true ∧
      blkC N sc scope (ownOf N scope) = true ∧ vs = (ownOf N scope).map (·.2) ∧ notSet i = true ∧ ∀ i ∈ tgS tg, i ∈ vs := by
  have hc : eComp N vs tg (ck B N it) (ck B N cn) (ck B N el) (isTrueC cn) false sc e = true := hc
  unfold eComp at hc
  split at hc
  · simp only [Bool.and_eq_true, decide_eq_true_eq] at hc
    obtain ⟨⟨⟨⟨⟨⟨⟨h1, h2⟩, h3⟩, h4⟩, h5⟩, h6⟩, hset⟩, h7⟩ := hc
    exact ⟨_, _, _, _, _, _, rfl, h1, h2, h3, h4, h5, h6, hset, contains_mem h7⟩
  · cases hc
theorem comp_pe {vs : List Nat} {tg : C} {it cn el : C} (Si : Sd B n N it) (Sc : Sd B n N cn) (Se : Sd B n N el) {sc : Scope} {e : Expr} (hc : (ck B N (.comp vs tg it cn el)).e false sc e = true) {X : Cx} {W : WX} (E : EC B n N sc X W)
    {G0 H0 G H : Hp} {ρ : List Slot} {σ : L2.St} {Q : VK} {okP : PV → Prop} (I : SI X.K G0 H0 G H ρ σ) (g : GX (XB B X) W G H σ okP (ev (φn B n) B.κ (.comp vs tg it cn el) ρ))
    (hok : ∀ ys, okP (.lst ys) → ∀ G1 H1, Ext G H G1 H1 → ∀ D, H1 D = none → ∀ G2 Hh accV, Ext G1 H1 G2 Hh → G2 D = none → Hh D = some (.lst accV) → Reps X.K G2 accV ys → Q (.ref D) Hh) : tcE X e σ H Q := by
  obtain ⟨elt, t, i, ifs, scope, pos, rfl, h1, h2, h3, h4, h5, h6, hset, h7⟩ := eComp_ok hc
  obtain ⟨tt, ht, hl⟩ := comp_list E Si Sc Se h1 h2 h3 h4 h6 h7 I g hok
  exact pe_can' (pe_lc E.calm (by rw [E.nm]; exact E.nd) pi_can (own := ownOf N scope) (by rw [E.nm, E.scope]; exact blkOk_by h5) (fun s H Ca cl fp => ⟨fun pins s' σ H Q v u I r h => h s _ Ca cl fp pins s' _ I r⟩) ht (fun s H Ca cl fp => ⟨fun pins s' σ H Q J h => h s _ Ca cl fp pins s' J⟩) (fun x => notSet_folded hset X.env x)) hl
theorem okE_comp {K : PySem.W.Frag} {G H : Hp} {Q : VK} (ys : List PV) (k : okE false K G H Q (.lst ys)) (G1 H1 : Hp) (e1 : Ext G H G1 H1) (D : Addr) (hD : H1 D = none) (G2 Hh : Hp) (accV : List V) (e2 : Ext G1 H1 G2 Hh) (g : G2 D = none) (h : Hh D = some (.lst accV)) (rr : Reps K G2 accV ys) : Q (.ref D) Hh :=
  k (upd G2 D (.lst accV)) Hh (.ref D) (e1.trans (e2.frz h g hD)) (.lst upd_same (rr.mono (same_upd g)))
theorem sd_comp (vs : List Nat) (tg : C) {it cn el : C} (Si : Sd B n N it) (Sc : Sd B n N cn) (Se : Sd B n N el) : Sd B n N (.comp vs tg it cn el) := by
  refine Sd.mk1 rfl (fun z => nomatch z) (SE.all ?_ fun _ _ _ h => h)
  intro sc e hc X W E G0 H0 G H ρ σ Q I g
  exact comp_pe Si Sc Se hc E I g okE_comp
end
end Z
end
section
namespace Z
open PySem PySem.Spec PyProof.Rows L2
/-! ### lists of one's own, just made -/
abbrev okF (K : PySem.W.Frag) (G H : Hp) (Q : VK) : PV → Prop := fun l => ∃ xs, l = .lst xs ∧ ∀ G' H' a vs, Ext G H G' H' → H a = none → G' a = none → H' a = some (.lst vs) → Reps K G' vs xs → Q (.ref a) H'
section
variable (B : Tb) (n : Nat) (N : List Str)
def SF (c : C) : Prop := ∀ (sc : Scope) (e : Expr), (ck B N c).e false sc e = true → ∀ (X : Cx) (W : WX), EC B n N sc X W → ∀ (G0 H0 G H : Hp) (ρ : List Slot) (σ : L2.St) (Q : VK), SI X.K G0 H0 G H ρ σ →
  GX (XB B X) W G H σ (okF X.K G H Q) (ev (φn B n) B.κ c ρ) → tcE X e σ H Q
/-- which terms make a list that is nobody else's -/
def frC : C → Bool
  | .dsp _ => true
  | .comp _ _ _ _ _ => true
  | .bin .add _ _ => true
  | .sl _ _ _ => true
  | .bi .list _ => true
  | .ife _ a b => frC a && frC b
  | _ => false
end
section
variable {B : Tb} {n : Nat} {N : List Str}
theorem okF.now {K : PySem.W.Frag} {G H G1 H1 : Hp} {Q : VK} {xs : List PV} (k : okF K G H Q (.lst xs)) (e : Ext G H G1 H1) {a : Addr} {vs : List V} (h : H1 a = none) (rr : Reps K G1 vs xs) : Q (.ref a) (upd H1 a (.lst vs)) := by
  obtain ⟨ys, ey, k⟩ := k
  cases ey
  exact k G1 (upd H1 a (.lst vs)) a vs (e.trans (Ext.newOwn e.gh h)) (e.hs.free h) (e.gh.free h) upd_same rr
theorem sf_dsp {es : C} (Ss : Sd B n N es) : SF B n N (.dsp es) := by
  intro sc e hc X W E G0 H0 G H ρ σ Q I g
  have hc : eDsp (ck B N es) false sc e = true := hc
  unfold eDsp at hc
  split at hc
  · simp only [Bool.and_eq_true] at hc
    refine pe_can' (pe_lst pa_can) ?_
    have hl := ble1000 hc.2
    have g0 : GX (XB B X) W G H σ (okF X.K G H Q) ((ev (φn B n) B.κ es ρ).bind fun l => (lstOf l).bind fun xs => .ok (.lst xs)) := g
    refine Ss.a false sc _ hc.1 X W E G0 H0 G H ρ σ _ I (g0.bind.imp fun l el g1 => ?_)
    cases l with
    | lst ps =>
      have en := argsLen (c := es) hc.1 el
      exact ⟨ps, rfl, fun G1 H1 vs e1 rs => ⟨by rw [rs.length, en]; exact hl, fun p hp => okF.now g1 e1 hp rs.r⟩⟩
    | _ => exact g1.elim
  · cases hc
theorem sf_bin {a b : C} (Sa : Sd B n N a) (Sb : Sd B n N b) : SF B n N (.bin .add a b) := by
  intro sc e hc X W E G0 H0 G H ρ σ Q I g
  have hc : eBin .add (ck B N a) (ck B N b) false sc e = true := hc
  unfold eBin at hc
  split at hc
  · obtain ⟨h1, h2, h3⟩ := and3 hc
    have h1' := bopB_ok h1
    subst h1'
    refine pe_can' (pe_op (opCan_ok X _) pe_can pe_can) ?_
    refine two_ok Sa Sb E h2 h3 I g fun p q G' H' v u ex I' r1 r2 g' => ?_
    have r1 := r1.x
    have r2 := r2.x
    cases p with
    | lst xs =>
      cases q with
      | lst ys =>
        obtain ⟨a1, vs, rfl, ha, rr1⟩ := r1.lst I'.sub
        obtain ⟨b1, ws, rfl, hb, rr2⟩ := r2.lst I'.sub
        have g' : GX (XB B X) W G H σ (okF X.K G H Q) (if fits (xs.length + ys.length) then .ok (.lst (xs ++ ys)) else .bad) := g'
        split at g'
        · rename_i hf
          exact opCan_of op_cat ⟨_, _, _, _, rfl, rfl, ha, hb, by rw [rr1.length, rr2.length]; exact fits_le hf, fun c hc => okF.now g' ex hc (rr1.append rr2)⟩
        · exact g'.elim
      | _ => exact g'.elim
    | int i =>
      cases q with
      | int j => obtain ⟨ys, ey, _⟩ := g'; cases ey
      | _ => exact g'.elim
    | str i =>
      cases q with
      | str j =>
        have g' : GX (XB B X) W G H σ (okF X.K G H Q) (if fits (i.length + j.length) then .ok (.str (i ++ j)) else .bad) := g'
        split at g'
        · obtain ⟨ys, ey, _⟩ := g'; cases ey
        · exact g'.elim
      | _ => exact g'.elim
    | tup i =>
      cases q with
      | tup j =>
        have g' : GX (XB B X) W G H σ (okF X.K G H Q) (if fits (i.length + j.length) then .ok (.tup (i ++ j)) else .bad) := g'
        split at g'
        · obtain ⟨ys, ey, _⟩ := g'; cases ey
        · exact g'.elim
      | _ => exact g'.elim
    | _ => exact g'.elim
  · cases hc
theorem sf_sl {a lo hi : C} (Sa : Sd B n N a) (Sl : Sd B n N lo) (Sh : Sd B n N hi) : SF B n N (.sl a lo hi) := by
  intro sc e hc X W E G0 H0 G H ρ σ Q I g
  have hc : eSl (ck B N a) (ck B N lo) (ck B N hi) false sc e = true := hc
  unfold eSl at hc
  split at hc
  · obtain ⟨h1, h2, h3⟩ := and3 hc
    refine pe_can' (pe_slice (slCan_ok X) pe_can po_can po_can) ?_
    have g0 : GX (XB B X) W G H σ (okF X.K G H Q) ((ev (φn B n) B.κ a ρ).bind fun x => (partC lo (ev (φn B n) B.κ lo ρ)).bind fun l => (partC hi (ev (φn B n) B.κ hi ρ)).bind fun h => slV x l h) := g
    refine Sa.e true sc _ h1 X W E G0 H0 G H ρ σ _ I (g0.bind.imp fun p _ g1 G1 H1 v e1 r1 => ?_)
    have I1 := I.grow e1
    refine Sl.o sc _ h2 X W E G0 H0 G1 H1 ρ σ _ I1 ((GX.move (ok' := fun l => GX (XB B X) W G H σ (okF X.K G H Q) ((partC hi (ev (φn B n) B.κ hi ρ)).bind fun h => slV p l h)) g1.bind e1 fun q h => h).imp fun l _ g2 G2 H2 e2 => ?_)
    have I2 := I1.grow e2
    refine Sh.o sc _ h3 X W E G0 H0 G2 H2 ρ σ _ I2 ((GX.move (ok' := fun h => GX (XB B X) W G H σ (okF X.K G H Q) (slV p l h)) g2.bind (e1.trans e2) fun q h => h).imp fun h _ g3 G3 H3 e3 => ?_)
    have rx := ((r1.mono e2).mono e3).x
    cases p with
    | lst xs =>
      obtain ⟨a1, vs, rfl, sh, r⟩ := rx.lst (I2.grow e3).sub
      exact slCan_of sl_list ⟨_, _, rfl, .inl (.inl sh), fun c hc => okF.now g3 ((e1.trans e2).trans e3) hc (r.cut l h)⟩
    | tup xs => obtain ⟨ys, ey, _⟩ := g3; cases ey
    | str xs => obtain ⟨ys, ey, _⟩ := g3; cases ey
    | _ => exact g3.elim
  · cases hc
theorem sf_list {es : C} (Ss : Sd B n N es) : SF B n N (.bi .list es) := by
  intro sc e hc X W E G0 H0 G H ρ σ Q I g
  obtain ⟨x, p, y, xs, pos, rfl, hk⟩ : ∃ x p y xs pos, e = .Call (.Name x p) (y :: xs) [] pos ∧ (sEq (biN .list) x && glB sc x && (ck B N es).a true sc (y :: xs) && (y :: xs).all notStar) = true := by
    have hc : eBi .list (ck B N es) false sc e = true := hc
    unfold eBi at hc
    split at hc
    · exact ⟨_, _, _, _, _, rfl, hc⟩
    · cases hc
  simp only [Bool.and_eq_true, List.all_cons] at hk
  obtain ⟨⟨⟨h1, h2⟩, h3⟩, h4, h5⟩ := hk
  obtain ⟨g1, g2, g3⟩ := glB_ok h2
  have h1' := sEq_ok h1
  subst h1'
  have g0 : GX (XB B X) W G H σ (okF X.K G H Q) ((ev (φn B n) B.κ es ρ).bind fun l => (lstOf l).bind fun xs => biP .list xs) := g
  have hm := E.blt (biN_mem .list)
  refine pe_can' (pe_callTy (callCan_ok X _) (E.gl g1) hm boot_list pa_can g3 g2 (star_of h4) (nostars h5)) ?_
  refine args_ok Ss h3 E I g0 fun ps G' H' vs ex I' rs g' => ?_
  have rs := rs.x
  unfold biP at g'
  split at g' <;> first | contradiction | skip
  · cases rs with
    | cons r t =>
      cases t
      obtain ⟨a, vs, rfl, sh, rr⟩ := r.lst I'.sub
      exact callCan_of call_list_of ⟨_, _, rfl, .inl (.inl (.inl sh)), fun c hc => okF.now g' ex hc rr⟩
  · cases rs with
    | cons r t =>
      cases t
      obtain ⟨a, vs, rfl, sg, sh, rr⟩ := r.tup I'.sub
      exact callCan_of call_list_of ⟨_, _, rfl, .inr sh, fun c hc => okF.now g' ex hc rr⟩
theorem okF.grow {K : PySem.W.Frag} {G H G1 H1 : Hp} {Q : VK} {p : PV} (k : okF K G H Q p) (e : Ext G H G1 H1) : okF K G1 H1 Q p := by
  obtain ⟨xs, ex, k⟩ := k
  exact ⟨xs, ex, fun G' H' a vs e2 h g hh rr => k G' H' a vs (e.trans e2) (e.hs.free h) g hh rr⟩
theorem sf_ife {c a b : C} (Sc : Sd B n N c) (Fa : SF B n N a) (Fb : SF B n N b) : SF B n N (.ife c a b) := by
  intro sc e hc X W E G0 H0 G H ρ σ Q I g
  have hc : eIfe (ck B N c) (ck B N a) (ck B N b) false sc e = true := hc
  unfold eIfe at hc
  split at hc
  · obtain ⟨h1, h2, h3⟩ := and3 hc
    refine pe_can' (pe_ifExp pt_can pe_can pe_can) ?_
    have e : (ev (φn B n) B.κ (.ife c a b) ρ) = (((ev (φn B n) B.κ c ρ).bind truP).bind fun t => if t then ev (φn B n) B.κ a ρ else ev (φn B n) B.κ b ρ) := by
      show ((ev (φn B n) B.κ c ρ).bind fun x => (truP x).bind fun t => if t then ev (φn B n) B.κ a ρ else ev (φn B n) B.κ b ρ) = _
      cases ev (φn B n) B.κ c ρ <;> rfl
    rw [e] at g
    refine Sc.t sc _ h1 X W E G0 H0 G H ρ σ _ I (g.bind.imp fun t _ g1 G1 H1 e1 => ?_)
    cases t with
    | true =>
      refine iteT ?_
      have g2 : GX (XB B X) W G H σ (okF X.K G H Q) (ev (φn B n) B.κ a ρ) := g1
      exact Fa sc _ h2 X W E G0 H0 G1 H1 ρ σ _ (I.grow e1) (GX.move g2 e1 fun q k => okF.grow k e1)
    | false =>
      refine iteF ?_
      have g2 : GX (XB B X) W G H σ (okF X.K G H Q) (ev (φn B n) B.κ b ρ) := g1
      exact Fb sc _ h3 X W E G0 H0 G1 H1 ρ σ _ (I.grow e1) (GX.move g2 e1 fun q k => okF.grow k e1)
  · cases hc
theorem okF_comp {K : PySem.W.Frag} {G H : Hp} {Q : VK} (ys : List PV) (k : okF K G H Q (.lst ys)) (G1 H1 : Hp) (e1 : Ext G H G1 H1) (D : Addr) (hD : H1 D = none) (G2 Hh : Hp) (accV : List V) (e2 : Ext G1 H1 G2 Hh) (g : G2 D = none) (h : Hh D = some (.lst accV)) (rr : Reps K G2 accV ys) : Q (.ref D) Hh := by
  obtain ⟨zs, ez, k⟩ := k
  cases ez
  exact k G2 Hh D accV (e1.trans e2) (e1.hs.free hD) g h rr
theorem sf_comp (vs : List Nat) (tg : C) {it cn el : C} (Si : Sd B n N it) (Sc : Sd B n N cn) (Se : Sd B n N el) : SF B n N (.comp vs tg it cn el) := fun sc e hc X W E G0 H0 G H ρ σ Q I g => comp_pe Si Sc Se hc E I g okF_comp
end
end Z
end
section
namespace Z
open PySem PySem.Spec PyProof.Rows L2
/-! ### statements: the look -/
structure CkS where
  s : Scope → Stmt → Bool
  b : Scope → List Stmt → Bool
def sNo : Scope → Stmt → Bool := fun _ _ => false
def mkS (s : Scope → Stmt → Bool) : CkS := ⟨s, fun _ _ => false⟩
def notComp : Expr → Bool
  | .ListComp _ _ _ _ => false
  | .SetComp _ _ _ _ => false
  | .DictComp _ _ _ _ _ => false
  | _ => true
/-- name = [..]: are the stores exchanged? -/
def swB (sc : Scope) (x : Str) (px : Pos) : Expr → Bool
  | .ListComp _ _ scope p => (match sc.names.lookup x with | some .local => true | _ => false) && (px.line == p.line) && !(scope.names.any fun (n, k) => n == x && (k == .local || k == .cell))
  | _ => false
def isLc : C → Bool
  | .comp _ _ _ _ _ => true
  | _ => false
def isCallC : C → Bool
  | .call _ _ => true
  | _ => false
section
variable (B : Tb) (N : List Str)
/-- a new dict -/
def frD : C → Bool
  | .dk _ => true
  | .bi .dict _ => true
  | _ => false
def sSet (i : Nat) (ce : Ck) (lc : Bool) : Scope → Stmt → Bool := fun sc st => match st with
  | .Assign [.Name x px] v _ => ixB N i x && locB sc x && ce.e false sc v && (notComp v || lc)
  | _ => false
def nameLn (sc : Scope) (l : Nat) : Expr → Option Str
  | .Name x p => if (match sc.names.lookup x with | some .local => true | _ => false) && p.line == l then some x else none
  | _ => none
/-- a, b = x, y | a, b, c = x, y, z with plain local names -/
def sPar (ts : C) (ce : Ck) : Scope → Stmt → Bool := fun sc st => match ts, st with
  | .cons (.tn i) (.cons (.tn j) .nil), .Assign [.Tuple [.Name x px, .Name y py] _ _] (.Tuple [v, w] _ _) _ => ixB N i x && ixB N j y && !(i == j) && (match sc.names.lookup x with | some .local => true | _ => false) && (match sc.names.lookup y with | some .local => true | _ => false) &&
      (px.line == py.line) && ce.a false sc [v, w] && !(foldedForSure 8 v && foldedForSure 8 w) && !(constantsAlone 8 v && constantsAlone 8 w)
  | .cons (.tn i) (.cons (.tn j) (.cons (.tn l) .nil)), .Assign [.Tuple [.Name x px, .Name y py, .Name z pz] _ _] (.Tuple [v, w, u] _ _) _ => ixB N i x && ixB N j y && ixB N l z && !(i == j) && !(i == l) && !(j == l) && (match sc.names.lookup x with | some .local => true | _ => false) && (match sc.names.lookup y with | some .local => true | _ => false) && (match sc.names.lookup z with | some .local => true | _ => false) &&
      (px.line == py.line) && (px.line == pz.line) && ce.a false sc [v, w, u] && !(foldedForSure 8 v && foldedForSure 8 w && foldedForSure 8 u) && !(constantsAlone 8 v && constantsAlone 8 w && constantsAlone 8 u)
  | _, _ => false
def notTupE : Expr → Bool
  | .Tuple _ _ _ => false
  | _ => true
/-- not all targets are plain local names of one line -/
def someCell (sc : Scope) (ts : List Expr) : Bool := (ts.filterMap fun
    | .Name id pos => if sc.names.lookup id == some .local && pos.line == (ts.head?.map (·.pos.line)).getD 0 then some id else none
    | _ => none).length != ts.length
/-- a, b = e, e no tuple display, or one of constants -/
def sAsg (tg : C) (ce : Ck) : Scope → Stmt → Bool := fun sc st => match st with
  | .Assign [.Tuple ts k p] v _ => ckG N sc tg (.Tuple ts k p) && ce.e false sc v && true && (notTupE v || someCell sc ts || (match v with | .Tuple vs _ _ => vs.all notStar && vs.all (foldedForSure 8) && !(vs.length != ts.length) | _ => false))
  | _ => false
def sApp (i : Nat) (m : Str) (ce : Ck) : Scope → Stmt → Bool := fun sc st => match st with
  | .Expr (.Call (.Attribute (.Name x _) a ap) [v] [] p) _ => ckVar N sc i x && sEq a m && ce.e false sc v && notStar v && (ap.endLine == p.line)
  | _ => false
/-- x[j].m(v) -/
def sApp2 (i : Nat) (m : Str) (cj ce : Ck) : Scope → Stmt → Bool := fun sc st => match st with
  | .Expr (.Call (.Attribute (.Subscript (.Name x _) j _) a ap) [v] [] p) _ => ckVar N sc i x && cj.e false sc j && notSlice j && sEq a m && ce.e false sc v && notStar v && (ap.endLine == p.line)
  | _ => false
def empB : Nat → List Expr → Bool
  | 0, [] => true
  | k + 1, .List [] _ :: es => empB k es
  | _, _ => false
/-- x, y = [], [] -/
def sOw0 (i j : Nat) : Scope → Stmt → Bool := fun sc st => match st with
  | .Assign [.Tuple [.Name x px, .Name y py] _ _] (.Tuple [v, w] _ _) _ => ixB N i x && ixB N j y && !(i == j) && (match sc.names.lookup x with | some .local => true | _ => false) && (match sc.names.lookup y with | some .local => true | _ => false) &&
      (px.line == py.line) && empB 2 [v, w] && !(foldedForSure 8 v && foldedForSure 8 w) && !(constantsAlone 8 v && constantsAlone 8 w)
  | _ => false
/-- x = [[], ..] -/
def sOw2 (i k : Nat) : Scope → Stmt → Bool := fun sc st => match st with
  | .Assign [.Name x _] (.List es _) _ => ixB N i x && locB sc x && empB k es
  | _ => false
def sPut (i : Nat) (cj ce : Ck) : Scope → Stmt → Bool := fun sc st => match st with
  | .Assign [.Subscript (.Name x _) j _] v _ => ckVar N sc i x && cj.e false sc j && notSlice j && ce.e false sc v && notComp v
  | _ => false
def sAug (i : Nat) (op : Bop) (ce : Ck) : Scope → Stmt → Bool := fun sc st => match st with
  | .AugAssign (.Name x _) o v _ => ixB N i x && locB sc x && bopB op o && ce.e false sc v && (match op with | .add => true | .sub => true | _ => false)
  | _ => false
def sAux (i : Nat) (cj : Ck) (op : Bop) (ce : Ck) : Scope → Stmt → Bool := fun sc st => match st with
  | .AugAssign (.Subscript (.Name x _) j _) o v _ => ckVar N sc i x && cj.e false sc j && notSlice j && bopB op o && ce.e false sc v && (match op with | .add => true | .sub => true | _ => false)
  | _ => false
def sExp (ce : Ck) : Scope → Stmt → Bool := fun sc st => match st with
  | .Expr v _ => ce.e false sc v && notComp v
  | _ => false
def sIf (cc : Ck) (a b : CkS) : Scope → Stmt → Bool := fun sc st => match st with
  | .If t x y _ => cc.t sc t && a.b sc x && b.b sc y
  | _ => false
def sFor (tg : C) (ci : Ck) (b : CkS) : Scope → Stmt → Bool := fun sc st => match st with
  | .For t i x [] _ => ckG N sc tg t && ci.i false (isTupE t) sc i && notSet i && b.b sc x
  | _ => false
def sWh (cc : Ck) (b : CkS) : Scope → Stmt → Bool := fun sc st => match st with
  | .While t x [] _ => cc.t sc t && b.b sc x
  | _ => false
def sRet (ce : Ck) : Scope → Stmt → Bool := fun sc st => match st with
  | .Return (some v) _ => ce.e false sc v
  | _ => false
def sReo (i : Nat) : Scope → Stmt → Bool := fun sc st => match st with
  | .Return (some (.Name x _)) _ => ckVar N sc i x
  | _ => false
def isNo (o : Option Str) : Bool := match o with
  | none => true
  | some _ => false
def sFp (tg : C) (i f : Nat) (a : Ck) (k : Int) (b : CkS) : Scope → Stmt → Bool := fun sc st => match st with
  | .For t (.Subscript (.Call (.Name x _) [e1, .Call (.Attribute (.Name y _) m ap) [] [] cp] [] _) (.Constant (.int k') _ _) _) body [] _ => ckG N sc tg t && nmB (B.fnm f) x && glB sc x && (B.TT f).isSome && a.e false sc e1 && notStar e1 && ckVar N sc i y && sEq m "pop" && (ap.endLine == cp.line) && decide (k = k') && b.b sc body
  | _ => false
def sFd (tg : C) (i : Nat) (a : Ck) (k : Int) (b : CkS) : Scope → Stmt → Bool := fun sc st => match st with
  | .For t (.Subscript (.Subscript e1 (.Call (.Attribute (.Name y _) m ap) [] [] cp) _) (.Constant (.int k') _ _) _) body [] _ => ckG N sc tg t && a.e false sc e1 && ckVar N sc i y && sEq m "pop" && (ap.endLine == cp.line) && decide (k = k') && b.b sc body
  | _ => false
def sRai0 (c : Nat) : Scope → Stmt → Bool := fun sc st => match st with
  | .Raise (some (.Call (.Name x _) [.Constant (.str _) _ _] [] _)) none _ => nmB (B.xnm c) x && glB sc x && isNo (B.xfl c)
  | _ => false
def sRai1 (c : Nat) (k : Ck) : Scope → Stmt → Bool := fun sc st => match st with
  | .Raise (some (.Call (.Name x _) [v] [] _)) none _ => nmB (B.xnm c) x && glB sc x && !isNo (B.xfl c) && k.e false sc v && notStar v
  | _ => false
def isNilC : C → Bool
  | .nil => true
  | _ => false
def sTok : Scope → Stmt → Bool := fun _ st => match st with
  | .Break _ => true
  | _ => false
def sTct : Scope → Stmt → Bool := fun _ st => match st with
  | .Continue _ => true
  | _ => false
def bNil : Scope → List Stmt → Bool := fun _ sts => match sts with
  | [] => true
  | _ => false
def isFrz : C → Bool
  | .sfrz _ => true
  | _ => false
def bCons (s : CkS) (ss : CkS) (frz : Bool) : Scope → List Stmt → Bool := fun sc sts => match frz, sts with
  | true, sts => ss.b sc sts
  | false, st :: r => s.s sc st && ss.b sc r
  | false, [] => false
def noIfe : C → Bool
  | .ife _ _ _ => false
  | .xf _ => false
  | .tup _ => false
  | .dsp _ => false
  | .nt a => noIfe a
  | .an a b => noIfe a && noIfe b
  | _ => true
def ckNm (ie : Option Str) (y : Str) : Bool := match ie with
  | some z => sEq y z
  | none => false
mutual
/-- in an except clause: ie: the error's name -/
def ckX (ie : Option Str) : C → Scope → Expr → Bool
  | .k p, _, .Constant c _ _ => ckK p c
  | .isx d, sc, .Call (.Name x _) [.Name y _, .Name z _] [] _ => sEq "isinstance" x && glB sc x && ckNm ie y && nmB (B.xnm d) z && glB sc z
  | .nt a, sc, .UnaryOp .Not x _ => ckX ie a sc x
  | .an a b, sc, .BoolOp .And [x, y] _ => ckX ie a sc x && ckX ie b sc y
  | .ife d a b, sc, .IfExp t x y _ => ckX ie d sc t && ckX ie a sc x && ckX ie b sc y && noIfe d
  | .xf d, _, .Attribute (.Name y _) f _ => ckNm ie y && nmB (B.xfl d) f
  | .tup es, sc, .Tuple vs _ _ => ckXs ie es sc vs && Nat.ble vs.length 1000
  | .dsp es, sc, .List vs _ => ckXs ie es sc vs && Nat.ble vs.length 1000
  | _, _, _ => false
def ckXs (ie : Option Str) : C → Scope → List Expr → Bool
  | .nil, _, [] => true
  | .cons a as, sc, x :: xs => ckX ie a sc x && notStar x && ckXs ie as sc xs
  | _, _, _ => false
end
def ckSu (ne : Option Str) (suite : C) (sc : Scope) (s0 : Stmt) : Bool := match suite, s0 with
  | .sret e, .Return (some v) _ => ckX B ne e sc v
  | .sapp j e, .Expr (.Call (.Attribute (.Name y _) a ap) [v] [] p) _ => ckVar N sc j y && sEq a "append" && ckX B ne e sc v && notStar v && (ap.endLine == p.line)
  | .jk, _ => true
  | _, _ => false
def ckNe (i : Option Nat) (ne : Option Str) (sc : Scope) : Bool := match i, ne with
  | none, none => true
  | some i, some ne => ixB N i ne && (match sc.names.lookup ne with | some .local => true | _ => false) && !(ne == ("__debug__" : Str)) && !(ne == ("__classdict__" : Str))
  | _, _ => false
/-- the except clauses -/
def ckH (sc : Scope) : C → List ExceptHandler → Bool
  | .hn, [] => true
  | .hc cls i s r, .ExceptHandler (some (.Name x _)) ne [s0] _ :: hs => nmB (B.xnm cls) x && glB sc x && ckNe N i ne sc && ckSu B N ne s sc s0 && ckH sc r hs
  | _, _ => false
def sTry (b : CkS) (hs : C) : Scope → Stmt → Bool := fun sc st => match st with
  | .Try body (h0 :: h) [] [] _ => b.b sc body && ckH B N sc hs (h0 :: h)
  | _ => false
def cks : C → CkS
  | .sset i e => mkS (sSet N i (ck B N e) (isLc e))
  | .sown i e => bif frC e || isCallC e then mkS (sSet N i (ck B N e) (isLc e)) else mkS sNo
  | .sasg (.tt ts) (.tup es) => mkS fun sc st => sPar N ts (ck B N es) sc st || sAsg N (.tt ts) (ck B N (.tup es)) sc st
  | .sasg tg e => mkS (sAsg N tg (ck B N e))
  | .sapp i e => mkS (sApp N i "append" (ck B N e))
  | .sext i e => mkS (sApp N i "extend" (ck B N e))
  | .sow0 i j => mkS (sOw0 N i j)
  | .sow2 i k => mkS (sOw2 N i k)
  | .sap2 i ix e => mkS (sApp2 N i "append" (ck B N ix) (ck B N e))
  | .sex2 i ix e => mkS (sApp2 N i "extend" (ck B N ix) (ck B N e))
  | .sput i ix e => mkS (sPut N i (ck B N ix) (ck B N e))
  | .saug i op e => mkS (sAug N i op (ck B N e))
  | .saux i ix op e => mkS (sAux N i (ck B N ix) op (ck B N e))
  | .sexp e => mkS (sExp (ck B N e))
  | .sif c a b => mkS (sIf (ck B N c) (cks a) (cks b))
  | .sfor tg it body => mkS (sFor N tg (ck B N it) (cks body))
  | .sfp tg i f a k body => mkS (sFp B N tg i f (ck B N a) k (cks body))
  | .sfd tg i a k body => mkS (sFd N tg i (ck B N a) k (cks body))
  | .swh c body => mkS (sWh (ck B N c) (cks body))
  | .sret e => mkS (sRet (ck B N e))
  | .sreo i => mkS (sReo N i)
  | .sref e => bif frC e then mkS (sRet (ck B N e)) else mkS sNo
  | .srai c es => bif isNilC es then mkS (sRai0 B c) else mkS (sRai1 B c (ck B N es))
  | .stry b hs => mkS (sTry B N (cks b) hs)
  | .sownd i e => bif frD e then mkS (sSet N i (ck B N e) false) else mkS sNo
  | .sdput i k e => mkS (sPut N i (ck B N k) (ck B N e))
  | .spop i ix => mkS (sApp N i "pop" (ck B N ix))
  | .jk => ⟨fun _ _ => true, fun _ _ => true⟩
  | .sbrk => mkS sTok
  | .scnt => mkS sTct
  | .snil => ⟨sNo, bNil⟩
  | .scons s ss => ⟨sNo, bCons (cks s) (cks ss) (isFrz s)⟩
  | _ => mkS sNo
end
/-! ### what a statement promises -/
def tcS (X : Cx) (st : Stmt) : TS := fun D σ H => ∀ (pins : List (Addr × Obj)) (s : Shared), Inv X pins σ H s → wpAny (model X.prog X.w) X.A (exec st X.env) (SP X pins D) X.xe s
def tcB (X : Cx) (sts : List Stmt) : TS := fun D σ H => ∀ (pins : List (Addr × Obj)) (s : Shared), Inv X pins σ H s → wpAny (model X.prog X.w) X.A (execs sts X.env) (SP X pins D) X.xe s
section
variable {X : Cx} {st : Stmt} {sts : List Stmt} {σ : L2.St} {H : Hp} {D : Ends}
theorem ps_can : PS X st (tcS X st) := ⟨fun pins s σ H D I h => h pins s I⟩
theorem pss_can : PSs X sts (tcB X sts) := ⟨fun pins s σ H D I h => h pins s I⟩
theorem ps_can' {t : TS} (h : PS X st t) (q : t D σ H) : tcS X st D σ H := fun pins s I => h.run pins s σ H D I q
theorem pss_can' {t : TS} (h : PSs X sts t) (q : t D σ H) : tcB X sts D σ H := fun pins s I => h.run pins s σ H D I q
end
def GS (K : PySem.W.Frag) (XI : Ends1) (W : WX) (D : Ends) (G0 H0 G : Hp) (o : Out) : Prop := match o with
  | .nx ρ => ∀ G' H' σ', SI K G0 H0 G' H' ρ σ' → Same G G' → D.nx σ' H'
  | .bk ρ => ∀ G' H' σ', SI K G0 H0 G' H' ρ σ' → Same G G' → D.bk σ' H'
  | .ct ρ => ∀ G' H' σ', SI K G0 H0 G' H' ρ σ' → Same G G' → D.ct σ' H'
  | .ret (.shr p) => ∀ G' H' v, Ext G0 H0 G' H' → Rep K G' v p → D.rt v H'
  | .ret (.own xs) => ∀ G' H' a vs, Ext G0 H0 G' H' → H0 a = none → G' a = none → H' a = some (.lst vs) → Reps K G' vs xs → D.rt (.ref a) H'
  | .ret (.obj ns fs) => ∀ G' H' a C dx us, Ext G0 H0 G' H' → H' a = some (.ins C dx (ns.zip us)) → ns.length = us.length → Cls K C → (∀ f ∈ ns, NoAttr K C f) → Reps K G' us fs → D.rt (.ref a) H'
  | .exc c p ρ => ∀ G' H' σ' cls d, SI K G0 H0 G' H' ρ σ' → Same G G' → XI c p cls d G' H' → W cls d σ' H'
  | .bad => False
section
variable {K : PySem.W.Frag} {XI : Ends1} {W : WX} {D : Ends} {G0 H0 G H G1 : Hp} {o : Out} {ρ : List Slot} {σ : L2.St}
theorem GS.move (g : GS K XI W D G0 H0 G o) (s : Same G G1) : GS K XI W D G0 H0 G1 o := by
  cases o with
  | nx ρ => exact fun G' H' σ' I e => g G' H' σ' I (s.trans e)
  | bk ρ => exact fun G' H' σ' I e => g G' H' σ' I (s.trans e)
  | ct ρ => exact fun G' H' σ' I e => g G' H' σ' I (s.trans e)
  | ret r => cases r <;> exact g
  | exc c p ρ => exact fun G' H' σ' cls d I e x => g G' H' σ' cls d I (s.trans e) x
  | bad => exact g
theorem GS.lift {α : Type} {r : Res α} {f : α → Out} (g : GS K XI W D G0 H0 G (lift r ρ f)) (I : SI K G0 H0 G H ρ σ) : GX XI W G H σ (fun a => GS K XI W D G0 H0 G (f a)) r := by
  cases r with
  | ok a => exact g
  | exc c p => exact fun G' H' cls d e x => g G' H' σ cls d (I.grow e) e.gs x
  | bad => exact g
end
/-- the context of a statement -/
structure SC (B : Tb) (n : Nat) (N : List Str) (sc : Scope) (X : Cx) (W : WX) : Prop where
  ec : EC B n N sc X W
  tc : TC N sc X
  own : PassesOwn (model X.prog X.w) X.A X.env X.xe
  stk : X.stack = X.env :: X.outer
  frm : X.env.frame = some X.env.locals
  fn : X.env.scope.kind = .function
section
variable (B : Tb) (n : Nat) (N : List Str)
abbrev evs (B : Tb) (n : Nat) : C → List Slot → Out := evS (φn B n) B.κ B.cx B.wf
def SS (c : C) : Prop := ∀ (sc : Scope) (st : Stmt), (cks B N c).s sc st = true → ∀ (X : Cx) (W : WX), SC B n N sc X W → ∀ (G0 H0 G H : Hp) (ρ : List Slot) (σ : L2.St) (D : Ends), SI X.K G0 H0 G H ρ σ →
  GS X.K (XB B X) W D G0 H0 G (evs B n c ρ) → tcS X st D σ H
def SBk (c : C) : Prop := ∀ (sc : Scope) (sts : List Stmt), (cks B N c).b sc sts = true → ∀ (X : Cx) (W : WX), SC B n N sc X W → ∀ (G0 H0 G H : Hp) (ρ : List Slot) (σ : L2.St) (D : Ends), SI X.K G0 H0 G H ρ σ →
  GS X.K (XB B X) W D G0 H0 G (evs B n c ρ) → tcB X sts D σ H
end
end Z
end
section
namespace Z
open PySem PySem.Spec PyProof.Rows L2
section
variable {B : Tb} {n : Nat} {N : List Str}
theorem sw_nc {v : Expr} (h : notComp v = true) (t : Option Expr) (l : Nat) (env : Env) : swapsWith v t l env = pure false := by
  cases v <;> first | rfl | cases h
theorem sw_lc {elt : Expr} {gs : List Comprehension} {scope : Scope} {p px : Pos} {x : Str} {l : Nat} {sc : Scope} {X : Cx} (hs : X.env.scope = sc) (hk : X.env.scope.kind = .function) :
    swapsWith (.ListComp elt gs scope p) (some (.Name x px)) l X.env = pure (swB sc x px (.ListComp elt gs scope p)) := by
  have e : swapsWith (.ListComp elt gs scope p) (some (.Name x px)) l X.env = pure (X.env.blockKind == .function && X.env.kindOf x == some .local && px.line == p.line && !(scope.names.any fun (n, k) => n == x && (k == .local || k == .cell))) := rfl
  rw [e]
  have hb : (X.env.blockKind == ScopeKind.function) = true := by
    unfold Env.blockKind
    rw [hk]; rfl
  have hl : (X.env.kindOf x == some NameKind.local) = (match sc.names.lookup x with | some .local => true | _ => false) := by
    show (X.env.scope.names.lookup x == some NameKind.local) = _
    rw [hs]
    cases sc.names.lookup x with
    | none => rfl
    | some k => cases k <;> rfl
  rw [hb, hl]
  rfl
/-- name = value -/
theorem set_plain {sc : Scope} {X : Cx} {W : WX} (S : SC B n N sc X W) {i : Nat} {x : Str} {px pos : Pos} {v : Expr} (h1 : ixB N i x = true) (h2 : locB sc x = true) (hs : swapsWith v (some (.Name x px)) pos.line X.env = pure false) {σ : L2.St} {H : Hp} {D : Ends}
    (h : tcE X v σ H fun y H1 => D.nx (σ.set i (some y)) H1) : tcS X (.Assign [.Name x px] v pos) D σ H := by
  have hl := S.tc.loc x (locB_ok h2)
  exact ps_can' (ps_set (i := i) (by rw [S.tc.nm]; exact S.tc.nd) (by rw [S.tc.nm]; exact ixB_ok h1) hl.1 pe_can hs hl.2) h
theorem set_comp {vs : List Nat} {tg : C} {it cn el : C} (Si : Sd B n N it) (Sc : Sd B n N cn) (Se : Sd B n N el) {sc : Scope} {X : Cx} {W : WX} (S : SC B n N sc X W) {i : Nat} {x : Str} {px pos : Pos} {v : Expr} (h1 : ixB N i x = true) (h2 : locB sc x = true)
    (hc : (ck B N (.comp vs tg it cn el)).e false sc v = true) {G0 H0 G H : Hp} {ρ : List Slot} {σ : L2.St} {D : Ends} {okP : PV → Prop} (I : SI X.K G0 H0 G H ρ σ) (g : GX (XB B X) W G H σ okP (ev (φn B n) B.κ (.comp vs tg it cn el) ρ))
    (hok : ∀ ys, okP (.lst ys) → ∀ G1 H1, Ext G H G1 H1 → ∀ Da, H1 Da = none → ∀ G2 Hh accV, Ext G1 H1 G2 Hh → G2 Da = none → Hh Da = some (.lst accV) → Reps X.K G2 accV ys → D.nx (σ.set i (some (.ref Da))) Hh) : tcS X (.Assign [.Name x px] v pos) D σ H := by
  have E := S.ec
  have hc0 := hc
  obtain ⟨elt, t, ie, ifs, scope, p, rfl, k1, k2, k3, k4, k5, k6, hset, k7⟩ := eComp_ok hc
  have hsw := sw_lc (elt := elt) (gs := [⟨t, ie, ifs, 0⟩]) (scope := scope) (p := p) (px := px) (x := x) (l := pos.line) E.scope S.fn
  cases hb : swB sc x px (.ListComp elt [⟨t, ie, ifs, 0⟩] scope p) with
  | false =>
    rw [hb] at hsw
    exact set_plain S h1 h2 hsw (comp_pe Si Sc Se hc0 E I g hok)
  | true =>
    rw [hb] at hsw
    obtain ⟨tt, ht, hl⟩ := comp_list (Q := fun y H1 => D.nx (σ.set i (some y)) H1) E Si Sc Se k1 k2 k3 k4 k6 k7 I g hok
    have hyl : X.env.scope.names.lookup x = some .local := by
      rw [E.scope]
      have hb : ((match sc.names.lookup x with | some .local => true | _ => false) && (px.line == p.line) && !(scope.names.any fun (n, k) => n == x && (k == .local || k == .cell))) = true := hb
      simp only [Bool.and_eq_true] at hb
      have hb1 := hb.1.1
      split at hb1
      · assumption
      · cases hb1
    exact ps_can' (ps_setLc (i := i) E.calm (by rw [E.nm]; exact E.nd) (by rw [E.nm]; exact ixB_ok h1) hyl hsw pi_can (own := ownOf N scope) (by rw [E.nm, E.scope]; exact blkOk_by k5)
      (fun s H Ca cl fp => ⟨fun pins s' σ H Q v u I r h => h s _ Ca cl fp pins s' _ I r⟩) ht (fun s H Ca cl fp => ⟨fun pins s' σ H Q J h => h s _ Ca cl fp pins s' J⟩) (fun x => notSet_folded hset X.env x)) hl
theorem isLc_of {c : C} (h : isLc c = true) : ∃ vs tg it cn el, c = .comp vs tg it cn el := by
  cases c <;> first | exact ⟨_, _, _, _, _, rfl⟩ | cases h
theorem sSet_ok {i : Nat} {ce : Ck} {lc : Bool} {sc : Scope} {st : Stmt} (h : sSet N i ce lc sc st = true) : ∃ x px v pos, st = .Assign [.Name x px] v pos ∧ ixB N i x = true ∧ locB sc x = true ∧ ce.e false sc v = true ∧ (notComp v = true ∨ lc = true) := by
  unfold sSet at h
  split at h
  · simp only [Bool.and_eq_true, Bool.or_eq_true] at h
    exact ⟨_, _, _, _, rfl, h.1.1.1, h.1.1.2, h.1.2, h.2⟩
  · cases h
theorem ss_sset (i : Nat) {e : C} (Se : Sd B n N e) (Sc : ∀ vs tg it cn el, e = .comp vs tg it cn el → Sd B n N it ∧ Sd B n N cn ∧ Sd B n N el) : SS B n N (.sset i e) := by
  intro sc st hc X W S G0 H0 G H ρ σ D I g
  obtain ⟨x, px, v, pos, rfl, h1, h2, h3, h4⟩ := sSet_ok hc
  have g0 : GS X.K (XB B X) W D G0 H0 G (lift (ev (φn B n) B.κ e ρ) ρ fun p => .nx (ρ.set i (.shr p))) := g
  have g1 : GX (XB B X) W G H σ (okE false X.K G H fun y H1 => D.nx (σ.set i (some y)) H1) (ev (φn B n) B.κ e ρ) := (g0.lift I).imp fun p _ k G' H' v ex r => k G' H' _ ((I.grow ex).setShr r) ex.gs
  rcases h4 with h4 | h4
  · exact set_plain S h1 h2 (sw_nc h4 _ _ _) (Se.e false sc v h3 X W S.ec G0 H0 G H ρ σ _ I g1)
  · obtain ⟨vs, tg, it, cn, el, rfl⟩ := isLc_of h4
    obtain ⟨s1, s2, s3⟩ := Sc vs tg it cn el rfl
    exact set_comp s1 s2 s3 S h1 h2 h3 I g1 okE_comp
/-- a new list of one's own is nobody's -/
theorem SI.newOwnG {K : PySem.W.Frag} {G0 H0 G H G' H' : Hp} {ρ : List Slot} {σ : L2.St} {i : Nat} {a : Addr} {ob : HO} {s0 : Slot} (I : SI K G0 H0 G H ρ σ) (ex : Ext G H G' H') (ha : H a = none) (g : G' a = none) (h : H' a = some ob) (r : OwnO K G' ob s0) :
    SI K G0 H0 G' H' (ρ.set i s0) (σ.set i (some (.ref a))) := by
  refine (I.grow ex).setOwnG g (I.ext.hs.free ha) h r (fun j t hj hr ht hs => ?_) (fun j xss c bs hj hr hs hc hm => ?_) (by cases s0 <;> first | rfl | exact r.elim)
  · obtain ⟨b, ob2, e1, _, _, e2, _⟩ := I.ownG hr ht
    rw [hs] at e1
    cases e1
    rw [ha] at e2; cases e2
  · obtain ⟨c', bs', e1, _, _, e2, _, e3⟩ := I.get2 hr
    rw [hs] at e1
    cases e1
    have z := ex.hs _ _ e2
    rw [hc] at z
    have eb : bs = bs' := ref_inj (by injection z with z; injection z)
    subst eb
    rcases List.mem_cons.mp hm with rfl | hm
    · rw [ha] at e2; cases e2
    · exact (e3.isome a hm).1 ha
theorem SI.newOwn {K : PySem.W.Frag} {G0 H0 G H G' H' : Hp} {ρ : List Slot} {σ : L2.St} {i : Nat} {a : Addr} {vs : List V} {xs : List PV} (I : SI K G0 H0 G H ρ σ) (ex : Ext G H G' H') (ha : H a = none) (g : G' a = none) (h : H' a = some (.lst vs)) (r : Reps K G' vs xs) :
    SI K G0 H0 G' H' (ρ.set i (.own xs)) (σ.set i (some (.ref a))) := by
  exact I.newOwnG ex ha g h ⟨vs, rfl, r⟩
theorem ss_sown (i : Nat) {e : C} (hck : cks B N (.sown i e) = mkS (sSet N i (ck B N e) (isLc e))) (Sf : isLc e = false → SF B n N e) (hcall : ∀ f es, e ≠ .call f es) (Sc : ∀ vs tg it cn el, e = .comp vs tg it cn el → Sd B n N it ∧ Sd B n N cn ∧ Sd B n N el) : SS B n N (.sown i e) := by
  intro sc st hc X W S G0 H0 G H ρ σ D I g
  rw [hck] at hc
  obtain ⟨x, px, v, pos, rfl, h1, h2, h3, h4⟩ := sSet_ok hc
  have g0 : GS X.K (XB B X) W D G0 H0 G (lift ((ev (φn B n) B.κ e ρ).bind lstOf) ρ fun xs => .nx (ρ.set i (.own xs))) := by
    have e1 : evs B n (.sown i e) ρ = (lift ((ev (φn B n) B.κ e ρ).bind lstOf) ρ fun xs => .nx (ρ.set i (.own xs))) := by
      cases e <;> first | rfl | exact absurd rfl (hcall _ _)
    rw [← e1]; exact g
  have g1 : GX (XB B X) W G H σ (okF X.K G H fun y H1 => D.nx (σ.set i (some y)) H1) (ev (φn B n) B.κ e ρ) := (g0.lift I).bind.imp fun p _ k => by
    cases p with
    | lst xs => exact ⟨xs, rfl, fun G' H' a vs ex ha ga hh r => k G' H' _ (I.newOwn ex ha ga hh r) ex.gs⟩
    | _ => exact k.elim
  cases hl : isLc e with
  | false =>
    rcases h4 with h4 | h4
    · exact set_plain S h1 h2 (sw_nc h4 _ _ _) (Sf hl sc v h3 X W S.ec G0 H0 G H ρ σ _ I g1)
    · rw [hl] at h4; cases h4
  | true =>
    obtain ⟨vs, tg, it, cn, el, rfl⟩ := isLc_of hl
    obtain ⟨s1, s2, s3⟩ := Sc vs tg it cn el rfl
    exact set_comp s1 s2 s3 S h1 h2 h3 I g1 okF_comp
/-- a call whose result is the caller's own -/
theorem call_own (f : Nat) {es : C} (Ss : Sd B n N es) {sc : Scope} {e : Expr} (hc : (ck B N (.call f es)).e false sc e = true) {X : Cx} {W : WX} (E : EC B n N sc X W) {G0 H0 G H : Hp} {ρ : List Slot} {σ : L2.St} (I : SI X.K G0 H0 G H ρ σ) {Q : VK} {okr : RV → Prop}
    (g : GX (XB B X) W G H σ okr (((ev (φn B n) B.κ es ρ).bind lstOf).bind fun xs => φn B n f xs))
    (hok : ∀ r, okr r → ∃ ys, r = .own ys ∧ ∀ G' H' a vs, Ext G H G' H' → H a = none → G' a = none → H' a = some (.lst vs) → Reps X.K G' vs ys → Q (.ref a) H') : tcE X e σ H Q := by
  obtain ⟨x, p, xs, pos, rfl, hk⟩ : ∃ x p xs pos, e = .Call (.Name x p) xs [] pos ∧ (nmB (B.fnm f) x && glB sc x && (ck B N es).a false sc xs && (B.TT f).isSome) = true := by
    have hc : eCall B f (ck B N es) false sc e = true := hc
    unfold eCall at hc
    split at hc
    · exact ⟨_, _, _, _, rfl, hc⟩
    · cases hc
  simp only [Bool.and_eq_true] at hk
  obtain ⟨⟨⟨h1, h2⟩, h3⟩, h4⟩ := hk
  obtain ⟨g1, g2, g3⟩ := glB_ok h2
  obtain ⟨d, hT⟩ := Option.isSome_iff_exists.mp h4
  obtain ⟨fa, fd, ps, m1, m2, m3, m4, F⟩ := E.wo.fns f x d (nmB_ok h1) hT
  have key : ∀ qs G' H' vs, Ext G H G' H' → SI X.K G0 H0 G' H' ρ σ → RBs false X.K G' H' vs qs → GX (XB B X) W G H σ okr (φn B n f qs) → spF B X.K (XB B X) n f d.np vs H' Q (WE W σ) := fun qs G' H' vs ex I' rs g' => by
    refine ⟨G', qs, I'.sub, rs.r, ?_, ?_⟩
    · refine callN_len (n := n) hT fun hb => ?_
      have hb : φn B n f qs = .bad := hb
      rw [hb] at g'
      exact g'
    · have g' : GX (XB B X) W G H σ okr (callN B.TT B.κ B.cx B.wf n f qs) := g'
      cases er : callN B.TT B.κ B.cx B.wf n f qs with
      | ok r =>
        rw [er] at g'
        obtain ⟨ys, rfl, k⟩ := hok r g'
        exact fun G2 H2 a vs e2 ha ga hh rr => k G2 H2 a vs (ex.trans e2) (ex.hs.free ha) ga hh rr
      | exc c o => rw [er] at g'; exact fun G2 H2 cls d e2 xx => g' G2 H2 cls d (ex.trans e2) xx
      | bad => rw [er] at g'; exact g'
  have g0 : GX (XB B X) W G H σ (fun l => GX (XB B X) W G H σ okr ((lstOf l).bind fun xs => φn B n f xs)) (ev (φn B n) B.κ es ρ) := g.bind.bind.imp fun l _ k => by
    cases l <;> exact k
  cases xs with
  | nil =>
    intro pins s J
    refine wpAny_Call_Name_kw (ld_glob J (E.gl g1) m1 ?_ g2)
    have hv : spF B X.K (XB B X) n f d.np [] H Q (WE W σ) := by
      cases es with
      | nil => exact key [] G H [] (Ext.refl I.sub) I .nil g0
      | cons a as => cases h3
      | _ => cases h3
    exact PySem.W.callWith_K0 J.kIn m2 (run_fnS (us := []) F E.room m3 (passAt E.takes σ) J .nil hv)
  | cons y ys =>
    have hs : (y :: ys).all notStar = true := allStar h3
    simp only [List.all_cons, Bool.and_eq_true] at hs
    refine pe_can' (pe_callS F E.room (E.gl g1) m1 m2 m3 (fun σ => passAt E.takes σ) pa_can g2 (star_of hs.1) (nostars hs.2)) ?_
    refine Ss.a false sc _ h3 X W E G0 H0 G H ρ σ _ I (g0.imp fun l _ g1 => ?_)
    cases l with
    | lst qs => exact ⟨qs, rfl, fun G1 H1 vs e1 rs => key qs G1 H1 vs e1 (I.grow e1) rs g1⟩
    | _ => exact g1.elim
theorem ss_sown_call (i f : Nat) {es : C} (Ss : Sd B n N es) : SS B n N (.sown i (.call f es)) := by
  intro sc st hc X W S G0 H0 G H ρ σ D I g
  obtain ⟨x, px, v, pos, rfl, h1, h2, h3, h4⟩ := sSet_ok hc
  have hnc : notComp v = true := by
    rcases h4 with h4 | h4
    · exact h4
    · cases h4
  refine set_plain S h1 h2 (sw_nc hnc _ _ _) ?_
  have g0 : GS X.K (XB B X) W D G0 H0 G (lift ((ev (φn B n) B.κ es ρ).bind lstOf) ρ fun xs => lift (φn B n f xs) ρ fun r => match r with
    | .own ys => .nx (ρ.set i (.own ys))
    | _ => .bad) := g
  have g1 : GX (XB B X) W G H σ (fun r => GS X.K (XB B X) W D G0 H0 G (match r with
    | RV.own ys => .nx (ρ.set i (.own ys))
    | _ => .bad)) (((ev (φn B n) B.κ es ρ).bind lstOf).bind fun xs => φn B n f xs) := by
    have g2 := g0.lift I
    cases e1 : (ev (φn B n) B.κ es ρ).bind lstOf with
    | ok xs =>
      rw [e1] at g2
      exact GS.lift g2 I
    | exc c o => rw [e1] at g2; exact g2
    | bad => rw [e1] at g2; exact g2
  refine call_own f Ss h3 S.ec I g1 fun r k => ?_
  cases r with
  | own ys => exact ⟨ys, rfl, fun G' H' a vs ex ha ga hh rr => k G' H' _ (I.newOwn ex ha ga hh rr) ex.gs⟩
  | shr p => exact k.elim
  | obj _ _ => exact k.elim
end
end Z
end
section
namespace Z
open PySem PySem.Spec PyProof.Rows L2
section
variable {B : Tb} {n : Nat} {N : List Str}
theorem locK {sc : Scope} {x : Str} (h : (match sc.names.lookup x with | some .local => true | _ => false) = true) : sc.names.lookup x = some .local := by
  split at h
  · assumption
  · cases h
theorem star_is (v : Expr) : (match v with | .Starred _ _ => true | _ => false) = !notStar v := by cases v <;> rfl
theorem dup2 {x y : Str} (h : x ≠ y) : [x, y].eraseDups.length = 2 := by
  have e : (y == x) = false := by simpa using Ne.symm h
  simp [List.eraseDups_cons, e]
theorem dup3 {x y z : Str} (h : x ≠ y) (h2 : x ≠ z) (h3 : y ≠ z) : [x, y, z].eraseDups.length = 3 := by
  have e1 : (y == x) = false := by simpa using Ne.symm h
  have e2 : (z == x) = false := by simpa using Ne.symm h2
  have e3 : (z == y) = false := by simpa using Ne.symm h3
  simp [List.eraseDups_cons, e1, e2, e3]
theorem blk_fn {X : Cx} (h : X.env.scope.kind = .function) : X.env.blockKind = .function := by
  unfold Env.blockKind
  rw [h]; rfl
theorem kind_of {X : Cx} {x : Str} (h : X.env.scope.names.lookup x = some .local) : X.env.kindOf x = some .local := h
theorem swap2 {X : Cx} {x y : Str} {px py pt pt2 : Pos} {kt k2 : Nat} {v w : Expr} (hk : X.env.scope.kind = .function) (hx : X.env.scope.names.lookup x = some .local) (hy : X.env.scope.names.lookup y = some .local) (hl : (px.line == py.line) = true) (hne : x ≠ y) (s1 : notStar v = true) (s2 : notStar w = true)
    (f : (foldedForSure 8 v && foldedForSure 8 w) = false) (c : (constantsAlone 8 v && constantsAlone 8 w) = false) : swappedStores [.Tuple [.Name x px, .Name y py] kt pt] (.Tuple [v, w] k2 pt2) X.env = pure (some [x, y]) := by
  have hl' : px.line = py.line := by simpa using hl
  unfold swappedStores
  have e1 : ([v, w].any fun | .Starred .. => true | _ => false) = false := by
    simp only [List.any_cons, List.any_nil, Bool.or_false]
    rw [star_is, star_is, s1, s2]; rfl
  have e2 : ([Expr.Name x px, Expr.Name y py].filterMap fun
    | .Name id pos => if X.env.kindOf id == some .local && pos.line == px.line then some id else none
    | _ => none) = [x, y] := by
    simp [List.filterMap_cons, kind_of hx, kind_of hy, hl']
  have e3 : ([v, w].all (foldedForSure 8)) = false := by simpa using f
  have e4 : ([v, w].all (constantsAlone 8)) = false := by simpa using c
  have hb := blk_fn hk
  show (if (!([Expr.Name x px, Expr.Name y py].length == 2 || [Expr.Name x px, Expr.Name y py].length == 3) || [v, w].length != [Expr.Name x px, Expr.Name y py].length || X.env.blockKind != .function) = true then pure none else
    (if ([v, w].any fun | .Starred .. => true | _ => false) = true then pure none else
      (if (([Expr.Name x px, Expr.Name y py].filterMap fun
        | .Name id pos => if X.env.kindOf id == some .local && pos.line == px.line then some id else none
        | _ => none).length != [Expr.Name x px, Expr.Name y py].length || ([Expr.Name x px, Expr.Name y py].filterMap fun
        | .Name id pos => if X.env.kindOf id == some .local && pos.line == px.line then some id else none
        | _ => none).eraseDups.length != ([Expr.Name x px, Expr.Name y py].filterMap fun
        | .Name id pos => if X.env.kindOf id == some .local && pos.line == px.line then some id else none
        | _ => none).length) = true then pure none else
        (if ([v, w].all (foldedForSure 8)) = true then pure none else
          (if ([v, w].all (constantsAlone 8)) = true then _ else _))))) = _
  rw [e1, e2, e3, e4, hb, dup2 hne]
  rw [if_neg (by simp), if_neg (by simp), if_neg (by simp), if_neg (by simp), if_neg (by simp)]
  show pure (some ([Expr.Name x px, Expr.Name y py].filterMap fun
    | .Name id pos => if X.env.kindOf id == some .local && pos.line == px.line then some id else none
    | _ => none)) = _
  rw [e2]
theorem swap3 {X : Cx} {x y z : Str} {px py pz pt pt2 : Pos} {kt k2 : Nat} {v w u : Expr} (hk : X.env.scope.kind = .function) (hx : X.env.scope.names.lookup x = some .local) (hy : X.env.scope.names.lookup y = some .local) (hz : X.env.scope.names.lookup z = some .local) (hl : (px.line == py.line) = true) (hl2 : (px.line == pz.line) = true)
    (hne : x ≠ y) (hne2 : x ≠ z) (hne3 : y ≠ z) (s1 : notStar v = true) (s2 : notStar w = true) (s3 : notStar u = true)
    (f : (foldedForSure 8 v && foldedForSure 8 w && foldedForSure 8 u) = false) (c : (constantsAlone 8 v && constantsAlone 8 w && constantsAlone 8 u) = false) : swappedStores [.Tuple [.Name x px, .Name y py, .Name z pz] kt pt] (.Tuple [v, w, u] k2 pt2) X.env = pure (some [x, y, z]) := by
  have hl' : px.line = py.line := by simpa using hl
  have hl2' : px.line = pz.line := by simpa using hl2
  unfold swappedStores
  have e1 : ([v, w, u].any fun | .Starred .. => true | _ => false) = false := by
    simp only [List.any_cons, List.any_nil, Bool.or_false]
    rw [star_is, star_is, star_is, s1, s2, s3]; rfl
  have e2 : ([Expr.Name x px, Expr.Name y py, Expr.Name z pz].filterMap fun
    | .Name id pos => if X.env.kindOf id == some .local && pos.line == px.line then some id else none
    | _ => none) = [x, y, z] := by
    simp [List.filterMap_cons, kind_of hx, kind_of hy, kind_of hz, ← hl', ← hl2']
  have e3 : ([v, w, u].all (foldedForSure 8)) = false := by simpa [Bool.and_assoc] using f
  have e4 : ([v, w, u].all (constantsAlone 8)) = false := by simpa [Bool.and_assoc] using c
  have hb := blk_fn hk
  show (if (!([Expr.Name x px, Expr.Name y py, Expr.Name z pz].length == 2 || [Expr.Name x px, Expr.Name y py, Expr.Name z pz].length == 3) || [v, w, u].length != [Expr.Name x px, Expr.Name y py, Expr.Name z pz].length || X.env.blockKind != .function) = true then pure none else
    (if ([v, w, u].any fun | .Starred .. => true | _ => false) = true then pure none else
      (if (([Expr.Name x px, Expr.Name y py, Expr.Name z pz].filterMap fun
        | .Name id pos => if X.env.kindOf id == some .local && pos.line == px.line then some id else none
        | _ => none).length != [Expr.Name x px, Expr.Name y py, Expr.Name z pz].length || ([Expr.Name x px, Expr.Name y py, Expr.Name z pz].filterMap fun
        | .Name id pos => if X.env.kindOf id == some .local && pos.line == px.line then some id else none
        | _ => none).eraseDups.length != ([Expr.Name x px, Expr.Name y py, Expr.Name z pz].filterMap fun
        | .Name id pos => if X.env.kindOf id == some .local && pos.line == px.line then some id else none
        | _ => none).length) = true then pure none else
        (if ([v, w, u].all (foldedForSure 8)) = true then pure none else
          (if ([v, w, u].all (constantsAlone 8)) = true then _ else _))))) = _
  rw [e1, e2, e3, e4, hb, dup3 hne hne2 hne3]
  rw [if_neg (by simp), if_neg (by simp), if_neg (by simp), if_neg (by simp), if_neg (by simp)]
  show pure (some ([Expr.Name x px, Expr.Name y py, Expr.Name z pz].filterMap fun
    | .Name id pos => if X.env.kindOf id == some .local && pos.line == px.line then some id else none
    | _ => none)) = _
  rw [e2]
theorem swapN {ts vs : List Expr} {k k2 : Nat} {p p2 : Pos} {env : Env} (h1 : vs.all notStar = true) (h : vs.all (foldedForSure 8) = true) : swappedStores [.Tuple ts k p] (.Tuple vs k2 p2) env = pure none := by
  unfold swappedStores
  show (if _ then pure none else (if _ then pure none else (if _ then pure none else (if vs.all (foldedForSure 8) = true then pure none else _)))) = _
  rw [if_pos h]
  split
  · rfl
  · split
    · rfl
    · split <;> rfl
def locNm (env : Env) (ts : List Expr) : List Str := ts.filterMap fun
    | .Name id pos => if env.kindOf id == some .local && pos.line == (ts.head?.map (·.pos.line)).getD 0 then some id else none
    | _ => none
theorem swapC {ts vs : List Expr} {k k2 : Nat} {p p2 : Pos} {env : Env} (h : someCell env.scope ts = true) : swappedStores [.Tuple ts k p] (.Tuple vs k2 p2) env = pure none := by
  have e : ((locNm env ts).length != ts.length || (locNm env ts).eraseDups.length != (locNm env ts).length) = true := Bool.or_eq_true_iff.mpr (.inl h)
  unfold swappedStores
  show (if _ then pure none else (if _ then pure none else (if ((locNm env ts).length != ts.length || (locNm env ts).eraseDups.length != (locNm env ts).length) = true then pure none else _))) = _
  rw [if_pos e]
  split
  · rfl
  · split <;> rfl
theorem swapO {ts : List Expr} {k : Nat} {p : Pos} {v : Expr} {env : Env} (h : notTupE v = true) : swappedStores [.Tuple ts k p] v env = pure none := by
  cases v <;> first | rfl | cases h
theorem ne_of_ix {i j : Nat} {x y : Str} (nd : N.Nodup) (hi : N[i]? = some x) (hj : N[j]? = some y) (h : i ≠ j) : x ≠ y := fun e => by
  subst e
  exact h (nodup_ix nd hi hj)
theorem asgP_exc {c : Nat} {o : Option PV} : ∀ (tg : C) (q : PV) (ρ : List Slot), asgP tg q ρ ≠ .exc c o := by
  intro tg
  induction tg with
  | tn i => intro q ρ h; cases h
  | tt ts ih =>
    intro q ρ h
    cases q with
    | tup xs => exact ih (.tup xs) ρ h
    | lst xs => exact ih (.tup xs) ρ h
    | _ => cases h
  | nil =>
    intro q ρ h
    cases q with
    | tup xs => cases xs <;> cases h
    | _ => cases h
  | cons a b iha ihb =>
    intro q ρ h
    cases q with
    | tup xs =>
      cases xs with
      | nil => cases h
      | cons x xs =>
        have h : ((asgP a x ρ).bind fun ρ' => asgP b (.tup xs) ρ') = .exc c o := h
        cases e : asgP a x ρ with
        | ok ρ1 => rw [e] at h; exact ihb (.tup xs) ρ1 h
        | exc c' o' => exact iha x ρ (e.trans (by rw [e] at h; exact h))
        | bad => rw [e] at h; cases h
    | _ => cases h
  | _ => intro q ρ h; cases h
theorem sw_tup (v : Expr) {ts : List Expr} {k : Nat} {p : Pos} {l : Nat} {env : Env} : swapsWith v (some (.Tuple ts k p)) l env = pure false := by
  cases v <;> rfl
theorem asg_ok {tg e : C} (Se : Sd B n N e) {sc : Scope} {st : Stmt} (hc : sAsg N tg (ck B N e) sc st = true) {X : Cx} {W : WX} (S : SC B n N sc X W) {G0 H0 G H : Hp} {ρ : List Slot} {σ : L2.St} {D : Ends} (I : SI X.K G0 H0 G H ρ σ)
    (g : GS X.K (XB B X) W D G0 H0 G (lift (ev (φn B n) B.κ e ρ) ρ fun p => lift (asgP tg p ρ) ρ fun ρ' => .nx ρ')) : tcS X st D σ H := by
  unfold sAsg at hc
  split at hc
  · rename_i ts k p v pos
    simp only [Bool.and_eq_true] at hc
    obtain ⟨⟨⟨h1, h2⟩, h3⟩, h4⟩ := hc
    have hw : swappedStores [.Tuple ts k p] v X.env = pure none := by
      rw [Bool.or_eq_true, Bool.or_eq_true] at h4
      rcases h4 with (h4 | h4) | h4
      · exact swapO h4
      · by_cases hv : notTupE v = true
        · exact swapO hv
        · cases v with
          | Tuple vs k2 p2 => exact swapC (by rw [S.ec.scope]; exact h4)
          | _ => exact absurd rfl hv
      · split at h4
        · simp only [Bool.and_eq_true] at h4
          exact swapN h4.1.1 h4.1.2
        · cases h4
    refine ps_can' (ps_asg pe_can pg_can (show swapsWith v (some (.Tuple ts k p)) pos.line X.env = pure false from sw_tup v) hw rfl) ?_
    refine Se.e false sc v h2 X W S.ec G0 H0 G H ρ σ _ I ((g.lift I).imp fun q _ k G1 H1 u e1 r1 => ?_)
    have I1 := I.grow e1
    cases ea : asgP tg q ρ with
    | ok ρ' =>
      rw [ea] at k
      exact (tgt_both (G0 := G0) (H0 := H0) (G := G1) (H := H1) S.tc tg).1 _ h1 q u ρ ρ' σ _ ea I1 r1 fun σ' I' _ _ => k G1 H1 σ' I' e1.gs
    | exc c o => exact absurd ea (asgP_exc tg q ρ)
    | bad => rw [ea] at k; exact k.elim
  · cases hc
theorem ss_sasg_plain {tg e : C} (Se : Sd B n N e) (hck : cks B N (.sasg tg e) = mkS (sAsg N tg (ck B N e))) : SS B n N (.sasg tg e) := by
  intro sc st hc X W S G0 H0 G H ρ σ D I g
  rw [hck] at hc
  exact asg_ok Se hc S I g
theorem ss_sasg_tup {ts es : C} (Se : Sd B n N (.tup es)) (Ss : Sd B n N es) : SS B n N (.sasg (.tt ts) (.tup es)) := by
  intro sc st hc X W S G0 H0 G H ρ σ D I g
  have hc : (sPar N ts (ck B N es) sc st || sAsg N (.tt ts) (ck B N (.tup es)) sc st) = true := hc
  rw [Bool.or_eq_true] at hc
  rcases hc with hc | hc
  · have E := S.ec
    have g0 : GS X.K (XB B X) W D G0 H0 G (lift ((ev (φn B n) B.κ es ρ).bind fun l => (lstOf l).bind fun xs => .ok (.tup xs)) ρ fun p => lift (asgP (.tt ts) p ρ) ρ fun ρ' => .nx ρ') := g
    have g1 := (g0.lift I).bind
    unfold sPar at hc
    split at hc
    · rename_i i j x px y py kt pt v w k2 pt2 pos _
      simp only [Bool.and_eq_true, Bool.not_eq_true'] at hc
      obtain ⟨⟨⟨⟨⟨⟨⟨⟨h1, h2⟩, h3⟩, h4⟩, h5⟩, h6⟩, h7⟩, h8⟩, h9⟩ := hc
      have nx := ixB_ok h1
      have ny := ixB_ok h2
      have hij : i ≠ j := fun e => by subst e; simp at h3
      have hs := allStar h7
      simp only [List.all_cons, List.all_nil, Bool.and_eq_true] at hs
      have lx : X.env.scope.names.lookup x = some .local := by rw [E.scope]; exact locK h4
      have ly : X.env.scope.names.lookup y = some .local := by rw [E.scope]; exact locK h5
      refine ps_can' (ps_par (i := i) (j := j) E.calm (by rw [E.nm]; exact E.nd) (by rw [E.nm]; exact nx) (by rw [E.nm]; exact ny) hij lx ly pa_can (swap2 S.fn lx ly h6 (ne_of_ix E.nd nx ny hij) hs.1 hs.2.1 h8 h9) rfl) ?_
      refine Ss.a false sc _ h7 X W E G0 H0 G H ρ σ _ I (g1.imp fun l el k => ?_)
      cases l with
      | lst ps =>
        have en := argsLen (c := es) h7 el
        refine ⟨ps, rfl, fun G1 H1 vs e1 rs => ?_⟩
        have I1 := I.grow e1
        cases rs with
        | nil => cases en
        | cons r1 t1 =>
          cases t1 with
          | nil => cases en
          | cons r2 t2 =>
            cases t2 with
            | nil => exact ⟨_, _, rfl, k G1 H1 _ ((I1.setShr r1).setShr r2) e1.gs⟩
            | cons r3 t3 => cases en
      | _ => exact k.elim
    · rename_i i j l x px y py z pz kt pt v w u k2 pt2 pos _
      simp only [Bool.and_eq_true, Bool.not_eq_true'] at hc
      obtain ⟨⟨⟨⟨⟨⟨⟨⟨⟨⟨⟨⟨⟨h1, h2⟩, h2'⟩, h3⟩, h3'⟩, h3''⟩, h4⟩, h5⟩, h5'⟩, h6⟩, h6'⟩, h7⟩, h8⟩, h9⟩ := hc
      have nx := ixB_ok h1
      have ny := ixB_ok h2
      have nz := ixB_ok h2'
      have hij : i ≠ j := fun e => by subst e; simp at h3
      have hil : i ≠ l := fun e => by subst e; simp at h3'
      have hjl : j ≠ l := fun e => by subst e; simp at h3''
      have hs := allStar h7
      simp only [List.all_cons, List.all_nil, Bool.and_eq_true] at hs
      have lx : X.env.scope.names.lookup x = some .local := by rw [E.scope]; exact locK h4
      have ly : X.env.scope.names.lookup y = some .local := by rw [E.scope]; exact locK h5
      have lz : X.env.scope.names.lookup z = some .local := by rw [E.scope]; exact locK h5'
      refine ps_can' (ps_par3 (i := i) (j := j) (l := l) E.calm (by rw [E.nm]; exact E.nd) (by rw [E.nm]; exact nx) (by rw [E.nm]; exact ny) (by rw [E.nm]; exact nz) hij hil hjl lx ly lz pa_can
        (swap3 S.fn lx ly lz h6 h6' (ne_of_ix E.nd nx ny hij) (ne_of_ix E.nd nx nz hil) (ne_of_ix E.nd ny nz hjl) hs.1 hs.2.1 hs.2.2.1 h8 h9) rfl) ?_
      refine Ss.a false sc _ h7 X W E G0 H0 G H ρ σ _ I (g1.imp fun l' el k => ?_)
      cases l' with
      | lst ps =>
        have en := argsLen (c := es) h7 el
        refine ⟨ps, rfl, fun G1 H1 vs e1 rs => ?_⟩
        have I1 := I.grow e1
        cases rs with
        | nil => cases en
        | cons r1 t1 =>
          cases t1 with
          | nil => cases en
          | cons r2 t2 =>
            cases t2 with
            | nil => cases en
            | cons r3 t3 =>
              cases t3 with
              | nil => exact ⟨_, _, _, rfl, k G1 H1 _ (((I1.setShr r1).setShr r2).setShr r3) e1.gs⟩
              | cons r4 t4 => cases en
      | _ => exact k.elim
    · cases hc
  · exact asg_ok Se hc S I g
/-! ### lists of one's own are changed -/
theorem app_expr {sc : Scope} {X : Cx} {W : WX} (E : EC B n N sc X W) {i : Nat} {m : Str} {id : String} {x : Str} {p0 ap p pos : Pos} {v : Expr} (h1 : ckVar N sc i x = true) (hs : notStar v = true) (hl : (ap.endLine == p.line) = true) {r : V → List V → Hp → VK → Prop} (slot : PySem.Slot "list" m id) (hty : typeOf (.builtin id) = pure (.type "method_descriptor")) (hm : MtR X id r)
    {G0 H0 G H : Hp} {ρ : List Slot} {σ : L2.St} {xs : List PV} (I : SI X.K G0 H0 G H ρ σ) (hi : ρ[i]? = some (.own xs)) {D : Ends} (k : ∀ a vs, σ[i]? = some (some (.ref a)) → H a = some (.lst vs) → tcE X v σ H fun y H1 => r (.ref a) [y] H1 fun _ H2 => D.nx σ H2) :
    tcS X (.Expr (.Call (.Attribute (.Name x p0) m ap) [v] [] p) pos) D σ H := by
  obtain ⟨a, vs, ha, ga, h0, hh, rr⟩ := I.own hi
  refine ps_can' (ps_expr (pe_bm PySem.F.plainAttrs_list slot hty hm pe_can (pa_cons pe_can pa_nil (star_of hs)) rfl (by rw [star_of hs]; rfl) hl (star_of hs) rfl) rfl) ?_
  refine name_ok E h1 ha ?_
  exact ⟨.inl ⟨rfl, vs, .inl (.inl hh)⟩, k a vs ha hh⟩
theorem sApp_ok {i : Nat} {m : Str} {ce : Ck} {sc : Scope} {st : Stmt} (h : sApp N i m ce sc st = true) : ∃ x p0 ap v p pos, st = .Expr (.Call (.Attribute (.Name x p0) m ap) [v] [] p) pos ∧ ckVar N sc i x = true ∧ ce.e false sc v = true ∧ notStar v = true ∧ (ap.endLine == p.line) = true := by
  unfold sApp at h
  split at h
  · simp only [Bool.and_eq_true] at h
    obtain ⟨⟨⟨⟨h1, h2⟩, h3⟩, h4⟩, h5⟩ := h
    have e := sEq_ok h2
    subst e
    exact ⟨_, _, _, _, _, _, rfl, h1, h3, h4, h5⟩
  · cases h
theorem ownAt_ok {ρ : List Slot} {i : Nat} {K : PySem.W.Frag} {XI : Ends1} {W : WX} {D : Ends} {G0 H0 G : Hp} {f : List PV → Out} (g : GS K XI W D G0 H0 G (lift (ownAt ρ i) ρ f)) : ∃ xs, ρ[i]? = some (.own xs) ∧ GS K XI W D G0 H0 G (f xs) := by
  unfold ownAt at g
  split at g
  · rename_i xs e
    exact ⟨xs, e, g⟩
  · exact g.elim
theorem ss_sapp (i : Nat) {e : C} (Se : Sd B n N e) : SS B n N (.sapp i e) := by
  intro sc st hc X W S G0 H0 G H ρ σ D I g
  obtain ⟨x, p0, ap, v, p, pos, rfl, h1, h2, h3, h4⟩ := sApp_ok hc
  have g0 : GS X.K (XB B X) W D G0 H0 G (lift (ownAt ρ i) ρ fun xs => lift (ev (φn B n) B.κ e ρ) ρ fun p => if fits (xs.length + 1) then .nx (ρ.set i (.own (xs ++ [p]))) else .bad) := g
  obtain ⟨xs, hi, g1⟩ := ownAt_ok g0
  refine app_expr S.ec h1 h3 h4 PySem.F.slot_list_append PySem.F.type_list_append mt_append I hi fun a vs ha hh => ?_
  refine Se.e false sc v h2 X W S.ec G0 H0 G H ρ σ _ I ((g1.lift I).imp fun q _ k G1 H1 u e1 r1 => ?_)
  have I1 := I.grow e1
  split at k
  · rename_i hf
    obtain ⟨a', ws, ha', _, _, hh', rr'⟩ := I1.own hi
    rw [ha] at ha'; cases ha'
    refine ⟨a, ws, u, rfl, rfl, hh', ?_, ?_⟩
    · rw [rr'.length]; exact fits_le hf
    · exact k G1 _ σ (I1.write hi ha (rr'.append (.cons r1 .nil))) e1.gs
  · exact k.elim
theorem ss_sext (i : Nat) {e : C} (Se : Sd B n N e) : SS B n N (.sext i e) := by
  intro sc st hc X W S G0 H0 G H ρ σ D I g
  obtain ⟨x, p0, ap, v, p, pos, rfl, h1, h2, h3, h4⟩ := sApp_ok hc
  have g0 : GS X.K (XB B X) W D G0 H0 G (lift (ownAt ρ i) ρ fun xs => lift ((ev (φn B n) B.κ e ρ).bind lstOf) ρ fun ys => if fits (xs.length + ys.length) then .nx (ρ.set i (.own (xs ++ ys))) else .bad) := g
  obtain ⟨xs, hi, g1⟩ := ownAt_ok g0
  refine app_expr S.ec h1 h3 h4 PySem.F.slot_list_extend PySem.F.type_list_extend mt_extend I hi fun a vs ha hh => ?_
  refine Se.e false sc v h2 X W S.ec G0 H0 G H ρ σ _ I ((g1.lift I).bind.imp fun q _ k G1 H1 u e1 r1 => ?_)
  have I1 := I.grow e1
  cases q with
  | lst ys =>
    have k : GS X.K (XB B X) W D G0 H0 G (if fits (xs.length + ys.length) then .nx (ρ.set i (.own (xs ++ ys))) else .bad) := k
    split at k
    · rename_i hf
      obtain ⟨a', ws, ha', _, _, hh', rr'⟩ := I1.own hi
      rw [ha] at ha'; cases ha'
      cases r1 with
      | lst hb rb =>
        refine ⟨a, _, ws, _, rfl, rfl, hh', I1.sub _ _ hb, ?_, ?_⟩
        · rw [rr'.length, rb.length]; exact fits_le hf
        · exact k G1 _ σ (I1.write hi ha (rr'.append rb)) e1.gs
    · exact k.elim
  | _ => exact k.elim
end
end Z
end
section
namespace Z
open PySem PySem.Spec PyProof.Rows L2
section
variable {B : Tb} {n : Nat} {N : List Str}
theorem ss_sput (i : Nat) {ix e : C} (Sx : Sd B n N ix) (Se : Sd B n N e) : SS B n N (.sput i ix e) := by
  intro sc st hc X W S G0 H0 G H ρ σ D I g
  obtain ⟨x, p0, j, p1, v, pos, rfl, h1, h2, h3, h4, h5⟩ : ∃ x p0 j p1 v pos, st = .Assign [.Subscript (.Name x p0) j p1] v pos ∧ ckVar N sc i x = true ∧ (ck B N ix).e false sc j = true ∧ notSlice j = true ∧ (ck B N e).e false sc v = true ∧ notComp v = true := by
    have hc : sPut N i (ck B N ix) (ck B N e) sc st = true := hc
    unfold sPut at hc
    split at hc
    · simp only [Bool.and_eq_true] at hc
      exact ⟨_, _, _, _, _, _, rfl, hc.1.1.1.1, hc.1.1.1.2, hc.1.1.2, hc.1.2, hc.2⟩
    · cases hc
  have ha : ∀ u, assign (.Subscript (.Name x p0) j p1) X.env u = (do let ov ← holding [u] (eval (.Name x p0) X.env); let iv ← holding [u, ov] (eval j X.env); standAt p1; holding [u, ov, iv] (setItem ov iv u); release [u, ov, iv] []) := fun u => by
    cases j <;> first | rfl | cases h3
  have hw : swappedStores [.Subscript (.Name x p0) j p1] v X.env = pure none := rfl
  refine ps_can' (ps_asg pe_can (pg_sub pe_can pe_can set_list ha) (show swapsWith v (some (.Subscript (.Name x p0) j p1)) pos.line X.env = pure false from sw_nc h5 _ _ _) hw rfl) ?_
  have g0 : GS X.K (XB B X) W D G0 H0 G (lift (ev (φn B n) B.κ e ρ) ρ fun p => lift (ownAt ρ i) ρ fun xs => lift (ev (φn B n) B.κ ix ρ) ρ fun j => match j with
    | .int n => (match ixN xs.length n with | some m => .nx (ρ.set i (.own (xs.set m p))) | none => .bad)
    | _ => .bad) := g
  refine Se.e false sc v h4 X W S.ec G0 H0 G H ρ σ _ I ((g0.lift I).imp fun q _ k G1 H1 u e1 r1 => ?_)
  have I1 := I.grow e1
  obtain ⟨xs, hi, k⟩ := ownAt_ok k
  obtain ⟨a, vs, ha', ga, h0, hh, rr⟩ := I1.own hi
  refine name_ok S.ec h1 ha' ?_
  have k1 := GS.move k e1.gs
  refine Sx.e false sc j h2 X W S.ec G0 H0 G1 H1 ρ σ _ I1 ((k1.lift I1).imp fun q2 _ k2 G2 H2 w e2 r2 => ?_)
  have I2 := I1.grow e2
  cases q2 with
  | int m =>
    cases r2
    have k2 : GS X.K (XB B X) W D G0 H0 G1 (match ixN xs.length m with | some m => .nx (ρ.set i (.own (xs.set m q))) | none => .bad) := k2
    split at k2
    · rename_i m' hm
      obtain ⟨a2, ws, ha2, _, _, hh2, rr2⟩ := I2.own hi
      rw [ha'] at ha2; cases ha2
      refine ⟨a, ws, m, m', rfl, rfl, hh2, by rw [rr2.length]; exact hm, ?_⟩
      exact k2 G2 _ σ (I2.write hi ha' (Reps.set (r1.mono e2) m' rr2)) e2.gs
    · exact k2.elim
  | _ => exact k2.elim
def ipCan (X : Cx) (op : Operator) : TIp := fun x y H Q => ∀ (pins : List (Addr × Obj)) (s : Shared) (σ : L2.St) (v u : Value), Inv X pins σ H s → RelV x v → RelV y u → wpAny (model X.prog X.w) X.A (inplaceOp op v u) (EP X pins σ Q) X.xe s
theorem ipCan_ok (X : Cx) (op : Operator) : PIp X op (ipCan X op) := fun pins s σ H x y v u Q I rx ry h => h pins s σ v u I rx ry
theorem ipCan_of {X : Cx} {op : Operator} {r : R2} (h : OpR X (inplaceOp op) r) {x y : V} {H : Hp} {Q : VK} (q : r x y H Q) : ipCan X op x y H Q := fun pins s σ v u I rx ry => h pins s σ H x y v u Q I rx ry q
/-- op= of ints: + and - alone -/
theorem ip_ok {X : Cx} {W : WX} {XI : Ends1} {G H : Hp} {σ : L2.St} {Q : VK} (op : Bop) (hop : op = .add ∨ op = .sub) {a b : Int} (s : Same G H) (h : GE X.K XI W G H σ (binP op (.int a) (.int b)) Q) : ipCan X (bopE op) (.int a) (.int b) H Q := by
  rcases hop with rfl | rfl
  · exact ipCan_of iop_add ⟨a, b, rfl, rfl, h.now s (.int _)⟩
  · exact ipCan_of iop_sub ⟨a, b, rfl, rfl, h.now s (.int _)⟩
theorem ss_saug (i : Nat) (op : Bop) {e : C} (Se : Sd B n N e) : SS B n N (.saug i op e) := by
  intro sc st hc X W S G0 H0 G H ρ σ D I g
  obtain ⟨x, p0, o, v, pos, rfl, h1, h2, h3, h4, hop⟩ : ∃ x p0 o v pos, st = .AugAssign (.Name x p0) o v pos ∧ ixB N i x = true ∧ locB sc x = true ∧ bopB op o = true ∧ (ck B N e).e false sc v = true ∧ (op = .add ∨ op = .sub) := by
    have hc : sAug N i op (ck B N e) sc st = true := hc
    unfold sAug at hc
    split at hc
    · simp only [Bool.and_eq_true] at hc
      refine ⟨_, _, _, _, _, rfl, hc.1.1.1.1, hc.1.1.1.2, hc.1.1.2, hc.1.2, ?_⟩
      have h := hc.2
      cases op <;> first | exact .inl rfl | exact .inr rfl | cases h
    · cases hc
  have h3' := bopB_ok h3
  subst h3'
  have hl := S.tc.loc x (locB_ok h2)
  refine ps_can' (ps_aug (i := i) (by rw [S.tc.nm]; exact S.tc.nd) (by rw [S.tc.nm]; exact ixB_ok h1) hl.1 pe_can (ipCan_ok X _) hl.2) ?_
  have g0 : GS X.K (XB B X) W D G0 H0 G (lift (ev (φn B n) B.κ (.v i) ρ) ρ fun x => lift (ev (φn B n) B.κ e ρ) ρ fun y => lift (augP op x y) ρ fun p => .nx (ρ.set i (.shr p))) := g
  have ev_v : ∃ q, ρ[i]? = some (.shr q) ∧ ev (φn B n) B.κ (.v i) ρ = .ok q := by
    cases hp : ρ[i]? with
    | none =>
      have e : ev (φn B n) B.κ (.v i) ρ = .bad := by simp [ev, hp]
      rw [e] at g0; exact g0.elim
    | some s =>
      cases s with
      | shr q => exact ⟨q, rfl, by simp [ev, hp]⟩
      | un => have e : ev (φn B n) B.κ (.v i) ρ = .bad := by simp [ev, hp]
              rw [e] at g0; exact g0.elim
      | own xs => have e : ev (φn B n) B.κ (.v i) ρ = .bad := by simp [ev, hp]
                  rw [e] at g0; exact g0.elim
      | owd ks vs => have e : ev (φn B n) B.κ (.v i) ρ = .bad := by simp [ev, hp]
                     rw [e] at g0; exact g0.elim
      | self a ns fs =>
        have e : ev (φn B n) B.κ (.v i) ρ = .bad := by simp [ev, hp]
        rw [e] at g0; exact g0.elim
      | ow2 xss =>
        have e : ev (φn B n) B.κ (.v i) ρ = .bad := by simp [ev, hp]
        rw [e] at g0; exact g0.elim
  obtain ⟨q, hq, eq⟩ := ev_v
  rw [eq] at g0
  obtain ⟨u, hu, ru⟩ := I.shr hq
  refine ⟨u, hu, ?_⟩
  have g1 : GS X.K (XB B X) W D G0 H0 G (lift (ev (φn B n) B.κ e ρ) ρ fun y => lift (augP op q y) ρ fun p => .nx (ρ.set i (.shr p))) := g0
  refine Se.e false sc v h4 X W S.ec G0 H0 G H ρ σ _ I ((g1.lift I).imp fun q2 _ k G1 H1 w e1 r1 => ?_)
  have I1 := I.grow e1
  cases q with
  | int a =>
    cases q2 with
    | int b =>
      cases ru
      cases r1
      have k : GS X.K (XB B X) W D G0 H0 G (lift (binP op (.int a) (.int b)) ρ fun p => .nx (ρ.set i (.shr p))) := k
      refine ip_ok (XI := XB B X) (W := W) (σ := σ) op hop I1.sub ?_
      have k2 := GS.lift (GS.move k e1.gs) I1
      exact GX.ge (G := G1) (H := H1) (k2.imp fun p _ k3 G2 H2 w2 e2 r2 => k3 G2 H2 _ ((I1.grow e2).setShr r2) e2.gs) (Ext.refl I1.sub)
    | _ => exact k.elim
  | _ => cases q2 <;> exact k.elim
def rGetL : V → V → Hp → VK → Prop := fun o i H Q => ∃ p xs k v, o = .ref p ∧ i = .int k ∧ H p = some (.lst xs) ∧ L2.atI xs k = some v ∧ Q v H
theorem get_list {X : Cx} : PGet X rGetL := by
  intro pins s σ H o i ov iv Q I ro ri h
  obtain ⟨p, xs, k, z, rfl, rfl, hp, he, q⟩ := h
  cases ro
  obtain ⟨t, rfl⟩ := ri
  obtain ⟨its, r, pl, hz⟩ := I.list (.inl (.inl hp))
  obtain ⟨j, h1, h2, h3, h4, h5⟩ := atI_get he
  obtain ⟨w, ew, rw'⟩ := r.get h2
  have hl := r.length
  have hn := line63
  have fin : EP X pins σ Q w s := ⟨z, H, I, rw', q⟩
  by_cases h0 : 0 ≤ k
  · have hj : k.toNat = j := by
      rw [seqIndex_of h0 h5] at h1
      exact Option.some.inj h1
    exact wpAny_getItem_list pl.isList h0 (by omega) (by rw [hj]; simpa using ew) fin
  · have hj : (k + (its.toArray.size : Int)).toNat = j := by
      rw [seqIndex_neg (by omega) h4] at h1
      rw [List.size_toArray, ← hl]
      exact Option.some.inj h1
    exact wpAny_getItem_list_neg pl.isList (by omega) (by rw [List.size_toArray]; omega) (by omega) (by rw [hj]; simpa using ew) fin
theorem ss_saux (i : Nat) (op : Bop) {ix e : C} (Sx : Sd B n N ix) (Se : Sd B n N e) : SS B n N (.saux i ix op e) := by
  intro sc st hc X W S G0 H0 G H ρ σ D I g
  obtain ⟨x, p0, j, p1, o, v, pos, rfl, h1, h2, h3, h3', h4, hop⟩ : ∃ x p0 j p1 o v pos, st = .AugAssign (.Subscript (.Name x p0) j p1) o v pos ∧ ckVar N sc i x = true ∧ (ck B N ix).e false sc j = true ∧ notSlice j = true ∧ bopB op o = true ∧ (ck B N e).e false sc v = true ∧ (op = .add ∨ op = .sub) := by
    have hc : sAux N i (ck B N ix) op (ck B N e) sc st = true := hc
    unfold sAux at hc
    split at hc
    · simp only [Bool.and_eq_true] at hc
      refine ⟨_, _, _, _, _, _, _, rfl, hc.1.1.1.1.1, hc.1.1.1.1.2, hc.1.1.1.2, hc.1.1.2, hc.1.2, ?_⟩
      have h := hc.2
      cases op <;> first | exact .inl rfl | exact .inr rfl | cases h
    · cases hc
  have h3'' := bopB_ok h3'
  subst h3''
  have ha : ∀ ov iv new, augStore j ov iv new = (do holding [new, ov, iv] (setItem ov iv new); release [new, ov, iv] []; pure .next) := fun ov iv new => by
    cases j <;> first | rfl | cases h3
  refine ps_can' (ps_augS pe_can pe_can get_list pe_can (ipCan_ok X _) set_list ha) ?_
  have g0 : GS X.K (XB B X) W D G0 H0 G (lift (ownAt ρ i) ρ fun xs => lift (ev (φn B n) B.κ ix ρ) ρ fun j => lift (ixP (.lst xs) j) ρ fun x => lift (ev (φn B n) B.κ e ρ) ρ fun y => lift (augP op x y) ρ fun p => match j with
    | .int n => (match ixN xs.length n with | some m => .nx (ρ.set i (.own (xs.set m p))) | none => .bad)
    | _ => .bad) := g
  obtain ⟨xs, hi, k⟩ := ownAt_ok g0
  obtain ⟨a, vs, ha', ga, h0, hh, rr⟩ := I.own hi
  refine name_ok S.ec h1 ha' ?_
  refine Sx.e false sc j h2 X W S.ec G0 H0 G H ρ σ _ I ((k.lift I).imp fun q2 _ k2 G2 H2 w e2 r2 => ?_)
  have I2 := I.grow e2
  cases q2 with
  | int m =>
    cases r2
    obtain ⟨a2, ws, ha2, _, _, hh2, rr2⟩ := I2.own hi
    rw [ha'] at ha2; cases ha2
    cases hz : L2.atI xs m with
    | none =>
      have ee : ixP (.lst xs) (.int m) = .bad := by
        show (match L2.atI xs m with | some p => Res.ok p | none => .bad) = _
        rw [hz]
      rw [ee] at k2
      exact k2.elim
    | some z =>
      have ee : ixP (.lst xs) (.int m) = .ok z := by
        show (match L2.atI xs m with | some p => Res.ok p | none => .bad) = _
        rw [hz]
      rw [ee] at k2
      obtain ⟨zv, hzv, rz⟩ := Reps.atI rr2 hz
      refine ⟨a, ws, m, zv, rfl, rfl, hh2, hzv, ?_⟩
      have k3 := GS.move (show GS X.K (XB B X) W D G0 H0 G (lift (ev (φn B n) B.κ e ρ) ρ fun y => lift (augP op z y) ρ fun p => (match ixN xs.length m with | some m => .nx (ρ.set i (.own (xs.set m p))) | none => .bad)) from k2) e2.gs
      refine Se.e false sc v h4 X W S.ec G0 H0 G2 H2 ρ σ _ I2 ((k3.lift I2).imp fun q3 _ k4 G3 H3 w3 e3 r3 => ?_)
      have I3 := I2.grow e3
      cases z with
      | int b =>
        cases q3 with
        | int c =>
          cases rz
          cases r3
          have k5 : GS X.K (XB B X) W D G0 H0 G2 (lift (binP op (.int b) (.int c)) ρ fun p => (match ixN xs.length m with | some m => .nx (ρ.set i (.own (xs.set m p))) | none => .bad)) := k4
          refine ip_ok (XI := XB B X) (W := W) (σ := σ) op hop I3.sub ?_
          have k6 := GS.lift (GS.move k5 e3.gs) I3
          refine GX.ge (G := G3) (H := H3) (k6.imp fun p _ k7 G4 H4 w4 e4 r4 => ?_) (Ext.refl I3.sub)
          have I4 := I3.grow e4
          cases hm : ixN xs.length m with
          | none => rw [hm] at k7; exact k7.elim
          | some m' =>
            rw [hm] at k7
            obtain ⟨a4, us, ha4, _, _, hh4, rr4⟩ := I4.own hi
            rw [ha'] at ha4; cases ha4
            refine ⟨a, us, m, m', rfl, rfl, hh4, by rw [rr4.length]; exact hm, ?_⟩
            exact k7 G4 _ σ (I4.write hi ha' (Reps.set r4 m' rr4)) e4.gs
        | _ => exact k4.elim
      | _ => cases q3 <;> exact k4.elim
  | _ => exact k2.elim
theorem ss_sexp {e : C} (Se : Sd B n N e) : SS B n N (.sexp e) := by
  intro sc st hc X W S G0 H0 G H ρ σ D I g
  obtain ⟨v, pos, rfl, h1, h2⟩ : ∃ v pos, st = .Expr v pos ∧ (ck B N e).e false sc v = true ∧ notComp v = true := by
    have hc : sExp (ck B N e) sc st = true := hc
    unfold sExp at hc
    split at hc
    · simp only [Bool.and_eq_true] at hc
      exact ⟨_, _, rfl, hc.1, hc.2⟩
    · cases hc
  refine ps_can' (ps_expr pe_can (sw_nc h2 _ _ _)) ?_
  have g0 : GS X.K (XB B X) W D G0 H0 G (lift (ev (φn B n) B.κ e ρ) ρ fun _ => .nx ρ) := g
  exact Se.e false sc v h1 X W S.ec G0 H0 G H ρ σ _ I ((g0.lift I).imp fun q _ k G1 H1 w e1 r1 => k G1 H1 σ (I.grow e1) e1.gs)
theorem ss_sif {c a b : C} (Sc : Sd B n N c) (Sa : SBk B n N a) (Sb : SBk B n N b) : SS B n N (.sif c a b) := by
  intro sc st hc X W S G0 H0 G H ρ σ D I g
  obtain ⟨t, x, y, pos, rfl, h1, h2, h3⟩ : ∃ t x y pos, st = .If t x y pos ∧ (ck B N c).t sc t = true ∧ (cks B N a).b sc x = true ∧ (cks B N b).b sc y = true := by
    have hc : sIf (ck B N c) (cks B N a) (cks B N b) sc st = true := hc
    unfold sIf at hc
    split at hc
    · obtain ⟨h1, h2, h3⟩ := and3 hc
      exact ⟨_, _, _, _, rfl, h1, h2, h3⟩
    · cases hc
  refine ps_can' (ps_if pt_can pss_can pss_can) ?_
  have g0 : GS X.K (XB B X) W D G0 H0 G (lift ((ev (φn B n) B.κ c ρ).bind truP) ρ fun t => if t then evs B n a ρ else evs B n b ρ) := g
  refine Sc.t sc t h1 X W S.ec G0 H0 G H ρ σ _ I ((g0.lift I).imp fun b' _ k G1 H1 e1 => ?_)
  have I1 := I.grow e1
  cases b' with
  | true =>
    refine iteT ?_
    exact Sa sc x h2 X W S G0 H0 G1 H1 ρ σ D I1 (GS.move k e1.gs)
  | false =>
    refine iteF ?_
    exact Sb sc y h3 X W S G0 H0 G1 H1 ρ σ D I1 (GS.move k e1.gs)
theorem ss_sret {e : C} (Se : Sd B n N e) : SS B n N (.sret e) := by
  intro sc st hc X W S G0 H0 G H ρ σ D I g
  obtain ⟨v, pos, rfl, h1⟩ : ∃ v pos, st = .Return (some v) pos ∧ (ck B N e).e false sc v = true := by
    have hc : sRet (ck B N e) sc st = true := hc
    unfold sRet at hc
    split at hc
    · exact ⟨_, _, rfl, hc⟩
    · cases hc
  refine ps_can' (ps_ret pe_can) ?_
  have g0 : GS X.K (XB B X) W D G0 H0 G (lift (ev (φn B n) B.κ e ρ) ρ fun p => .ret (.shr p)) := g
  exact Se.e false sc v h1 X W S.ec G0 H0 G H ρ σ _ I ((g0.lift I).imp fun q _ k G1 H1 w e1 r1 => k G1 H1 w (I.ext.trans e1) r1)
theorem ss_sref {e : C} (hck : cks B N (.sref e) = mkS (sRet (ck B N e))) (Sf : SF B n N e) : SS B n N (.sref e) := by
  intro sc st hc X W S G0 H0 G H ρ σ D I g
  rw [hck] at hc
  obtain ⟨v, pos, rfl, h1⟩ : ∃ v pos, st = .Return (some v) pos ∧ (ck B N e).e false sc v = true := by
    have hc : sRet (ck B N e) sc st = true := hc
    unfold sRet at hc
    split at hc
    · exact ⟨_, _, rfl, hc⟩
    · cases hc
  refine ps_can' (ps_ret pe_can) ?_
  have g0 : GS X.K (XB B X) W D G0 H0 G (lift ((ev (φn B n) B.κ e ρ).bind lstOf) ρ fun xs => .ret (.own xs)) := g
  refine Sf sc v h1 X W S.ec G0 H0 G H ρ σ _ I ((g0.lift I).bind.imp fun q _ k => ?_)
  cases q with
  | lst xs => exact ⟨xs, rfl, fun G1 H1 a vs e1 ha ga hh rr => k G1 H1 a vs (I.ext.trans e1) (I.ext.hs.free ha) ga hh rr⟩
  | _ => exact k.elim
theorem ss_sreo (i : Nat) : SS B n N (.sreo i) := by
  intro sc st hc X W S G0 H0 G H ρ σ D I g
  obtain ⟨x, p, pos, rfl, h1⟩ : ∃ x p pos, st = .Return (some (.Name x p)) pos ∧ ckVar N sc i x = true := by
    have hc : sReo N i sc st = true := hc
    unfold sReo at hc
    split at hc
    · exact ⟨_, _, _, rfl, hc⟩
    · cases hc
  refine ps_can' (ps_ret pe_can) ?_
  have g0 : GS X.K (XB B X) W D G0 H0 G (lift (ownAt ρ i) ρ fun xs => .ret (.own xs)) := g
  obtain ⟨xs, hi, k⟩ := ownAt_ok g0
  obtain ⟨a, vs, ha, ga, h0, hh, rr⟩ := I.own hi
  exact name_ok S.ec h1 ha (k G H a vs I.ext h0 ga hh rr)
theorem isNo_ok {o : Option Str} (h : isNo o = true) : o = none := by
  cases o with
  | none => rfl
  | some x => cases h
theorem ss_srai0 (c : Nat) : SS B n N (.srai c .nil) := by
  intro sc st hc X W S G0 H0 G H ρ σ D I g
  have hc : sRai0 B c sc st = true := hc
  unfold sRai0 at hc
  split at hc
  · simp only [Bool.and_eq_true] at hc
    obtain ⟨g1, g2, g3⟩ := glB_ok hc.1.2
    have hx := nmB_ok hc.1.1
    obtain ⟨Ca, m1, XCa⟩ := S.ec.wo.xcl c _ hx
    refine ps_can' (ps_raise S.ec.calm S.ec.takes (pmk_own PySem.F.excBase_ValueError (S.ec.wo.xex c _ _ hx (isNo_ok hc.2) m1) m1 XCa.kp (raises_own XCa.sub XCa.ty) (S.ec.gl g1) g2)) ?_
    have g0 : GS X.K (XB B X) W D G0 H0 G (.exc c none ρ) := g
    exact g0 G H σ (.ref Ca) none I (Same.refl _) ⟨_, Ca, hx, m1, rfl, rfl⟩
  · cases hc
/-- an error with a field -/
theorem ss_srai1 (c : Nat) {es : C} (Se : Sd B n N es) (hn : cks B N (.srai c es) = mkS (sRai1 B c (ck B N es))) (he : ∀ ρ, evs B n (.srai c es) ρ = lift (ev (φn B n) B.κ es ρ) ρ fun p => .exc c (some p) ρ) : SS B n N (.srai c es) := by
  intro sc st hc X W S G0 H0 G H ρ σ D I g
  rw [hn] at hc
  have hc : sRai1 B c (ck B N es) sc st = true := hc
  unfold sRai1 at hc
  split at hc
  · skip
    simp only [Bool.and_eq_true, Bool.not_eq_true'] at hc
    obtain ⟨⟨⟨⟨h1, h2⟩, h3⟩, h4⟩, h5⟩ := hc
    obtain ⟨g1, g2, g3⟩ := glB_ok h2
    have hx := nmB_ok h1
    obtain ⟨Ca, m1, XCa⟩ := S.ec.wo.xcl c _ hx
    obtain ⟨fl, hfl⟩ : ∃ fl, B.xfl c = some fl := by
      cases e : B.xfl c with
      | none => rw [e] at h3; cases h3
      | some fl => exact ⟨fl, rfl⟩
    have T := S.ec.wo.xin c _ fl Ca hx hfl m1
    refine ps_can' (ps_raise S.ec.calm S.ec.takes (mk_x (k := 3 * n + 3) T S.ec.takes S.ec.room (S.ec.gl g1) m1 (pa_cons pe_can pa_nil (star_of h5)) g2 (star_of h5))) ?_
    rw [he] at g
    refine mk_x_of ?_ (fun q q' z h => tcE_imp h fun v H' _ _ _ k => z _ _ k)
    refine Se.e false sc _ h4 X W S.ec G0 H0 G H ρ σ _ I ((g.lift I).imp fun q _ k G1 H1 u e1 r1 => ?_)
    have I1 := I.grow e1
    refine ⟨u, rfl, fun dx hd => ?_⟩
    have e2 : Ext G1 H1 G1 (upd H1 dx (.xd [(fl, u)])) := Ext.newOwn I1.sub hd
    exact k G1 _ σ (.ref Ca) (some dx) (I1.grow e2) e1.gs ⟨_, Ca, hx, m1, rfl, dx, fl, u, hfl, rfl, upd_same, r1⟩
  · cases hc
theorem ss_srai (c : Nat) {es : C} (Se : Sd B n N es) : SS B n N (.srai c es) := by
  cases h : isNilC es with
  | true =>
    have e : es = .nil := by cases es <;> first | rfl | cases h
    subst e
    exact ss_srai0 c
  | false =>
    refine ss_srai1 c Se ?_ ?_
    · show (bif isNilC es then _ else _) = _
      rw [h]
      rfl
    · intro ρ
      cases es <;> first | rfl | cases h
theorem ss_sbrk : SS B n N .sbrk := by
  intro sc st hc X W S G0 H0 G H ρ σ D I g
  cases st <;> first | exact ps_can' ps_break (g G H σ I (Same.refl _)) | cases hc
theorem ss_scnt : SS B n N .scnt := by
  intro sc st hc X W S G0 H0 G H ρ σ D I g
  cases st <;> first | exact ps_can' ps_continue (g G H σ I (Same.refl _)) | cases hc
theorem sb_snil : SBk B n N .snil := by
  intro sc sts hc X W S G0 H0 G H ρ σ D I g
  cases sts with
  | nil => exact pss_can' pss_nil (g G H σ I (Same.refl _))
  | cons s r => cases hc
theorem sb_scons {s ss : C} (h1 : isFrz s = false → SS B n N s) (h2 : SBk B n N ss) : SBk B n N (.scons s ss) := by
  intro sc sts hc X W S G0 H0 G H ρ σ D I g
  have hc : bCons (cks B N s) (cks B N ss) (isFrz s) sc sts = true := hc
  have g0 : GS X.K (XB B X) W D G0 H0 G (match evs B n s ρ with | .nx ρ' => evs B n ss ρ' | o => o) := g
  cases hf : isFrz s with
  | true =>
    rw [hf] at hc
    have hc : (cks B N ss).b sc sts = true := by
      cases sts <;> exact hc
    cases s with
    | sfrz i =>
      have e : evs B n (.sfrz i) ρ = (match ρ[i]? with | some (.own xs) => .nx (ρ.set i (.shr (.lst xs))) | some (.owd ks vs) => .nx (ρ.set i (.shr (.dct ks vs))) | some (.shr p) => .nx ρ | some (.ow2 xss) => .nx (ρ.set i (.shr (.lst (xss.map PV.lst)))) | _ => .bad) := rfl
      rw [e] at g0
      cases hp : ρ[i]? with
      | none => rw [hp] at g0; exact g0.elim
      | some sl =>
        rw [hp] at g0
        cases sl with
        | un => exact g0.elim
        | shr p => exact h2 sc sts hc X W S G0 H0 G H ρ σ D I g0
        | own xs =>
          obtain ⟨G', hI, hS⟩ := I.freeze2 hp
          exact h2 sc sts hc X W S G0 H0 G' H _ σ D hI (GS.move g0 hS)
        | owd ks vs =>
          obtain ⟨G', hI, hS⟩ := I.freezeD hp
          exact h2 sc sts hc X W S G0 H0 G' H _ σ D hI (GS.move g0 hS)
        | self a ns fs => exact g0.elim
        | ow2 xss =>
          obtain ⟨G', hI, hS⟩ := I.frz2 hp
          exact h2 sc sts hc X W S G0 H0 G' H _ σ D hI (GS.move g0 hS)
    | _ => cases hf
  | false =>
    rw [hf] at hc
    cases sts with
    | nil => cases hc
    | cons st r =>
      have hc : ((cks B N s).s sc st && (cks B N ss).b sc r) = true := hc
      simp only [Bool.and_eq_true] at hc
      refine pss_can' (pss_cons ps_can pss_can) ?_
      refine h1 hf sc st hc.1 X W S G0 H0 G H ρ σ _ I ?_
      cases eo : evs B n s ρ with
      | nx ρ' =>
        rw [eo] at g0
        exact fun G' H' σ' I' sm => h2 sc r hc.2 X W S G0 H0 G' H' ρ' σ' D I' (GS.move g0 sm)
      | bk ρ' => rw [eo] at g0; exact g0
      | ct ρ' => rw [eo] at g0; exact g0
      | ret rv => rw [eo] at g0; cases rv <;> exact g0
      | exc c p ρ' => rw [eo] at g0; exact g0
      | bad => rw [eo] at g0; exact g0
/-! ### lists of one's own lists -/
theorem ow2At_ok {ρ : List Slot} {i : Nat} {K : PySem.W.Frag} {XI : Ends1} {W : WX} {D : Ends} {G0 H0 G : Hp} {f : List (List PV) → Out} (g : GS K XI W D G0 H0 G (lift (ow2At ρ i) ρ f)) : ∃ xss, ρ[i]? = some (.ow2 xss) ∧ GS K XI W D G0 H0 G (f xss) := by
  unfold ow2At at g
  split at g
  · rename_i xs e
    exact ⟨xs, e, g⟩
  · exact g.elim
theorem in2_ok {xss : List (List PV)} {j : PV} {ρ : List Slot} {K : PySem.W.Frag} {XI : Ends1} {W : WX} {D : Ends} {G0 H0 G : Hp} {f : Nat × List PV → Out} (g : GS K XI W D G0 H0 G (lift (in2 xss j) ρ f)) : ∃ n m xs, j = .int n ∧ ixN xss.length n = some m ∧ xss[m]? = some xs ∧ GS K XI W D G0 H0 G (f (m, xs)) := by
  unfold in2 at g
  split at g
  · split at g
    · rename_i m hm
      split at g
      · rename_i xs hx
        exact ⟨_, m, xs, rfl, hm, hx, g⟩
      · exact g.elim
    · exact g.elim
  · exact g.elim
theorem empB_cons {k : Nat} {e : Expr} {es : List Expr} (h : empB (k + 1) (e :: es) = true) : ∃ p, e = .List [] p ∧ empB k es = true := by
  unfold empB at h
  split at h
  · rename_i h1 h2; cases h1
  · rename_i h1 h2
    cases h1; cases h2
    exact ⟨_, rfl, h⟩
  · cases h
theorem emp_ok {X : Cx} {σ : L2.St} : ∀ (k : Nat) (es : List Expr), empB k es = true → ∀ (H : Hp) (Q : List V → Hp → Prop), (∀ (H' : Hp) (bs : List Addr), Same H H' → bs.Nodup → bs.length = k → (∀ b ∈ bs, H b = none ∧ H' b = some (.lst [])) → Q (bs.map V.ref) H') → tcA X es σ H Q
  | 0, [], _, H, Q, h => pa_can' pa_nil (h H [] (Same.refl _) .nil rfl fun b hb => by cases hb)
  | 0, _ :: _, hc, _, _, _ => by cases hc
  | k + 1, [], hc, _, _, _ => by cases hc
  | k + 1, e :: es, hc, H, Q, h => by
    obtain ⟨p, rfl, hc⟩ := empB_cons hc
    refine pa_can' (pa_cons pe_can pa_can rfl) ?_
    refine pe_can' (pe_lst pa_nil) ⟨by decide, fun a ha => ?_⟩
    refine emp_ok k es hc _ _ fun H' bs s nd hl hb => ?_
    have ha' : H' a = some (.lst []) := s _ _ upd_same
    refine h H' (a :: bs) ((same_upd ha).trans s) (List.nodup_cons.mpr ⟨fun hm => ?_, nd⟩) (by rw [List.length_cons, hl]) fun b hm => ?_
    · have z := (hb a hm).1
      rw [upd_same] at z; cases z
    · rcases List.mem_cons.mp hm with rfl | hm
      · exact ⟨ha, ha'⟩
      · obtain ⟨z1, z2⟩ := hb b hm
        refine ⟨?_, z2⟩
        by_cases e : b = a
        · subst e; exact ha
        · rw [upd_ne e] at z1; exact z1
theorem repIn_emp {K : PySem.W.Frag} {G H H0 : Hp} : ∀ (bs : List Addr), (∀ b ∈ bs, G b = none ∧ H0 b = none ∧ H b = some (.lst [])) → RepIn K G H H0 bs (List.replicate bs.length [])
  | [], _ => .nil
  | b :: bs, h => by
    obtain ⟨h1, h2, h3⟩ := h b List.mem_cons_self
    exact .cons h1 h2 h3 .nil (repIn_emp bs fun c hc => h c (List.mem_cons_of_mem _ hc))
theorem ss_sow2 (i k : Nat) : SS B n N (.sow2 i k) := by
  intro sc st hc X W S G0 H0 G H ρ σ D I g
  obtain ⟨x, px, es, pl, pos, rfl, h1, h2, h3⟩ : ∃ x px es pl pos, st = .Assign [.Name x px] (.List es pl) pos ∧ ixB N i x = true ∧ locB sc x = true ∧ empB k es = true := by
    have hc : sOw2 N i k sc st = true := hc
    unfold sOw2 at hc
    split at hc
    · simp only [Bool.and_eq_true] at hc
      exact ⟨_, _, _, _, _, rfl, hc.1.1, hc.1.2, hc.2⟩
    · cases hc
  have g0 : GS X.K (XB B X) W D G0 H0 G (if no2 ρ i && Nat.ble k 1000 then .nx (ρ.set i (.ow2 (List.replicate k []))) else .bad) := g
  split at g0
  · rename_i hk
    simp only [Bool.and_eq_true] at hk
    refine set_plain S h1 h2 (sw_nc rfl _ _ _) ?_
    refine pe_can' (pe_lst pa_can) ?_
    refine emp_ok k es h3 H _ fun H' bs s nd hl hb => ⟨?_, fun a ha => ?_⟩
    · rw [List.length_map, hl]
      exact Nat.le_trans (Nat.le_of_ble_eq_true hk.2) (by decide)
    · have ha0 : H a = none := s.free ha
      have s2 : Same H' (upd H' a (.lst (bs.map V.ref))) := same_upd ha
      have ex : Ext G H G (upd H' a (.lst (bs.map V.ref))) := ⟨Same.refl _, s.trans s2, (I.sub.trans s).trans s2, fun _ z1 z2 => absurd z1 z2⟩
      have nab : ∀ b ∈ bs, b ≠ a := fun b hm z => by
        subst z
        rw [(hb b hm).2] at ha; cases ha
      refine g0 G _ _ (I.new2 ex hk.1 (fun b hm => ?_) (I.sub.free ha0) upd_same (List.nodup_cons.mpr ⟨fun hm => nab a hm rfl, nd⟩) ?_) (Same.refl _)
      · rcases List.mem_cons.mp hm with rfl | hm
        · exact ha0
        · exact (hb b hm).1
      · rw [← hl]
        refine repIn_emp bs fun b hm => ⟨I.sub.free (hb b hm).1, I.ext.hs.free (hb b hm).1, ?_⟩
        rw [upd_ne (nab b hm)]
        exact (hb b hm).2
  · exact g0.elim
theorem ss_sow0 (i j : Nat) : SS B n N (.sow0 i j) := by
  intro sc st hc X W S G0 H0 G H ρ σ D I g
  have E := S.ec
  have hc : sOw0 N i j sc st = true := hc
  unfold sOw0 at hc
  split at hc
  · rename_i x px y py kt pt v w k2 pt2 pos _
    simp only [Bool.and_eq_true, Bool.not_eq_true'] at hc
    obtain ⟨⟨⟨⟨⟨⟨⟨⟨h1, h2⟩, h3⟩, h4⟩, h5⟩, h6⟩, h7⟩, h8⟩, h9⟩ := hc
    have nx := ixB_ok h1
    have ny := ixB_ok h2
    have hij : i ≠ j := fun e => by subst e; simp at h3
    have hs : notStar v = true ∧ notStar w = true := by
      obtain ⟨_, rfl, h7'⟩ := empB_cons h7
      obtain ⟨_, rfl, _⟩ := empB_cons h7'
      exact ⟨rfl, rfl⟩
    have lx : X.env.scope.names.lookup x = some .local := by rw [E.scope]; exact locK h4
    have ly : X.env.scope.names.lookup y = some .local := by rw [E.scope]; exact locK h5
    refine ps_can' (ps_par (i := i) (j := j) E.calm (by rw [E.nm]; exact E.nd) (by rw [E.nm]; exact nx) (by rw [E.nm]; exact ny) hij lx ly pa_can (swap2 S.fn lx ly h6 (ne_of_ix E.nd nx ny hij) hs.1 hs.2 h8 h9) rfl) ?_
    refine emp_ok 2 _ h7 H _ fun H' bs s nd hl hb => ?_
    match bs, hl with
    | [b1, b2], _ =>
      have q1 := hb b1 (by simp)
      have q2 := hb b2 (by simp)
      have n12 : b1 ≠ b2 := by
        have z := (List.nodup_cons.mp nd).1
        exact fun e => z (by rw [e]; simp)
      have ex : Ext G H G H' := ⟨Same.refl _, s, I.sub.trans s, fun _ z1 z2 => absurd z1 z2⟩
      have I1 := I.newOwn (i := i) ex q1.1 (I.sub.free q1.1) q1.2 (.nil)
      refine ⟨_, _, rfl, g G H' _ (I1.setOwn (i := j) (I.sub.free q2.1) (I.ext.hs.free q2.1) q2.2 .nil (fun l t hl hr ht hs => ?_) (fun l xss c cs hl hr hs hc hm => ?_)) (Same.refl _)⟩
      · by_cases e : i = l
        · subst e
          have z := set_at hs
          cases z
          exact n12 rfl
        · rw [get_set_ne e] at hr hs
          obtain ⟨b, ob2, e1, _, _, e2, _⟩ := I.ownG hr ht
          rw [hs] at e1; cases e1
          rw [q2.1] at e2; cases e2
      · by_cases e : i = l
        · subst e
          have z := set_at hr
          cases z
        · rw [get_set_ne e] at hr hs
          obtain ⟨c', bs', e1, _, _, e2, _, e3⟩ := I.get2 hr
          rw [hs] at e1; cases e1
          have z := s _ _ e2
          rw [hc] at z
          have eb : cs = bs' := ref_inj (by injection z with z; injection z)
          subst eb
          rcases List.mem_cons.mp hm with rfl | hm
          · rw [q2.1] at e2; cases e2
          · exact (e3.isome b2 hm).1 q2.1
  · cases hc
theorem sApp2_ok {i : Nat} {m : Str} {cj ce : Ck} {sc : Scope} {st : Stmt} (h : sApp2 N i m cj ce sc st = true) : ∃ x p0 j p1 ap v p pos, st = .Expr (.Call (.Attribute (.Subscript (.Name x p0) j p1) m ap) [v] [] p) pos ∧ ckVar N sc i x = true ∧ cj.e false sc j = true ∧ notSlice j = true ∧ ce.e false sc v = true ∧ notStar v = true ∧ (ap.endLine == p.line) = true := by
  unfold sApp2 at h
  split at h
  · simp only [Bool.and_eq_true] at h
    obtain ⟨⟨⟨⟨⟨⟨h1, h2⟩, h3⟩, h4⟩, h5⟩, h6⟩, h7⟩ := h
    have e := sEq_ok h4
    subst e
    exact ⟨_, _, _, _, _, _, _, _, rfl, h1, h2, h3, h5, h6, h7⟩
  · cases h
theorem atI_of {α : Type} {xs : List α} {k : Int} {m : Nat} (h : ixN xs.length k = some m) : L2.atI xs k = xs[m]? := by
  unfold L2.atI
  rw [h]
  rfl
theorem app_expr2 {sc : Scope} {X : Cx} {W : WX} (E : EC B n N sc X W) {i : Nat} {m : Str} {id : String} {x : Str} {p0 p1 ap p pos : Pos} {j v : Expr} {ix : C} (Sx : Sd B n N ix) (h1 : ckVar N sc i x = true) (h2 : (ck B N ix).e false sc j = true) (h3 : notSlice j = true) (hs : notStar v = true) (hl : (ap.endLine == p.line) = true) {r : V → List V → Hp → VK → Prop} (slot : PySem.Slot "list" m id) (hty : typeOf (.builtin id) = pure (.type "method_descriptor")) (hm : MtR X id r)
    {G0 H0 G H : Hp} {ρ : List Slot} {σ : L2.St} {xss : List (List PV)} {f : Nat × List PV → Out} (I : SI X.K G0 H0 G H ρ σ) (hi : ρ[i]? = some (.ow2 xss)) {D : Ends} (g : GS X.K (XB B X) W D G0 H0 G (lift (ev (φn B n) B.κ ix ρ) ρ fun j => lift (in2 xss j) ρ f))
    (k : ∀ (G1 H1 : Hp) (a : Addr) (bs : List Addr) (b : Addr) (n : Nat) (xs : List PV), Ext G H G1 H1 → σ[i]? = some (some (.ref a)) → H1 a = some (.lst (bs.map V.ref)) → bs[n]? = some b → xss[n]? = some xs → GS X.K (XB B X) W D G0 H0 G1 (f (n, xs)) → tcE X v σ H1 fun y H2 => r (.ref b) [y] H2 fun _ H3 => D.nx σ H3) :
    tcS X (.Expr (.Call (.Attribute (.Subscript (.Name x p0) j p1) m ap) [v] [] p) pos) D σ H := by
  obtain ⟨a, bs, ha, ga, h0, hh, nd, rr⟩ := I.get2 hi
  refine ps_can' (ps_expr (pe_bm PySem.F.plainAttrs_list slot hty hm (pe_ix ix_list pe_can pe_can (notSlice_ok h3)) (pa_cons pe_can pa_nil (star_of hs)) rfl (by rw [star_of hs]; rfl) hl (star_of hs) rfl) rfl) ?_
  refine name_ok E h1 ha ?_
  refine Sx.e false sc j h2 X W E G0 H0 G H ρ σ _ I ((g.lift I).imp fun q2 _ k2 G1 H1 w e1 r2 => ?_)
  obtain ⟨n, m, xs, rfl, hn, hx, k3⟩ := in2_ok k2
  cases r2
  have hl1 := rr.length
  obtain ⟨b, us, hb, _, _, hb2, _⟩ := rr.at_ hx
  have hh1 : H1 a = some (.lst (bs.map V.ref)) := e1.hs _ _ hh
  refine ⟨a, bs.map V.ref, n, .ref b, rfl, rfl, .inl (.inl hh1), ?_, ?_⟩
  · show L2.atI (bs.map V.ref) n = some (.ref b)
    rw [atI_of (m := m) (by rw [List.length_map, hl1]; exact hn), List.getElem?_map, hb]
    rfl
  · exact ⟨.inl ⟨rfl, us, .inl (.inl (e1.hs _ _ hb2))⟩, k G1 H1 a bs b m xs e1 ha hh1 hb hx (GS.move k3 e1.gs)⟩
theorem ss_sap2 (i : Nat) {ix e : C} (Sx : Sd B n N ix) (Se : Sd B n N e) : SS B n N (.sap2 i ix e) := by
  intro sc st hc X W S G0 H0 G H ρ σ D I g
  obtain ⟨x, p0, j, p1, ap, v, p, pos, rfl, h1, h2, h3, h4, h5, h6⟩ := sApp2_ok hc
  have g0 : GS X.K (XB B X) W D G0 H0 G (lift (ow2At ρ i) ρ fun xss => lift (ev (φn B n) B.κ ix ρ) ρ fun j => lift (in2 xss j) ρ fun mx => lift (ev (φn B n) B.κ e ρ) ρ fun p => if fits (mx.2.length + 1) then .nx (ρ.set i (.ow2 (xss.set mx.1 (mx.2 ++ [p])))) else .bad) := g
  obtain ⟨xss, hi, g1⟩ := ow2At_ok g0
  refine app_expr2 S.ec Sx h1 h2 h3 h5 h6 PySem.F.slot_list_append PySem.F.type_list_append mt_append I hi g1 fun G1 H1 a bs b m xs e1 ha hh hb hx k => ?_
  have I1 := I.grow e1
  refine Se.e false sc v h4 X W S.ec G0 H0 G1 H1 ρ σ _ I1 ((k.lift I1).imp fun q _ k G2 H2 u e2 r1 => ?_)
  have I2 := I1.grow e2
  split at k
  · rename_i hf
    obtain ⟨a', bs', ha', _, _, hh', nd, rr⟩ := I2.get2 hi
    rw [ha] at ha'; cases ha'
    have z := e2.hs _ _ hh
    rw [hh'] at z
    have eb : bs' = bs := ref_inj (by injection z with z; injection z)
    subst eb
    obtain ⟨b', us, hb', _, _, hb2, r2⟩ := rr.at_ hx
    rw [hb] at hb'; cases hb'
    refine ⟨b, us, u, rfl, rfl, hb2, ?_, ?_⟩
    · rw [r2.length]; exact fits_le hf
    · exact k G2 _ σ (I2.write2 hi ha hh' hb (r2.append (.cons r1 .nil))) e2.gs
  · exact k.elim
theorem ss_sex2 (i : Nat) {ix e : C} (Sx : Sd B n N ix) (Se : Sd B n N e) : SS B n N (.sex2 i ix e) := by
  intro sc st hc X W S G0 H0 G H ρ σ D I g
  obtain ⟨x, p0, j, p1, ap, v, p, pos, rfl, h1, h2, h3, h4, h5, h6⟩ := sApp2_ok hc
  have g0 : GS X.K (XB B X) W D G0 H0 G (lift (ow2At ρ i) ρ fun xss => lift (ev (φn B n) B.κ ix ρ) ρ fun j => lift (in2 xss j) ρ fun mx => lift ((ev (φn B n) B.κ e ρ).bind lstOf) ρ fun ys => if fits (mx.2.length + ys.length) then .nx (ρ.set i (.ow2 (xss.set mx.1 (mx.2 ++ ys)))) else .bad) := g
  obtain ⟨xss, hi, g1⟩ := ow2At_ok g0
  refine app_expr2 S.ec Sx h1 h2 h3 h5 h6 PySem.F.slot_list_extend PySem.F.type_list_extend mt_extend I hi g1 fun G1 H1 a bs b m xs e1 ha hh hb hx k => ?_
  have I1 := I.grow e1
  refine Se.e false sc v h4 X W S.ec G0 H0 G1 H1 ρ σ _ I1 ((k.lift I1).bind.imp fun q _ k G2 H2 u e2 r1 => ?_)
  have I2 := I1.grow e2
  cases q with
  | lst ys =>
    have k : GS X.K (XB B X) W D G0 H0 G1 (if fits (xs.length + ys.length) then .nx (ρ.set i (.ow2 (xss.set m (xs ++ ys)))) else .bad) := k
    split at k
    · rename_i hf
      obtain ⟨a', bs', ha', _, _, hh', nd, rr⟩ := I2.get2 hi
      rw [ha] at ha'; cases ha'
      have z := e2.hs _ _ hh
      rw [hh'] at z
      have eb : bs' = bs := ref_inj (by injection z with z; injection z)
      subst eb
      obtain ⟨b', us, hb', _, _, hb2, r2⟩ := rr.at_ hx
      rw [hb] at hb'; cases hb'
      cases r1 with
      | lst hy ry =>
        refine ⟨b, _, us, _, rfl, rfl, hb2, I2.sub _ _ hy, ?_, ?_⟩
        · rw [r2.length, ry.length]; exact fits_le hf
        · exact k G2 _ σ (I2.write2 hi ha hh' hb (r2.append ry)) e2.gs
    · exact k.elim
  | _ => exact k.elim
/-- x.pop(j) -/
theorem ss_spop (i : Nat) {e : C} (Se : Sd B n N e) : SS B n N (.spop i e) := by
  intro sc st hc X W S G0 H0 G H ρ σ D I g
  obtain ⟨x, p0, ap, v, p, pos, rfl, h1, h2, h3, h4⟩ := sApp_ok hc
  have g0 : GS X.K (XB B X) W D G0 H0 G (lift (ownAt ρ i) ρ fun xs => lift (ev (φn B n) B.κ e ρ) ρ fun j => match j with
    | .int n => (match ixN xs.length n with | some m => if smallI n then .nx (ρ.set i (.own (xs.eraseIdx m))) else .bad | none => .bad)
    | _ => .bad) := g
  obtain ⟨xs, hi, g1⟩ := ownAt_ok g0
  refine app_expr S.ec h1 h3 h4 PySem.F.slot_list_pop PySem.F.type_list_pop mt_popAt I hi fun a vs ha hh => ?_
  refine Se.e false sc v h2 X W S.ec G0 H0 G H ρ σ _ I ((g1.lift I).imp fun q _ k G1 H1 u e1 r1 => ?_)
  have I1 := I.grow e1
  cases q with
  | int j =>
    cases r1
    have k : GS X.K (XB B X) W D G0 H0 G (match ixN xs.length j with | some m => if smallI j then .nx (ρ.set i (.own (xs.eraseIdx m))) else .bad | none => .bad) := k
    split at k
    · rename_i m hm
      split at k
      · rename_i hsm
        obtain ⟨a', ws, ha', _, _, hh', rr'⟩ := I1.own hi
        rw [ha] at ha'; cases ha'
        obtain ⟨z1, z2, _, _⟩ := ixN_seq hm
        unfold smallI at hsm
        simp only [Bool.and_eq_true, decide_eq_true_eq] at hsm
        have hml : m < ws.length := by rw [rr'.length]; exact z2
        refine ⟨a, ws, j, m, ws[m], rfl, rfl, hh', by omega, by omega, by rw [rr'.length]; exact z1, List.getElem?_eq_getElem hml, ?_⟩
        exact k G1 _ σ (I1.write hi ha (rr'.eraseIdx m)) e1.gs
      · exact k.elim
    · exact k.elim
  | _ => exact k.elim
end
end Z
end
section
namespace Z
open PySem PySem.Spec PyProof.Rows L2
section
variable {B : Tb} {n : Nat} {N : List Str}
theorem loop_go (tg : C) {body : C} (Sb : SBk B n N body) {sc : Scope} {X : Cx} {W : WX} (S : SC B n N sc X W) {t : Expr} {x : List Stmt} (h1 : ckG N sc tg t = true) (h4 : (cks B N body).b sc x = true) {f : PV → List Slot → Out} (hf : (fun (y : PV) (ρ' : List Slot) => lift (asgP tg y ρ') ρ' fun ρ'' => evs B n body ρ'') = f)
    {G0 H0 G1 H1 : Hp} {ρ : List Slot} {σ : L2.St} {D : Ends} {J : It} {xs : List PV} (I1 : SI X.K G0 H0 G1 H1 ρ σ) (hJ : ItP (cnd false G1 H1) X.K J xs) (k : GS X.K (XB B X) W D G0 H0 G1 (forL f xs ρ)) :
    ∃ W' : Nat → Nat → L2.St → Hp → Prop, (∃ m, W' 0 m σ H1) ∧ ∀ i m σ H, W' i m σ H → (J.stop i H ∧ D.nx σ H) ∨ (J.go i H ∧ ∃ Nn : L2.St → Hp → Prop, (∀ σ' H', Nn σ' H' → ∃ m', m' < m ∧ W' (i + 1) m' σ' H') ∧ ∀ v H', J.yld i H v H' → tcG X t v σ H' fun σ2 H2 => tcB X x { D with nx := Nn, ct := Nn, bk := D.nx } σ2 H2) := by
  refine ⟨fun j m σ' H' => ∃ ρ' G', m = xs.length - j ∧ j ≤ xs.length ∧ SI X.K G0 H0 G' H' ρ' σ' ∧ Same G1 G' ∧ GS X.K (XB B X) W D G0 H0 G' (forL f (xs.drop j) ρ'),
    ⟨xs.length, ρ, G1, rfl, Nat.zero_le _, I1, Same.refl _, k⟩, fun j m σ' H' hW => ?_⟩
  obtain ⟨ρ', G', rfl, hj, I', s1, k'⟩ := hW
  have hJj := hJ j G' H' s1 I'.sub
  by_cases hlt : j < xs.length
  · obtain ⟨y, hy⟩ : ∃ y, xs[j]? = some y := ⟨xs[j], List.getElem?_eq_getElem hlt⟩
    obtain ⟨go, yl⟩ := hJj.1 y hy
    have hdrop : xs.drop j = y :: xs.drop (j + 1) := by
      rw [List.drop_eq_getElem_cons hlt]
      rw [List.getElem?_eq_getElem hlt] at hy
      cases hy; rfl
    rw [hdrop] at k'
    refine .inr ⟨go, fun σ2 H2 => ∃ ρ2 G2, SI X.K G0 H0 G2 H2 ρ2 σ2 ∧ Same G1 G2 ∧ GS X.K (XB B X) W D G0 H0 G2 (forL f (xs.drop (j + 1)) ρ2), fun σ2 H2 hN => ?_, fun v H2 hyl => ?_⟩
    · obtain ⟨ρ2, G2, q1, q2, q3⟩ := hN
      exact ⟨xs.length - (j + 1), by omega, ρ2, G2, rfl, by omega, q1, q2, q3⟩
    · obtain ⟨G2, e2, rv⟩ := yl v H2 hyl
      have I2 := I'.grow e2
      have s2 : Same G1 G2 := s1.trans e2.gs
      have k2 : GS X.K (XB B X) W D G0 H0 G2 (match f y ρ' with | .nx ρ'' => forL f (xs.drop (j + 1)) ρ'' | .ct ρ'' => forL f (xs.drop (j + 1)) ρ'' | .bk ρ'' => .nx ρ'' | o => o) := GS.move k' e2.gs
      have efy : f y ρ' = lift (asgP tg y ρ') ρ' fun ρ'' => evs B n body ρ'' := by rw [← hf]
      rw [efy] at k2
      cases ea : asgP tg y ρ' with
      | ok ρ2 =>
        rw [ea] at k2
        refine (tgt_both (G0 := G0) (H0 := H0) (G := G2) (H := H2) S.tc tg).1 t h1 y v ρ' ρ2 σ' _ ea I2 rv fun σ3 I3 _ _ => ?_
        refine Sb sc x h4 X W S G0 H0 G2 H2 ρ2 σ3 _ I3 ?_
        have k2 : GS X.K (XB B X) W D G0 H0 G2 (match evs B n body ρ2 with | .nx ρ'' => forL f (xs.drop (j + 1)) ρ'' | .ct ρ'' => forL f (xs.drop (j + 1)) ρ'' | .bk ρ'' => .nx ρ'' | o => o) := k2
        cases eo : evs B n body ρ2 with
        | nx ρ3 => rw [eo] at k2; exact fun G3 H3 σ4 I4 s4 => ⟨ρ3, G3, I4, s2.trans s4, GS.move k2 s4⟩
        | ct ρ3 => rw [eo] at k2; exact fun G3 H3 σ4 I4 s4 => ⟨ρ3, G3, I4, s2.trans s4, GS.move k2 s4⟩
        | bk ρ3 => rw [eo] at k2; exact fun G3 H3 σ4 I4 s4 => k2 G3 H3 σ4 I4 s4
        | ret rv => rw [eo] at k2; cases rv <;> exact k2
        | exc c p ρ3 => rw [eo] at k2; exact k2
        | bad => rw [eo] at k2; exact k2
      | exc c o => exact absurd ea (asgP_exc tg y ρ')
      | bad => rw [ea] at k2; exact k2.elim
  · have hj' : j = xs.length := by omega
    refine .inl ⟨hJj.2 (by omega), ?_⟩
    rw [hj', List.drop_length] at k'
    exact k' G' H' σ' I' (Same.refl _)
theorem ss_sfor (tg : C) {it body : C} (Si : Sd B n N it) (Sb : SBk B n N body) : SS B n N (.sfor tg it body) := by
  intro sc st hc X W S G0 H0 G H ρ σ D I g
  obtain ⟨t, i, x, pos, rfl, h1, h2, h3, h4⟩ : ∃ t i x pos, st = .For t i x [] pos ∧ ckG N sc tg t = true ∧ (ck B N it).i false (isTupE t) sc i = true ∧ notSet i = true ∧ (cks B N body).b sc x = true := by
    have hc : sFor N tg (ck B N it) (cks B N body) sc st = true := hc
    unfold sFor at hc
    split at hc
    · simp only [Bool.and_eq_true] at hc
      exact ⟨_, _, _, _, rfl, hc.1.1.1, hc.1.1.2, hc.1.2, hc.2⟩
    · cases hc
  refine ps_can' (ps_for S.own S.ec.calm pi_can pg_can pss_can (fun y => notSet_folded h3 X.env y)) ?_
  generalize hf : (fun (y : PV) (ρ' : List Slot) => lift (asgP tg y ρ') ρ' fun ρ'' => evs B n body ρ'') = f
  have g0 : GS X.K (XB B X) W D G0 H0 G (lift ((ev (φn B n) B.κ it ρ).bind lstOf) ρ fun xs => forL f xs ρ) := by
    rw [← hf]; exact g
  refine Si.i false sc t i h2 X W S.ec G0 H0 G H ρ σ _ I ((g0.lift I).bind.imp fun l _ k => ?_)
  cases l with
  | lst xs =>
    have k : GS X.K (XB B X) W D G0 H0 G (forL f xs ρ) := k
    refine ⟨xs, rfl, fun G1 H1 J e1 hJ hz => ?_⟩
    exact loop_go tg Sb S h1 h4 hf (I.grow e1) hJ (GS.move k e1.gs)
  | _ => exact k.elim
/-- for tg in f(a, x.pop())[k] -/
theorem ss_sfp (tg : C) (i f : Nat) {a : C} (kk : Int) {body : C} (Sa : Sd B n N a) (Sb : SBk B n N body) : SS B n N (.sfp tg i f a kk body) := by
  intro sc st hc X W S G0 H0 G H ρ σ D I g
  obtain ⟨t, fx, pf, e1, y, py, m, ap, cp, cpos, j, kpos, spos, x, pos, rfl, h1, h2, h3, h4, h5, h6, h7, h8, h9, h10⟩ : ∃ t fx pf e1 y py m ap cp cpos j kpos spos x pos, st = .For t (.Subscript (.Call (.Name fx pf) [e1, .Call (.Attribute (.Name y py) m ap) [] [] cp] [] cpos) (.Constant (.int kk) j kpos) spos) x [] pos ∧
      ckG N sc tg t = true ∧ nmB (B.fnm f) fx = true ∧ glB sc fx = true ∧ (B.TT f).isSome = true ∧ (ck B N a).e false sc e1 = true ∧ notStar e1 = true ∧ ckVar N sc i y = true ∧ m = "pop" ∧ (ap.endLine == cp.line) = true ∧ (cks B N body).b sc x = true := by
    have hc : sFp B N tg i f (ck B N a) kk (cks B N body) sc st = true := hc
    unfold sFp at hc
    split at hc
    · simp only [Bool.and_eq_true] at hc
      obtain ⟨⟨⟨⟨⟨⟨⟨⟨⟨⟨h1, h2⟩, h3⟩, h4⟩, h5⟩, h6⟩, h7⟩, h8⟩, h9⟩, h11⟩, h10⟩ := hc
      have e := of_decide_eq_true h11
      subst e
      exact ⟨_, _, _, _, _, _, _, _, _, _, _, _, _, _, _, rfl, h1, h2, h3, h4, h5, h6, h7, sEq_ok h8, h9, h10⟩
    · cases hc
  subst h8
  have E := S.ec
  refine ps_can' (ps_for S.own S.ec.calm pi_can pg_can pss_can (fun y => notSet_folded rfl X.env y)) ?_
  generalize hf : (fun (y : PV) (ρ' : List Slot) => lift (asgP tg y ρ') ρ' fun ρ'' => evs B n body ρ'') = ff
  have g0 : GS X.K (XB B X) W D G0 H0 G (lift (ev (φn B n) B.κ a ρ) ρ fun v => lift (ownAt ρ i) ρ fun xs => match xs.getLast? with
    | none => .bad
    | some q => lift (φn B n f [v, q]) (ρ.set i (.own xs.dropLast)) fun r => lift ((shrOf r).bind fun p => (ixP p (.int kk)).bind tupOf) (ρ.set i (.own xs.dropLast)) fun ys => forL ff ys (ρ.set i (.own xs.dropLast))) := by
    rw [← hf]; exact g
  obtain ⟨g1, g2, g3⟩ := glB_ok h3
  obtain ⟨d, hT⟩ := Option.isSome_iff_exists.mp h4
  obtain ⟨fa, fd, ps, m1, m2, m3, m4, F⟩ := E.wo.fns f fx d (nmB_ok h2) hT
  have hp2 : notStar (.Call (.Attribute (.Name y py) "pop" ap) [] [] cp) = true := rfl
  refine tcI_imp (R := fun J H' => ∃ b vs G' xs ys, J = Itt X.K b ∧ SI X.K G0 H0 G' H' (ρ.set i (.own xs)) σ ∧ SqT X.K H' b vs ∧ vs.length = ys.length ∧ (∀ G2 H2, cnd false G' H' G2 H2 → Same G2 H2 → SqT X.K H2 b vs ∧ Reps X.K G2 vs ys) ∧ GS X.K (XB B X) W D G0 H0 G' (forL ff ys (ρ.set i (.own xs)))) (pi_can' (pi_tup pe_can) ?_) fun J H' pins s J' hR => ?_
  · refine pe_can' (pe_ix (ixCan_ok X) (pe_callS F E.room (E.gl g1) m1 m2 m3 (fun σ => passAt E.takes σ) (pa_cons pe_can (pa_cons (pe_bm0 PySem.F.plainAttrs_list PySem.F.slot_list_pop PySem.F.type_list_pop mt_pop pe_can rfl h9) pa_nil (star_of hp2)) (star_of h6)) g2 (star_of h6) (nostars (by rw [List.all_cons, hp2]; rfl))) pe_can (notSlice_ok rfl)) ?_
    refine Sa.e false sc e1 h5 X W E G0 H0 G H ρ σ _ I ((g0.lift I).imp fun v _ k1 G1 H1 v1 ex1 r1 => ?_)
    have I1 := I.grow ex1
    obtain ⟨xs, hi, k2⟩ := ownAt_ok k1
    obtain ⟨b, vs, hb, gb, hb0, hh, rr⟩ := I1.own hi
    refine name_ok E h7 hb ?_
    refine ⟨.inl ⟨rfl, vs, .inl (.inl hh)⟩, ?_⟩
    have k2 : GS X.K (XB B X) W D G0 H0 G (match xs.getLast? with
      | none => .bad
      | some q => lift (φn B n f [v, q]) (ρ.set i (.own xs.dropLast)) fun r => lift ((shrOf r).bind fun p => (ixP p (.int kk)).bind tupOf) (ρ.set i (.own xs.dropLast)) fun ys => forL ff ys (ρ.set i (.own xs.dropLast))) := k2
    cases hl : xs.getLast? with
    | none => rw [hl] at k2; exact k2.elim
    | some q =>
      rw [hl] at k2
      have hq : xs[xs.length - 1]? = some q := by rw [← List.getLast?_eq_getElem?]; exact hl
      obtain ⟨u, hu, ru⟩ := rr.get hq
      refine ⟨b, vs, u, rfl, rfl, hh, by rw [rr.length]; exact hu, ?_⟩
      have hdl : Reps X.K G1 vs.dropLast xs.dropLast := by
        rw [List.dropLast_eq_take, List.dropLast_eq_take, rr.length]
        exact rr.take _
      have I2 := I1.write hi hb hdl
      have k3 : GS X.K (XB B X) W D G0 H0 G1 (lift (φn B n f [v, q]) (ρ.set i (.own xs.dropLast)) fun r => lift ((shrOf r).bind fun p => (ixP p (.int kk)).bind tupOf) (ρ.set i (.own xs.dropLast)) fun ys => forL ff ys (ρ.set i (.own xs.dropLast))) := GS.move k2 ex1.gs
      refine ⟨G1, [v, q], I2.sub, .cons r1 (.cons ru .nil), ?_, ?_⟩
      · refine callN_len (n := n) hT fun hbad => ?_
        have hbad : φn B n f [v, q] = .bad := hbad
        rw [hbad] at k3
        exact k3
      · have k4 := GS.lift k3 I2
        show GF X.K (XB B X) G1 _ (φn B n f [v, q]) _ _
        cases er : φn B n f [v, q] with
        | bad => rw [er] at k4; exact k4.elim
        | exc c o => rw [er] at k4; exact fun G2 H2 cls d e2 xx => k4 G2 H2 cls d e2 xx
        | ok r =>
          rw [er] at k4
          cases r with
          | own zs => exact k4.elim
          | obj n1 n2 => exact k4.elim
          | shr p =>
            intro G2 H2 w e2 rp
            have I3 := I2.grow e2
            have k5 : GS X.K (XB B X) W D G0 H0 G1 (lift ((ixP p (.int kk)).bind tupOf) (ρ.set i (.own xs.dropLast)) fun ys => forL ff ys (ρ.set i (.own xs.dropLast))) := k4
            refine ckK_ok (p := .int kk) (G := G2) (by show decide (kk = kk) = true; exact decide_eq_true rfl) fun w2 rw2 => ?_
            have k6 := GS.lift (GS.move k5 e2.gs) I3
            refine ix_ok (XI := XB B X) (W := W) (σ := σ) (units65 E.room) I3.sub (.inl rp) (.inl rw2) (GX.ge (G := G2) (H := H2) (k6.bind.imp fun z _ k7 G3 H3 w3 e3 r3 => ?_) (Ext.refl I3.sub))
            cases z with
            | tup ys =>
              have I4 := I3.grow e3
              obtain ⟨b2, vs2, rfl, hb2, hl2, hw2⟩ := cndT (rd := false) I4.sub r3
              exact ⟨b2, rfl, ⟨vs2, hb2⟩, b2, vs2, G3, xs.dropLast, ys, rfl, I4, hb2, hl2, hw2, GS.move k7 e3.gs⟩
            | _ => exact k7.elim
  · obtain ⟨b, vs, G1, xs, ys, rfl, I1, hb, hl, hw, k⟩ := hR
    exact loop_go tg Sb S h1 h10 hf I1 (itt_ok hw) k
/-- for tg in a[x.pop()][k] -/
theorem ss_sfd (tg : C) (i : Nat) {a : C} (kk : Int) {body : C} (Sa : Sd B n N a) (Sb : SBk B n N body) : SS B n N (.sfd tg i a kk body) := by
  intro sc st hc X W S G0 H0 G H ρ σ D I g
  obtain ⟨t, e1, y, py, m, ap, cp, cpos, j, kpos, spos, x, pos, rfl, h1, h5, h7, h8, h9, h10⟩ : ∃ t e1 y py m ap cp cpos j kpos spos x pos, st = .For t (.Subscript (.Subscript e1 (.Call (.Attribute (.Name y py) m ap) [] [] cp) cpos) (.Constant (.int kk) j kpos) spos) x [] pos ∧
      ckG N sc tg t = true ∧ (ck B N a).e false sc e1 = true ∧ ckVar N sc i y = true ∧ m = "pop" ∧ (ap.endLine == cp.line) = true ∧ (cks B N body).b sc x = true := by
    have hc : sFd N tg i (ck B N a) kk (cks B N body) sc st = true := hc
    unfold sFd at hc
    split at hc
    · simp only [Bool.and_eq_true] at hc
      obtain ⟨⟨⟨⟨⟨⟨h1, h5⟩, h7⟩, h8⟩, h9⟩, h11⟩, h10⟩ := hc
      have e := of_decide_eq_true h11
      subst e
      exact ⟨_, _, _, _, _, _, _, _, _, _, _, _, _, rfl, h1, h5, h7, sEq_ok h8, h9, h10⟩
    · cases hc
  subst h8
  have E := S.ec
  refine ps_can' (ps_for S.own S.ec.calm pi_can pg_can pss_can (fun y => notSet_folded rfl X.env y)) ?_
  generalize hf : (fun (y : PV) (ρ' : List Slot) => lift (asgP tg y ρ') ρ' fun ρ'' => evs B n body ρ'') = ff
  have g0 : GS X.K (XB B X) W D G0 H0 G (lift (ev (φn B n) B.κ a ρ) ρ fun v => lift (ownAt ρ i) ρ fun xs => match xs.getLast? with
    | none => .bad
    | some q => lift ((ixP v q).bind fun p => (ixP p (.int kk)).bind tupOf) (ρ.set i (.own xs.dropLast)) fun ys => forL ff ys (ρ.set i (.own xs.dropLast))) := by
    rw [← hf]; exact g
  refine tcI_imp (R := fun J H' => ∃ b vs G' xs ys, J = Itt X.K b ∧ SI X.K G0 H0 G' H' (ρ.set i (.own xs)) σ ∧ SqT X.K H' b vs ∧ vs.length = ys.length ∧ (∀ G2 H2, cnd false G' H' G2 H2 → Same G2 H2 → SqT X.K H2 b vs ∧ Reps X.K G2 vs ys) ∧ GS X.K (XB B X) W D G0 H0 G' (forL ff ys (ρ.set i (.own xs)))) (pi_can' (pi_tup pe_can) ?_) fun J H' pins s J' hR => ?_
  · refine pe_can' (pe_ix (ixCan_ok X) (pe_ix (ixCan_ok X) pe_can (pe_bm0 PySem.F.plainAttrs_list PySem.F.slot_list_pop PySem.F.type_list_pop mt_pop pe_can rfl h9) (notSlice_ok rfl)) pe_can (notSlice_ok rfl)) ?_
    refine Sa.e false sc e1 h5 X W E G0 H0 G H ρ σ _ I ((g0.lift I).imp fun v _ k1 G1 H1 v1 ex1 r1 => ?_)
    have I1 := I.grow ex1
    obtain ⟨xs, hi, k2⟩ := ownAt_ok k1
    obtain ⟨b, vs, hb, gb, hb0, hh, rr⟩ := I1.own hi
    refine name_ok E h7 hb ?_
    refine ⟨.inl ⟨rfl, vs, .inl (.inl hh)⟩, ?_⟩
    have k2 : GS X.K (XB B X) W D G0 H0 G (match xs.getLast? with
      | none => .bad
      | some q => lift ((ixP v q).bind fun p => (ixP p (.int kk)).bind tupOf) (ρ.set i (.own xs.dropLast)) fun ys => forL ff ys (ρ.set i (.own xs.dropLast))) := k2
    cases hl : xs.getLast? with
    | none => rw [hl] at k2; exact k2.elim
    | some q =>
      rw [hl] at k2
      have hq : xs[xs.length - 1]? = some q := by rw [← List.getLast?_eq_getElem?]; exact hl
      obtain ⟨u, hu, ru⟩ := rr.get hq
      refine ⟨b, vs, u, rfl, rfl, hh, by rw [rr.length]; exact hu, ?_⟩
      have hdl : Reps X.K G1 vs.dropLast xs.dropLast := by
        rw [List.dropLast_eq_take, List.dropLast_eq_take, rr.length]
        exact rr.take _
      have I2 := I1.write hi hb hdl
      have k3 : GS X.K (XB B X) W D G0 H0 G1 (lift ((ixP v q).bind fun p => (ixP p (.int kk)).bind tupOf) (ρ.set i (.own xs.dropLast)) fun ys => forL ff ys (ρ.set i (.own xs.dropLast))) := GS.move k2 ex1.gs
      have k4 := GS.lift k3 I2
      refine ix_ok (XI := XB B X) (W := W) (σ := σ) (units65 E.room) I2.sub (.inl r1) (.inl ru) (GX.ge (G := G1) (k4.bind.imp fun p _ k5 G2 H2 w e2 rp => ?_) (Ext.refl I2.sub))
      have I3 := I2.grow e2
      refine ckK_ok (p := .int kk) (G := G2) (by show decide (kk = kk) = true; exact decide_eq_true rfl) fun w2 rw2 => ?_
      have k6 : GX (XB B X) W G2 H2 σ (fun ys => GS X.K (XB B X) W D G0 H0 G1 (forL ff ys (ρ.set i (.own xs.dropLast)))) ((ixP p (.int kk)).bind tupOf) := GX.move k5 e2 fun q k => k
      refine ix_ok (XI := XB B X) (W := W) (σ := σ) (units65 E.room) I3.sub (.inl rp) (.inl rw2) (GX.ge (G := G2) (H := H2) (k6.bind.imp fun z _ k7 G3 H3 w3 e3 r3 => ?_) (Ext.refl I3.sub))
      cases z with
      | tup ys =>
        have I4 := I3.grow e3
        have k7 : GS X.K (XB B X) W D G0 H0 G1 (forL ff ys (ρ.set i (.own xs.dropLast))) := k7
        obtain ⟨b2, vs2, rfl, hb2, hl2, hw2⟩ := cndT (rd := false) I4.sub r3
        exact ⟨b2, rfl, ⟨vs2, hb2⟩, b2, vs2, G3, xs.dropLast, ys, rfl, I4, hb2, hl2, hw2, GS.move k7 (e2.gs.trans e3.gs)⟩
      | _ => exact k7.elim
  · obtain ⟨b, vs, G1, xs, ys, rfl, I1, hb, hl, hw, k⟩ := hR
    exact loop_go tg Sb S h1 h10 hf I1 (itt_ok hw) k
theorem ss_swh {c body : C} (Sc : Sd B n N c) (Sb : SBk B n N body) : SS B n N (.swh c body) := by
  intro sc st hc X W S G0 H0 G H ρ σ D I g
  obtain ⟨t, x, pos, rfl, h1, h2⟩ : ∃ t x pos, st = .While t x [] pos ∧ (ck B N c).t sc t = true ∧ (cks B N body).b sc x = true := by
    have hc : sWh (ck B N c) (cks B N body) sc st = true := hc
    unfold sWh at hc
    split at hc
    · simp only [Bool.and_eq_true] at hc
      exact ⟨_, _, _, rfl, hc.1, hc.2⟩
    · cases hc
  refine ps_can' (ps_while S.own pt_can pss_can) ?_
  have g0 : GS X.K (XB B X) W D G0 H0 G (whL (fun ρ' => (ev (φn B n) B.κ c ρ').bind truP) (fun ρ' => evs B n body ρ') B.wf ρ) := g
  refine ⟨fun m σ' H' => ∃ ρ' G', SI X.K G0 H0 G' H' ρ' σ' ∧ GS X.K (XB B X) W D G0 H0 G' (whL (fun ρ' => (ev (φn B n) B.κ c ρ').bind truP) (fun ρ' => evs B n body ρ') m ρ'), ⟨B.wf, ρ, G, I, g0⟩, fun m σ' H' hW => ?_⟩
  obtain ⟨ρ', G', I', k⟩ := hW
  cases m with
  | zero => exact k.elim
  | succ m =>
    have k : GS X.K (XB B X) W D G0 H0 G' (match (ev (φn B n) B.κ c ρ').bind truP with
      | .ok true => (match evs B n body ρ' with
        | .nx ρ2 => whL (fun ρ' => (ev (φn B n) B.κ c ρ').bind truP) (fun ρ' => evs B n body ρ') m ρ2
        | .ct ρ2 => whL (fun ρ' => (ev (φn B n) B.κ c ρ').bind truP) (fun ρ' => evs B n body ρ') m ρ2
        | .bk ρ2 => .nx ρ2
        | o => o)
      | .ok false => .nx ρ'
      | .exc c p => .exc c p ρ'
      | .bad => .bad) := k
    refine Sc.t sc t h1 X W S.ec G0 H0 G' H' ρ' σ' _ I' ?_
    cases ec : (ev (φn B n) B.κ c ρ').bind truP with
    | ok b =>
      rw [ec] at k
      intro G2 H2 e2
      have I2 := I'.grow e2
      cases b with
      | false => exact iteF (k G2 H2 σ' I2 e2.gs)
      | true =>
        refine iteT ⟨fun σ3 H3 => ∃ ρ3 G3, SI X.K G0 H0 G3 H3 ρ3 σ3 ∧ GS X.K (XB B X) W D G0 H0 G3 (whL (fun ρ' => (ev (φn B n) B.κ c ρ').bind truP) (fun ρ' => evs B n body ρ') m ρ3), fun σ3 H3 hN => ⟨m, Nat.lt_succ_self _, hN⟩, ?_⟩
        refine Sb sc x h2 X W S G0 H0 G2 H2 ρ' σ' _ I2 ?_
        have k2 : GS X.K (XB B X) W D G0 H0 G2 (match evs B n body ρ' with
          | .nx ρ2 => whL (fun ρ' => (ev (φn B n) B.κ c ρ').bind truP) (fun ρ' => evs B n body ρ') m ρ2
          | .ct ρ2 => whL (fun ρ' => (ev (φn B n) B.κ c ρ').bind truP) (fun ρ' => evs B n body ρ') m ρ2
          | .bk ρ2 => .nx ρ2
          | o => o) := GS.move k e2.gs
        cases eo : evs B n body ρ' with
        | nx ρ3 => rw [eo] at k2; exact fun G3 H3 σ4 I4 s4 => ⟨ρ3, G3, I4, GS.move k2 s4⟩
        | ct ρ3 => rw [eo] at k2; exact fun G3 H3 σ4 I4 s4 => ⟨ρ3, G3, I4, GS.move k2 s4⟩
        | bk ρ3 => rw [eo] at k2; exact fun G3 H3 σ4 I4 s4 => k2 G3 H3 σ4 I4 s4
        | ret rv => rw [eo] at k2; cases rv <;> exact k2
        | exc c p ρ3 => rw [eo] at k2; exact k2
        | bad => rw [eo] at k2; exact k2
    | exc c' p =>
      rw [ec] at k
      exact fun G2 H2 cls d e2 xx => k G2 H2 σ' cls d (I'.grow e2) e2.gs xx
    | bad => rw [ec] at k; exact k
/-! ### errors that are caught -/
section
variable {X : Cx} {a : Addr} {oe : Obj} {pn : List (Addr × Obj)} {sc : Scope} {W : WX}
/-- an expression of an except clause, as a value and as a test -/
def NmAt (X : Cx) (ie : Option Str) (a : Addr) (σ : L2.St) : Prop := ∀ ne : Str, ie = some ne → ∃ i : Nat, X.N[i]? = some ne ∧ Vis X.env.scope ne ∧ (ne == ("__debug__" : Str)) = false ∧ (ne == ("__classdict__" : Str)) = false ∧ σ[i]? = some (some (V.ref a))
/-- the error's field -/
def FdAt (B : Tb) (K : PySem.W.Frag) (G H : Hp) (c0 : Nat) (q0 : Option PV) (d0 : Option Addr) : Prop := ∀ q, q0 = some q → ∃ dd fl v, B.xfl c0 = some fl ∧ d0 = some dd ∧ H dd = some (.xd [(fl, v)]) ∧ Rep K G v q
theorem FdAt.mono {K : PySem.W.Frag} {G H G' H' : Hp} {c0 : Nat} {q0 : Option PV} {d0 : Option Addr} (h : FdAt B K G H c0 q0 d0) (e : Ext G H G' H') : FdAt B K G' H' c0 q0 d0 := fun q hq => by
  obtain ⟨dd, fl, v, h1, h2, h3, h4⟩ := h q hq
  exact ⟨dd, fl, v, h1, h2, e.hs _ _ h3, h4.mono e.gs⟩
theorem evX_ok {Ca : Addr} {ie : Option Str} {c0 : Nat} {x0 : Str} {q0 : Option PV} {d0 : Option Addr} (hq : q0 = none → d0 = none) (E : EC B n N sc X W) (hx0 : B.xnm c0 = some x0) (hm0 : X.mg x0 = some (.ref Ca)) (XCa : XC X.K Ca)
    (hz : Zc (.ref Ca) d0 oe) (hfl : ∃ vs, oe.data = .fields vs) (c : C) :
    (∀ (e : Expr), ckX B ie c sc e = true → ∀ (G H : Hp) (σ : L2.St) (q : PV) (Q : VK), Same G H → NmAt X ie a σ → FdAt B X.K G H c0 q0 d0 → evX B.cx c0 q0 c = .ok q →
      (∀ G' H' v, Ext G H G' H' → Rep X.K G' v q → Q v H') → tcE (X.suite a ((a, oe) :: pn)) e σ H Q) ∧
    (noIfe c = true → ∀ (e : Expr), ckX B ie c sc e = true → ∀ (G H : Hp) (σ : L2.St) (q : PV) (b : Bool) (Q : Bool → Hp → Prop), Same G H → NmAt X ie a σ → FdAt B X.K G H c0 q0 d0 → evX B.cx c0 q0 c = .ok q → truP q = .ok b →
      (∀ G' H', Ext G H G' H' → Q b H') → tcT (X.suite a ((a, oe) :: pn)) e σ H Q) ∧
    (∀ (es : List Expr), ckXs B ie c sc es = true → ∀ (G H : Hp) (σ : L2.St) (q : PV) (Q : List V → Hp → Prop), Same G H → NmAt X ie a σ → FdAt B X.K G H c0 q0 d0 → evX B.cx c0 q0 c = .ok q →
      (∀ qs G' H' vs, q = .lst qs → Ext G H G' H' → Reps X.K G' vs qs → qs.length = es.length → Q vs H') → tcA (X.suite a ((a, oe) :: pn)) es σ H Q) := by
  have noA : ∀ {c' : C} {α : Prop}, (∀ es, ckXs B ie c' sc es = false) → ∀ (es : List Expr), ckXs B ie c' sc es = true → α := fun h es hc => by rw [h es] at hc; cases hc
  have plainB : ∀ {c' : C} (e : Expr), plainT e = true → (∀ (G H : Hp) (σ : L2.St) (q : PV) (Q : VK), Same G H → NmAt X ie a σ → FdAt B X.K G H c0 q0 d0 → evX B.cx c0 q0 c' = .ok q → (∀ G' H' v, Ext G H G' H' → Rep X.K G' v q → Q v H') → tcE (X.suite a ((a, oe) :: pn)) e σ H Q) →
      ∀ (G H : Hp) (σ : L2.St) (q : PV) (b : Bool) (Q : Bool → Hp → Prop), Same G H → NmAt X ie a σ → FdAt B X.K G H c0 q0 d0 → evX B.cx c0 q0 c' = .ok q → truP q = .ok b → (∀ G' H', Ext G H G' H' → Q b H') → tcT (X.suite a ((a, oe) :: pn)) e σ H Q := fun e hp h G H σ q b Q s hs hfd he hb k => by
    refine pt_can' (pt_truth (X := X.suite a ((a, oe) :: pn)) pe_can (fun wh => plainT_ok hp _ wh)) ?_
    exact h G H σ q _ s hs hfd he fun G1 H1 v ex r => ⟨b, tru_rep (X := X) ex.gh (.inl r) hb, k G1 H1 ex⟩
  induction c with
  | k p =>
    have h1 : ∀ (e : Expr), ckX B ie (.k p) sc e = true → ∀ (G H : Hp) (σ : L2.St) (q : PV) (Q : VK), Same G H → NmAt X ie a σ → FdAt B X.K G H c0 q0 d0 → evX B.cx c0 q0 (.k p) = .ok q → (∀ G' H' v, Ext G H G' H' → Rep X.K G' v q → Q v H') → tcE (X.suite a ((a, oe) :: pn)) e σ H Q := by
      intro e hc G H σ q Q s hs hfd he k
      cases e with
      | Constant cc j pos => cases he; exact ckK_ok hc fun v r => k G H v (Ext.refl s) r
      | _ => cases hc
    refine ⟨h1, fun _ e hc => plainB e ?_ (h1 e hc), fun es hc => (by cases es <;> cases hc)⟩
    cases e <;> first | rfl | cases hc
  | isx d =>
    have h1 : ∀ (e : Expr), ckX B ie (.isx d) sc e = true → plainT e = true ∧ ∀ (G H : Hp) (σ : L2.St) (q : PV) (Q : VK), Same G H → NmAt X ie a σ → FdAt B X.K G H c0 q0 d0 → evX B.cx c0 q0 (.isx d) = .ok q → (∀ G' H' v, Ext G H G' H' → Rep X.K G' v q → Q v H') → tcE (X.suite a ((a, oe) :: pn)) e σ H Q := by
      intro e hc
      obtain ⟨x, px, y, py, z, pz, pos, rfl, hk⟩ : ∃ x px y py z pz pos, e = .Call (.Name x px) [.Name y py, .Name z pz] [] pos ∧ (sEq "isinstance" x && glB sc x && ckNm ie y && nmB (B.xnm d) z && glB sc z) = true := by
        unfold ckX at hc
        split at hc <;> first | contradiction | skip
        all_goals first | exact ⟨_, _, _, _, _, _, _, rfl, hc⟩ | (rename_i hh; cases hh; exact ⟨_, _, _, _, _, _, _, rfl, hc⟩) | cases hc
      refine ⟨rfl, fun G H σ q Q s hs hfd he k => ?_⟩
      simp only [Bool.and_eq_true] at hk
      obtain ⟨⟨⟨⟨h1, h2⟩, h3⟩, h4⟩, h5⟩ := hk
      have e1 := sEq_ok h1
      subst e1
      obtain ⟨g1, g2, g3⟩ := glB_ok h2
      obtain ⟨k1, k2, k3⟩ := glB_ok h5
      obtain ⟨Cb, m1, _⟩ := E.wo.xcl d z (nmB_ok h4)
      have hcx := (E.wo.xcx c0 d x0 z Ca Cb hx0 (nmB_ok h4) hm0 m1).2
      have hne : ie = some y := by
        unfold ckNm at h3
        split at h3
        · rw [sEq_ok h3]
        · cases h3
      obtain ⟨i, hie, hv, hd1, hd2, hsi⟩ := hs y hne
      cases q0 with
      | some q1 =>
        obtain ⟨dd, fl, vv, _, hd0, hdd, _⟩ := hfd q1 rfl
        subst hd0
        cases he
        refine pe_can' (pe_callB (call_isX XCa.is hz hfl) (E.gl g1) (E.blt (by decide +kernel)) boot_isinstance (pa_cons (pe_var (i := i) hie hv hd1 hd2) (pa_cons (pe_glob (v := .ref Cb) (E.gl k1) m1 rfl k2) pa_nil)) g3 g2 rfl rfl) ?_
        exact ⟨.ref a, hsi, .ref Cb, .ref Cb, _, _, rfl, fun u r => r, hcx, hdd, k G H _ (Ext.refl s) (.bl _)⟩
      | none =>
        have hd0 := hq rfl
        subst hd0
        cases he
        refine pe_can' (pe_callB (call_isE XCa.is hz hfl) (E.gl g1) (E.blt (by decide +kernel)) boot_isinstance (pa_cons (pe_var (i := i) hie hv hd1 hd2) (pa_cons (pe_glob (v := .ref Cb) (E.gl k1) m1 rfl k2) pa_nil)) g3 g2 rfl rfl) ?_
        exact ⟨.ref a, hsi, .ref Cb, .ref Cb, _, rfl, fun u r => r, hcx, k G H _ (Ext.refl s) (.bl _)⟩
    exact ⟨fun e hc => (h1 e hc).2, fun _ e hc => plainB e (h1 e hc).1 (h1 e hc).2, fun es hc => (by cases es <;> cases hc)⟩
  | nt b ih =>
    refine ⟨fun e hc G H σ q Q s hs hfd he k => ?_, fun hn e hc G H σ q bb Q s hs hfd he hb k => ?_, fun es hc => (by cases es <;> cases hc)⟩
    · cases e with
      | UnaryOp op x pos =>
        cases op with
        | Not =>
          have he : ((evX B.cx c0 q0 b).bind fun x => (truP x).bind fun t => .ok (.bl (!t))) = .ok q := he
          obtain ⟨p, e1, he⟩ := bind_ok he
          obtain ⟨t, e2, he⟩ := bind_ok he
          cases he
          refine pe_can' (pe_notT pe_can) ?_
          exact ih.1 x hc G H σ p _ s hs hfd e1 fun G1 H1 v ex r => ⟨t, tru_rep (X := X) ex.gh (.inl r) e2, k G1 H1 _ ex (.bl _)⟩
        | _ => cases hc
      | _ => cases hc
    · cases e with
      | UnaryOp op x pos =>
        cases op with
        | Not =>
          have he : ((evX B.cx c0 q0 b).bind fun x => (truP x).bind fun t => .ok (.bl (!t))) = .ok q := he
          obtain ⟨p, e1, he⟩ := bind_ok he
          obtain ⟨t, e2, he⟩ := bind_ok he
          cases he
          cases hb
          refine pt_can' (pt_not pt_can) ?_
          exact ih.2.1 hn x hc G H σ p t _ s hs hfd e1 e2 k
        | _ => cases hc
      | _ => cases hc
  | an b1 b2 ih1 ih2 =>
    have key : ∀ e, ckX B ie (.an b1 b2) sc e = true → ∃ x y pos, e = .BoolOp .And [x, y] pos ∧ ckX B ie b1 sc x = true ∧ ckX B ie b2 sc y = true := fun e hc => by
      cases e with
      | BoolOp op vs pos =>
        cases op with
        | And =>
          match vs, hc with
          | [x, y], hc =>
            have hc : (ckX B ie b1 sc x && ckX B ie b2 sc y) = true := hc
            simp only [Bool.and_eq_true] at hc
            exact ⟨x, y, pos, rfl, hc.1, hc.2⟩
          | [], hc => cases hc
          | [_], hc => cases hc
          | _ :: _ :: _ :: _, hc => cases hc
        | Or => cases hc
      | _ => cases hc
    refine ⟨fun e hc G H σ q Q s hs hfd he k => ?_, fun hn e hc G H σ q bb Q s hs hfd he hb k => ?_, fun es hc => (by cases es <;> cases hc)⟩
    · obtain ⟨x, y, pos, rfl, h1, h2⟩ := key e hc
      have he : ((evX B.cx c0 q0 b1).bind fun x => (truP x).bind fun t => if t then evX B.cx c0 q0 b2 else .ok x) = .ok q := he
      obtain ⟨p, e1, he⟩ := bind_ok he
      obtain ⟨t, e2, he⟩ := bind_ok he
      refine pe_can' (pe_andT pe_can (pe_one pe_can)) ?_
      refine ih1.1 x h1 G H σ p _ s hs hfd e1 fun G1 H1 v ex r => ⟨t, tru_rep (X := X) ex.gh (.inl r) e2, ?_⟩
      cases t with
      | true => exact iteT (ih2.1 y h2 G1 H1 σ q _ ex.gh hs (hfd.mono ex) he fun G2 H2 w e3 r3 => k G2 H2 w (ex.trans e3) r3)
      | false => cases he; exact iteF (k G1 H1 v ex r)
    · obtain ⟨x, y, pos, rfl, h1, h2⟩ := key e hc
      have hn : (noIfe b1 && noIfe b2) = true := hn
      simp only [Bool.and_eq_true] at hn
      have he : ((evX B.cx c0 q0 b1).bind fun x => (truP x).bind fun t => if t then evX B.cx c0 q0 b2 else .ok x) = .ok q := he
      obtain ⟨p, e1, he⟩ := bind_ok he
      obtain ⟨t, e2, he⟩ := bind_ok he
      refine tcT_of_W (pw_can' (pw_and pt_can (pw_and1 pt_can)) ?_)
      refine ih1.2.1 hn.1 x h1 G H σ p t _ s hs hfd e1 e2 fun G1 H1 ex => ?_
      cases t with
      | true => exact iteT (ih2.2.1 hn.2 y h2 G1 H1 σ q bb _ ex.gh hs (hfd.mono ex) he hb fun G2 H2 e3 => k G2 H2 (ex.trans e3))
      | false =>
        cases he
        rw [e2] at hb
        cases hb
        exact iteF (k G1 H1 ex)
  | ife d b1 b2 ihd ih1 ih2 =>
    refine ⟨fun e hc G H σ q Q s hs hfd he k => ?_, fun hn => (by cases hn), fun es hc => (by cases es <;> cases hc)⟩
    cases e with
    | IfExp t x y pos =>
      have hc : (ckX B ie d sc t && ckX B ie b1 sc x && ckX B ie b2 sc y && noIfe d) = true := hc
      simp only [Bool.and_eq_true] at hc
      obtain ⟨⟨⟨h0, h1⟩, h2⟩, h3⟩ := hc
      have he : ((evX B.cx c0 q0 d).bind fun x => (truP x).bind fun t => if t then evX B.cx c0 q0 b1 else evX B.cx c0 q0 b2) = .ok q := he
      obtain ⟨p, e1, he⟩ := bind_ok he
      obtain ⟨tb, e2, he⟩ := bind_ok he
      refine pe_can' (pe_ifExp pt_can pe_can pe_can) ?_
      refine ihd.2.1 h3 t h0 G H σ p tb _ s hs hfd e1 e2 fun G1 H1 ex => ?_
      cases tb with
      | true => exact iteT (ih1.1 x h1 G1 H1 σ q _ ex.gh hs (hfd.mono ex) he fun G2 H2 w e3 r3 => k G2 H2 w (ex.trans e3) r3)
      | false => exact iteF (ih2.1 y h2 G1 H1 σ q _ ex.gh hs (hfd.mono ex) he fun G2 H2 w e3 r3 => k G2 H2 w (ex.trans e3) r3)
    | _ => cases hc
  | xf d =>
    refine ⟨fun e hc G H σ q Q s hs hfd he k => ?_, fun hn => (by cases hn), fun es hc => (by cases es <;> cases hc)⟩
    cases e with
    | Attribute e0 f pos =>
      cases e0 with
      | Name y py =>
        have hc : (ckNm ie y && nmB (B.xfl d) f) = true := hc
        simp only [Bool.and_eq_true] at hc
        have hne : ie = some y := by
          have h3 := hc.1
          unfold ckNm at h3
          split at h3
          · rw [sEq_ok h3]
          · cases h3
        obtain ⟨i, hie, hv, hd1, hd2, hsi⟩ := hs y hne
        cases q0 with
        | none => cases he
        | some q1 =>
          have he : (if c0 == d then Res.ok q1 else .bad) = .ok q := he
          cases hcd : c0 == d with
          | false => rw [hcd] at he; cases he
          | true =>
            have e9 : q1 = q := by
              rw [hcd] at he
              exact Res.ok.inj he
            clear he
            have e1 := eq_of_beq hcd
            subst e1
            subst e9
            obtain ⟨dd, fl, vv, xl, hd0, hdd, rv⟩ := hfd q1 rfl
            have e2 : fl = f := by
              have z := xl.symm.trans (nmB_ok hc.2)
              cases z; rfl
            subst e2
            have T := E.wo.xin c0 x0 fl Ca hx0 xl hm0
            refine pe_can' (pe_xf T.xf T.no hz hfl (pe_var (X := X.suite a ((a, oe) :: pn)) (i := i) hie hv hd1 hd2)) ?_
            exact ⟨_, hsi, rfl, rfl, dd, [(fl, vv)], vv, hd0, hdd, by simp [List.lookup], k G H _ (Ext.refl s) rv⟩
      | _ => cases hc
    | _ => cases hc
  | tup es ih =>
    refine ⟨fun e hc G H σ q Q s hs hfd he k => ?_, fun hn => (by cases hn), fun es hc => (by cases es <;> cases hc)⟩
    cases e with
    | Tuple vs cx' pos =>
      have hc : (ckXs B ie es sc vs && Nat.ble vs.length 1000) = true := hc
      simp only [Bool.and_eq_true] at hc
      have he : ((evX B.cx c0 q0 es).bind fun l => (lstOf l).bind fun xs => .ok (.tup xs)) = .ok q := he
      obtain ⟨l, e1, he⟩ := bind_ok he
      obtain ⟨xs, e2, he⟩ := bind_ok he
      cases he
      refine pe_can' (pe_tup pa_can) ?_
      refine ih.2.2 vs hc.1 G H σ l _ s hs hfd e1 fun qs G1 H1 us el ex rs hlen => ?_
      subst el
      cases e2
      exact ⟨by rw [rs.length, hlen]; exact ble1000 hc.2, fun p hp => k _ _ _ (ex.trans (Ext.new ex.gh hp)) (repTup rs (ex.gh.free hp))⟩
    | _ => cases hc
  | dsp es ih =>
    refine ⟨fun e hc G H σ q Q s hs hfd he k => ?_, fun hn => (by cases hn), fun es hc => (by cases es <;> cases hc)⟩
    cases e with
    | List vs pos =>
      have hc : (ckXs B ie es sc vs && Nat.ble vs.length 1000) = true := hc
      simp only [Bool.and_eq_true] at hc
      have he : ((evX B.cx c0 q0 es).bind fun l => (lstOf l).bind fun xs => .ok (.lst xs)) = .ok q := he
      obtain ⟨l, e1, he⟩ := bind_ok he
      obtain ⟨xs, e2, he⟩ := bind_ok he
      cases he
      refine pe_can' (pe_lst pa_can) ?_
      refine ih.2.2 vs hc.1 G H σ l _ s hs hfd e1 fun qs G1 H1 us el ex rs hlen => ?_
      subst el
      cases e2
      exact ⟨by rw [rs.length, hlen]; exact ble1000 hc.2, fun p hp => k _ _ _ (ex.trans (Ext.new ex.gh hp)) (repLst rs (ex.gh.free hp))⟩
    | _ => cases hc
  | nil =>
    refine ⟨fun e hc => (by cases e <;> cases hc), fun _ e hc => (by cases e <;> cases hc), fun es hc G H σ q Q s hs hfd he k => ?_⟩
    cases es with
    | nil =>
      cases he
      exact pa_can' pa_nil (k [] G H [] rfl (Ext.refl s) .nil rfl)
    | cons x xs => cases hc
  | cons b bs ih1 ih2 =>
    refine ⟨fun e hc => (by cases e <;> cases hc), fun _ e hc => (by cases e <;> cases hc), fun es hc G H σ q Q s hs hfd he k => ?_⟩
    cases es with
    | nil => cases hc
    | cons x xs =>
      have hc : (ckX B ie b sc x && notStar x && ckXs B ie bs sc xs) = true := hc
      simp only [Bool.and_eq_true] at hc
      obtain ⟨⟨h1, h2⟩, h3⟩ := hc
      have he : ((evX B.cx c0 q0 b).bind fun x => (evX B.cx c0 q0 bs).bind fun l => (lstOf l).bind fun xs => .ok (.lst (x :: xs))) = .ok q := he
      obtain ⟨p, e1, he⟩ := bind_ok he
      obtain ⟨l, e2, he⟩ := bind_ok he
      obtain ⟨ps, e3, he⟩ := bind_ok he
      cases he
      refine pa_can' (pa_cons pe_can pa_can (star_of h2)) ?_
      refine ih1.1 x h1 G H σ p _ s hs hfd e1 fun G1 H1 v ex r => ?_
      refine ih2.2.2 xs h3 G1 H1 σ l _ ex.gh hs (hfd.mono ex) e2 fun qs G2 H2 vs el ex2 rs hlen => ?_
      subst el
      cases e3
      exact k _ G2 H2 (v :: vs) rfl (ex.trans ex2) (.cons (r.mono ex2.gs) rs) (by simp [hlen])
  | _ => exact ⟨fun e hc => (by cases e <;> cases hc), fun _ e hc => (by cases e <;> cases hc), fun es hc => (by cases es <;> cases hc)⟩
end
/-- the context of a try's body -/
theorem SC.tr {sc : Scope} {X : Cx} {W W' : WX} (S : SC B n N sc X W) (pn : List (Addr × Obj)) (xe : Value → Shared → Prop) (tk : Takes (X.tr pn xe) W') (po : PassesOwn (model X.prog X.w) X.A X.env xe) : SC B n N sc (X.tr pn xe) W' where
  ec := ⟨S.ec.scope, S.ec.nm, S.ec.nd, S.ec.calm, tk, S.ec.room, S.ec.wo⟩
  tc := ⟨S.tc.nm, S.tc.nd, S.tc.calm, S.tc.loc⟩
  own := po
  stk := S.stk
  frm := S.frm
  fn := S.fn
theorem suite_ok {sc : Scope} {X : Cx} {W : WX} (S : SC B n N sc X W) {c : Nat} {oi : Option Nat} {ne : Option Str} {x0 : Str} {Ca a : Addr} {oe : Obj} {pn : List (Addr × Obj)} {suite : C} {s0 : Stmt} {q0 : Option PV} {d0 : Option Addr} (hq : q0 = none → d0 = none)
    (hoi : ∀ i, oi = some i → ∃ nm, ne = some nm) {σs : L2.St} (hnm : NmAt X ne a σs)
    (xn : B.xnm c = some x0) (xm : X.mg x0 = some (.ref Ca)) (XC0 : XC X.K Ca) (hz : Zc (.ref Ca) d0 oe) (hf : ∃ vs, oe.data = .fields vs) (h8 : ckSu B N ne suite sc s0 = true) {G0 H0 G G' H' : Hp} {ρ' ρs : List Slot} {D D' : Ends} (I' : SI X.K G0 H0 G' H' ρs σs) (sm : Same G G') (hfd : FdAt B X.K G' H' c q0 d0)
    (hrt : D'.rt = D.rt) (hρs : ∀ i, oi = some i → ρs = ρ'.set i .un ∧ ∀ σ' H', D.nx (σ'.set i none) H' → D'.nx σ' H')
    (g2 : GS X.K (XB B X) W D G0 H0 G (suite0 B.cx c q0 oi suite ρ')) :
    tcB (X.suite a ((a, oe) :: pn)) [s0] D' σs H' := by
  have E := S.ec
  unfold ckSu at h8
  split at h8
  · -- return e
    rename_i e v pos
    have g2 : GS X.K (XB B X) W D G0 H0 G (match evX B.cx c q0 e with | .ok q => .ret (.shr q) | _ => .bad) := g2
    cases ev : evX B.cx c q0 e with
    | ok q =>
      rw [ev] at g2
      refine pss_can' (pss_one (ps_ret pe_can)) ?_
      exact (evX_ok hq E xn xm XC0 hz hf e).1 v h8 G' H' _ q _ I'.sub hnm hfd ev fun G2 H2 w e2 r2 => (by rw [hrt]; exact g2 G2 H2 w (I'.ext.trans e2) r2)
    | exc c' o => rw [ev] at g2; exact g2.elim
    | bad => rw [ev] at g2; exact g2.elim
  · -- found.append(e)
    rename_i j e y p0 m ap v p pos2
    simp only [Bool.and_eq_true] at h8
    obtain ⟨⟨⟨⟨k1, k2⟩, k3⟩, k4⟩, k5⟩ := h8
    have k2' := sEq_ok k2
    subst k2'
    cases oi with
    | none => exact g2.elim
    | some i =>
      obtain ⟨hρ, hnx⟩ := hρs i rfl
      subst hρ
      have g2 : GS X.K (XB B X) W D G0 H0 G (match evX B.cx c q0 e with
        | .ok q => lift (ownAt ρ' j) ρ' fun xs => if fits (xs.length + 1) && !(i == j) then .nx ((ρ'.set j (.own (xs ++ [q]))).set i .un) else .bad
        | _ => .bad) := g2
      cases ev : evX B.cx c q0 e with
      | ok q =>
        rw [ev] at g2
        obtain ⟨xs, hi, g3⟩ := ownAt_ok g2
        split at g3
        · rename_i hf2
          simp only [Bool.and_eq_true, Bool.not_eq_true'] at hf2
          have hij : i ≠ j := fun e => by subst e; simp at hf2
          have hi2 : (ρ'.set i Slot.un)[j]? = some (.own xs) := by rw [get_set_ne hij]; exact hi
          obtain ⟨b1, vs, hb1, gb, h0, hh, rr⟩ := I'.own hi2
          refine pss_can' (pss_one (ps_expr (pe_bm PySem.F.plainAttrs_list PySem.F.slot_list_append PySem.F.type_list_append mt_append pe_can (pa_cons pe_can pa_nil (star_of k4)) rfl (by rw [star_of k4]; rfl) k5 (star_of k4) rfl) rfl)) ?_
          have nm : tcE (X.suite a ((a, oe) :: pn)) (.Name y p0) σs H' fun x H1 => x = .ref b1 ∧ H1 = H' := by
            unfold ckVar at k1
            simp only [Bool.and_eq_true, Bool.not_eq_true'] at k1
            obtain ⟨⟨⟨z1, z2⟩, z3⟩, z4⟩ := k1
            exact pe_can' (pe_var (X := X.suite a ((a, oe) :: pn)) (i := j) (by show X.N[j]? = _; rw [E.nm]; exact ixB_ok z1) (E.vis (visB_ok z2)) z3 z4) ⟨_, hb1, rfl, rfl⟩
          refine tcE_imp nm fun x H1 pins s J hx => ?_
          obtain ⟨rfl, rfl⟩ := hx
          refine ⟨.inl ⟨rfl, vs, .inl (.inl hh)⟩, ?_⟩
          refine (evX_ok hq E xn xm XC0 hz hf e).1 v k3 G' _ _ q _ I'.sub hnm hfd ev fun G2 H2 w e2 r2 => ?_
          have I3 := I'.grow e2
          obtain ⟨b2, ws, hb2, _, _, hh2, rr2⟩ := I3.own hi2
          rw [hb1] at hb2; cases hb2
          refine ⟨b1, ws, w, rfl, rfl, hh2, by rw [rr2.length]; exact fits_le hf2.1, ?_⟩
          have I4 := (I3.write hi2 hb1 (rr2.append (.cons r2 .nil))).setUn (i := i) (o := none)
          have eρ : ((ρ'.set i Slot.un).set j (.own (xs ++ [q]))).set i .un = (ρ'.set j (.own (xs ++ [q]))).set i .un := by
            have e5 : (ρ'.set i Slot.un).set j (.own (xs ++ [q])) = (ρ'.set j (.own (xs ++ [q]))).set i Slot.un := List.set_comm _ _ hij
            rw [e5, List.set_set]
          rw [eρ] at I4
          exact hnx _ _ (g3 G2 _ _ I4 (sm.trans e2.gs))
        · exact g3.elim
      | exc c' o => rw [ev] at g2; exact g2.elim
      | bad => rw [ev] at g2; exact g2.elim
  · exact g2.elim
  · cases h8
/-! several except clauses, with names or without -/
abbrev HT1 := Value × Option Nat × (Addr → Value → Option Addr → TS)
def endN (D : Ends) : Option Nat → Ends
  | none => D
  | some i => { nx := fun σ' H' => D.nx (σ'.set i none) H', rt := D.rt, bk := fun σ' H' => D.bk (σ'.set i none) H', ct := fun σ' H' => D.ct (σ'.set i none) H' }
def stN (σ : L2.St) (a : Addr) : Option Nat → L2.St
  | none => σ
  | some i => σ.set i (some (.ref a))
def wGen (K : PySem.W.Frag) (Wo : WX) (D : Ends) : List HT1 → WX
  | [] => Wo
  | (c, oi, ts) :: r => fun cls d σ H => ∃ b, PySem.W.exmOne K cls c = some b ∧ (b = true → ∀ a, H a = none → ts a cls d (endN D oi) (stN σ a oi) H) ∧ (b = false → wGen K Wo D r cls d σ H)
def nameOk (X : Cx) (oi : Option Nat) (ne : Option Str) : Prop := match oi, ne with
  | none, none => True
  | some i, some n => X.N[i]? = some n ∧ X.env.kindOf n = some .local
  | _, _ => False
inductive HdsG (X : Cx) : List ExceptHandler → List HT1 → Prop
  | nil : HdsG X [] []
  | cons {x : Str} {c : Value} {oi : Option Nat} {ne : Option Str} {ts : Addr → Value → Option Addr → TS} {s0 : Stmt} {np pos' : Pos} {hds : List ExceptHandler} {l : List HT1} (hc : Names X x c) (hn : nameOk X oi ne)
      (hsu : ∀ (a : Addr) (oe : Obj) (cls : Value) (d : Option Addr) (pn : List (Addr × Obj)), Zc cls d oe → (∃ vs, oe.data = .fields vs) → PSs (X.suite a ((a, oe) :: pn)) [s0] (ts a cls d)) (r : HdsG X hds l) :
      HdsG X (.ExceptHandler (some (.Name x np)) ne [s0] pos' :: hds) ((c, oi, ts) :: l)
theorem ps_try_gen {X : Cx} {body : List Stmt} {h₀ : ExceptHandler} {hds : List ExceptHandler} {l : List HT1} {pos : Pos} {tb : WX → TS} {Wo : WX} (hs : X.stack = X.env :: X.outer) (hf : X.env.frame = some X.env.locals) (hN : X.N.Nodup) (tk : Takes X Wo)
    (hb : ∀ (W : WX) (pn : List (Addr × Obj)) (xe : Value → Shared → Prop), Takes (X.tr pn xe) W → PassesOwn (model X.prog X.w) X.A X.env xe → PSs (X.tr pn xe) body (tb W))
    (hh : HdsG X (h₀ :: hds) l) : PS X (.Try body (h₀ :: hds) [] [] pos) (fun D σ H => tb (wGen X.K Wo D l) D σ H) := by
  refine ⟨fun pins s σ H D I h => ?_⟩
  have okI := I.ok
  have hfr : X.A.frames = some (X.env :: X.outer) := by rw [okI.frames, hs]
  refine wpAny_Try_except (wpAny_mono ((hb (wGen X.K Wo D l) (X.pn ++ pins) (fun e s1 => wpAny (model X.prog X.w) X.A (noteFrame e X.env) (fun _ s2 => wpAny (model X.prog X.w) X.A (setFlight e none) (fun _ s3 =>
    wpAny (model X.prog X.w) X.A (handleBy e X.env (h₀ :: hds)) (SP X pins D) X.xe s3) X.xe s2) X.xe s1) (fun u s' xx => ?_) PassesOwn.looking).run [] s σ H D (I.toTry _) h) (fun f s1 hsp => ?_) (fun e s1 he => he))
  · obtain ⟨a, Bs, sI, pins', σ', H', cls, d, rfl, J', nb, up, sky, na, os, ag, wz⟩ := xx
    have J : Inv X pins σ' H' sI := J'.ofTry okI
    have sky' : Sky Bs (X.env :: X.outer) a (Zc cls d) X.env.locals s'.heap := (by rw [← hs]; exact sky)
    show wpAny (model X.prog X.w) X.A (noteFrame (.ref a) X.env) _ _ _
    refine Sky.land Zc.steady hfr hf sky' fun h3 fl3 up3 => ?_
    have J3 : Inv X pins σ' H' { s' with heap := h3 } := J.landed nb fl3.1 (up.trans up3) os ag
    obtain ⟨oe3, vs3, he3, hz3, hd3⟩ := fl3.there
    have notFr : ∀ {hp : Heap} {o : Obj} {vs : Array Value}, hp.FunFrames Bs (X.env :: X.outer) → hp.get? a = some o → o.data = .fields vs → a ∉ frs (X.env :: X.outer) := fun {hp o vs} ff e dd hm => by
      obtain ⟨_, o', e', hnf⟩ := ff.mem hm
      have z := e.symm.trans e'
      cases z
      exact hnf _ dd
    have nfr := notFr fl3.2.2.1 he3 hd3
    have nL : a ≠ X.env.locals := (fun z => nfr (List.mem_filterMap.mpr ⟨X.env, List.mem_cons_self, by rw [hf, z]⟩))
    have nF : a ∉ X.fs := (fun hm => by
      obtain ⟨e, he, q⟩ := List.mem_filterMap.mp hm
      exact nfr (List.mem_filterMap.mpr ⟨e, List.mem_cons_of_mem _ he, q⟩))
    have S3 := J3.suite he3 hd3 na nL nF
    have go : ∀ {hds' : List ExceptHandler} {l' : List HT1}, HdsG X hds' l' → wGen X.K Wo D l' cls d σ' H' → wpAny (model X.prog X.w) X.A (handleBy (.ref a) X.env hds') (SP X pins D) X.xe { s' with heap := h3 } := by
      intro hds' l' hk
      induction hk with
      | nil =>
        intro wz
        refine wpAny_handleBy_nil ?_
        obtain ⟨k1, k2, k3, oe, vs, T, oT, ts', he, hz, hd, h1, hr⟩ := id fl3
        unfold PySem.passOn
        refine wpAny_bind (wpAny_field he hd h1 ?_)
        rw [if_neg (show ¬ ((Value.ref T == Value.none) = true) from (by simp))]
        have fin' : wpAny (model X.prog X.w) X.A (setFlight (.ref a) X.env.frame) (fun _ s4 => wpAny (model X.prog X.w) X.A (throw (.ref a) : Sem Flow) (SP X pins D) X.xe s4) X.xe { s' with heap := h3 } := by
          rw [hf]
          exact HandSPX.setFlight_upZ fl3 fun h4 hh4 up4 => wpAny_throw (tk _ _ ⟨a, Bs, sI, pins, σ', H', cls, d, rfl, J, nb, (up.trans up3).trans up4, .inr (.inr (by rw [hs]; exact hh4)), na, os, ag, wz⟩)
        first | exact wpAny_bind (wpAny_pure (wpAny_bind fin')) | exact wpAny_bind fin'
      | @cons x c oi ne ts s0 np pos' hds2 l2 hc hn hsu r ih =>
        intro wz
        obtain ⟨b, hb1, hyes, hno⟩ := wz
        refine wpAny_handleBy_cons (codeAny_handlers_test ?_) (by intro q; cases q)
        have LT : PySem.W.Looks (model X.prog X.w) h3 (typeOf (.ref a)) cls := (fun A Q E s k q => wpAny_typeOf_ref (k _ _ he3) (by rw [hz3.1]; exact q))
        have LM := PySem.W.exm_one (M := model X.prog X.w) (J3.kIn) LT hb1
        have tst : ∀ {Q : Value → Shared → Prop} {E : Value → Shared → Prop}, Q c { s' with heap := h3 } → wpAny (model X.prog X.w) (X.A.mark (some (.ref a))) (eval (.Name x np) X.env) Q E { s' with heap := h3 } := fun {Q E} q => by
          obtain ⟨hg, hdbg, hm | ⟨hm, hv, hnn⟩⟩ := hc
          · exact ld_glob (X := X.suite a ((a, oe3) :: (X.pn ++ pins))) S3 hg hm q hdbg
          · exact ld_blt (X := X.suite a ((a, oe3) :: (X.pn ++ pins))) S3 hg hm hv q hnn hdbg
        refine tst (LM.here ?_)
        cases b with
        | false => exact ih (hno rfl)
        | true =>
          cases oi with
          | none =>
            cases ne with
            | some n1 => exact hn.elim
            | none =>
              refine codeAny_handlers_suite (HandSPX.lands_againZ fl3 fun h4 fl4 up4 => ?_)
              have J4 : Inv X pins σ' H' { s' with heap := h4 } := J.landed nb fl4.1 ((up.trans up3).trans up4) os ag
              obtain ⟨oe4, vs4, he4, hz4, hd4⟩ := fl4.there
              have S4 := J4.suite he4 hd4 na nL nF
              refine wpAny_mono ((hsu a oe4 cls d (X.pn ++ pins) hz4 ⟨_, hd4⟩).run [] _ _ H' _ S4 (hyes rfl a na)) (fun f s6 hsp => ?_) (fun _ _ z => False.elim z)
              cases f with
              | ret u =>
                obtain ⟨v6, σ6, H6, S6, r6, q6⟩ := hsp
                exact ⟨_, _, _, S6.unsuite okI, r6, q6⟩
              | _ =>
                obtain ⟨σ6, H6, S6, q6⟩ := hsp
                exact ⟨_, _, S6.unsuite okI, q6⟩
          | some i =>
            cases ne with
            | none => exact hn.elim
            | some n1 =>
              obtain ⟨hi, hln⟩ := hn
              refine codeAny_handlers_suite_as (HandSPX.lands_againZ fl3 fun h4 fl4 up4 => ?_)
              have J4 : Inv X pins σ' H' { s' with heap := h4 } := J.landed nb fl4.1 ((up.trans up3).trans up4) os ag
              obtain ⟨oe4, vs4, he4, hz4, hd4⟩ := fl4.there
              have S4 := J4.suite he4 hd4 na nL nF
              refine store_ok (X := X.suite a ((a, oe4) :: (X.pn ++ pins))) (v := .ref a) S4 hN hi (.inl hln) rfl (fun s5 S5 => ?_) (.inr hln)
              refine wpAny_mono ((hsu a oe4 cls d (X.pn ++ pins) hz4 ⟨_, hd4⟩).run [] s5 _ H' _ S5 (hyes rfl a na)) (fun f s6 hsp => ?_) (fun _ _ z => False.elim z)
              have end' : ∀ {σ6 : L2.St} {H6 : Hp} {Q : Shared → Prop}, Inv (X.suite a ((a, oe4) :: (X.pn ++ pins))) [] σ6 H6 s6 → (∀ s7, Inv X pins (σ6.set i none) H6 s7 → Q s7) →
                  wpAny (model X.prog X.w) X.A (do bindName X.env n1 .none; unbindBehindTheSuite X.env n1 pos') (fun _ s7 => Q s7) X.xe s6 := (fun {σ6 H6 Q} S6 hq => gone_ok (S6.unsuite okI) hN hi hln hq)
              cases f with
              | ret u =>
                obtain ⟨v6, σ6, H6, S6, r6, q6⟩ := hsp
                exact end' S6 fun s7 J7 => ⟨_, _, _, J7, r6, q6⟩
              | _ =>
                obtain ⟨σ6, H6, S6, q6⟩ := hsp
                exact end' S6 fun s7 J7 => ⟨_, _, J7, q6⟩
    exact go hh wz
  · cases f with
    | next =>
      obtain ⟨σ', H', J', q⟩ := hsp
      exact wpAny_execs_nil ⟨σ', H', J'.ofTry okI, q⟩
    | ret u =>
      obtain ⟨v, σ', H', J', r, q⟩ := hsp
      exact ⟨v, σ', H', J'.ofTry okI, r, q⟩
    | _ =>
      obtain ⟨σ', H', J', q⟩ := hsp
      exact ⟨σ', H', J'.ofTry okI, q⟩
theorem hcN {N : List Str} {oi : Option Nat} {ne : Option Str} {sc : Scope} (h : ckNe N oi ne sc = true) : (oi = none ∧ ne = none) ∨ ∃ i n, oi = some i ∧ ne = some n ∧ ixB N i n = true ∧ sc.names.lookup n = some .local ∧ (n == ("__debug__" : Str)) = false ∧ (n == ("__classdict__" : Str)) = false := by
  unfold ckNe at h
  split at h
  · exact .inl ⟨rfl, rfl⟩
  · simp only [Bool.and_eq_true, Bool.not_eq_true'] at h
    obtain ⟨⟨⟨q1, q2⟩, q3⟩, q4⟩ := h
    exact .inr ⟨_, _, rfl, rfl, q1, locK q2, q3, q4⟩
  · cases h
/-- the clauses' wishes, as told by the terms -/
def tsOf (X : Cx) (s0 : Stmt) : Addr → Value → Option Addr → TS := fun a cls d D σ H => ∀ oe pn, Zc cls d oe → (∃ vs, oe.data = .fields vs) → tcB (X.suite a ((a, oe) :: pn)) [s0] D σ H
theorem hands_ok {sc : Scope} {X : Cx} {W : WX} (S : SC B n N sc X W) : ∀ (hs : C) (hds : List ExceptHandler), ckH B N sc hs hds = true → ∃ l, HdsG X hds l ∧
    ∀ (D : Ends) (G0 H0 G G' H' : Hp) (c : Nat) (p : Option PV) (ρ' : List Slot) (σ' : L2.St) (cl : Value) (d : Option Addr), SI X.K G0 H0 G' H' ρ' σ' → Same G G' → XB B X c p cl d G' H' → GS X.K (XB B X) W D G0 H0 G (handX B.cx c p hs ρ') → wGen X.K W D l cl d σ' H' := by
  have E := S.ec
  intro hs
  induction hs with
  | hn =>
    intro hds hc
    cases hds with
    | nil => exact ⟨[], .nil, fun D G0 H0 G G' H' c p ρ' σ' cl d I' sm xx g => g G' H' σ' cl d I' sm xx⟩
    | cons h r => cases hc
  | hc cls oi s r _ ihr =>
    intro hds hc
    obtain ⟨x, np, ne, s0, pos', hds2, rfl, h1, h2, h3, h4, h5⟩ : ∃ x np ne s0 pos' hds2, hds = .ExceptHandler (some (.Name x np)) ne [s0] pos' :: hds2 ∧ nmB (B.xnm cls) x = true ∧ glB sc x = true ∧ ckNe N oi ne sc = true ∧ ckSu B N ne s sc s0 = true ∧ ckH B N sc r hds2 = true := by
      unfold ckH at hc
      split at hc
      · rename_i z; cases z
      · rename_i z
        cases z
        simp only [Bool.and_eq_true] at hc
        exact ⟨_, _, _, _, _, _, rfl, hc.1.1.1.1, hc.1.1.1.2, hc.1.1.2, hc.1.2, hc.2⟩
      · cases hc
    obtain ⟨g1, g2, g3⟩ := glB_ok h2
    obtain ⟨Cc, m1, XCc⟩ := E.wo.xcl cls x (nmB_ok h1)
    obtain ⟨l, hl, hw⟩ := ihr hds2 h5
    refine ⟨(.ref Cc, oi, tsOf X s0) :: l, .cons ⟨E.gl g1, g2, .inl m1⟩ ?_ (fun a oe cls d pn hz hf => ⟨fun pins s σ H D J h => h oe pn hz hf pins s J⟩) hl, ?_⟩
    · rcases hcN h3 with ⟨rfl, rfl⟩ | ⟨i, n1, rfl, rfl, k1, k2, k3, k4⟩
      · trivial
      · exact ⟨by rw [E.nm]; exact ixB_ok k1, by show X.env.scope.names.lookup n1 = _; rw [E.scope]; exact k2⟩
    · intro D G0 H0 G G' H' c p ρ' σ' cl d I' sm xx g
      have xx0 := xx
      obtain ⟨x0, C0, xn, xm, rfl, xp⟩ := xx
      have hcx := (E.wo.xcx c cls x0 x C0 Cc xn (nmB_ok h1) xm m1).1
      obtain ⟨C0', xm', XC0⟩ := E.wo.xcl c x0 xn
      have e00 : C0' = C0 := by
        have := xm'.symm.trans xm
        cases this; rfl
      subst e00
      have g1 : GS X.K (XB B X) W D G0 H0 G (if B.cx c cls then suiteX B.cx c p oi s ρ' else handX B.cx c p r ρ') := g
      refine ⟨B.cx c cls, hcx, fun hb a ha oe pn' hz hf => ?_, fun hb => ?_⟩
      · rw [hb] at g1
        have g2 : GS X.K (XB B X) W D G0 H0 G (if okI' oi ρ'.length then suite0 B.cx c p oi s ρ' else .bad) := g1
        have hq : p = none → d = none := fun hp => by subst hp; exact xp
        have hfd : FdAt B X.K G' H' c p d := fun q hp => by subst hp; exact xp
        cases hlt : okI' oi ρ'.length with
        | false => rw [hlt] at g2; exact g2.elim
        | true =>
          rw [hlt] at g2
          have g2 : GS X.K (XB B X) W D G0 H0 G (suite0 B.cx c p oi s ρ') := g2
          rcases hcN h3 with ⟨rfl, rfl⟩ | ⟨i, n1, rfl, rfl, k1, k2, k3, k4⟩
          · exact suite_ok (oi := none) (ne := none) S hq (fun i e => nomatch e) (σs := σ') (fun ne e => nomatch e) xn xm XC0 hz hf h4 I' sm hfd rfl (fun i e => nomatch e) g2
          · have hilt : i < σ'.length := by rw [I'.len]; exact Nat.le_of_ble_eq_true hlt
            refine suite_ok (D := D) (oi := some i) (ne := some n1) S hq (fun i _ => ⟨n1, rfl⟩) (σs := σ'.set i (some (.ref a))) (fun ne e => ?_) xn xm XC0 hz hf h4 (ρs := ρ'.set i .un) I'.setUn sm hfd rfl (fun j e => ?_) g2
            · cases e
              exact ⟨i, by rw [E.nm]; exact ixB_ok k1, .inl (by rw [E.scope]; exact k2), k3, k4, by rw [List.getElem?_set_self hilt]⟩
            · cases e
              exact ⟨rfl, fun σ' H' h => h⟩
      · rw [hb] at g1
        exact hw D G0 H0 G G' H' c p ρ' σ' _ d I' sm xx0 g1
  | _ =>
    intro hds hc
    cases hds <;> cases hc
theorem ss_stry {b : C} (hs : C) (Sb : SBk B n N b) : SS B n N (.stry b hs) := by
  intro sc st hc X W S G0 H0 G H ρ σ D I g
  obtain ⟨body, h0, hr, pos, rfl, h1, h2⟩ : ∃ body h0 hr pos, st = .Try body (h0 :: hr) [] [] pos ∧ (cks B N b).b sc body = true ∧ ckH B N sc hs (h0 :: hr) = true := by
    have hc : sTry B N (cks B N b) hs sc st = true := hc
    unfold sTry at hc
    split at hc
    · simp only [Bool.and_eq_true] at hc
      exact ⟨_, _, _, _, rfl, hc.1, hc.2⟩
    · cases hc
  have E := S.ec
  obtain ⟨l, hl, hw⟩ := hands_ok S hs (h0 :: hr) h2
  refine ps_can' (ps_try_gen (tb := fun W' => fun D σ H => ∀ pn xe, Takes (X.tr pn xe) W' → PassesOwn (model X.prog X.w) X.A X.env xe → tcB (X.tr pn xe) body D σ H)
    S.stk S.frm (by rw [E.nm]; exact E.nd) E.takes (fun W' pn xe tk po => ⟨fun pins s σ H D J h => h pn xe tk po pins s J⟩) hl) ?_
  intro pn xe tk po
  refine Sb sc body h1 _ _ (S.tr pn xe tk po) G0 H0 G H ρ σ D I ?_
  have g0 : GS X.K (XB B X) W D G0 H0 G (match evs B n b ρ with | .exc c p ρ' => handX B.cx c p hs ρ' | o => o) := g
  show GS X.K (XB B X) (wGen X.K W D l) D G0 H0 G (evs B n b ρ)
  cases eo : evs B n b ρ with
  | nx ρ' => rw [eo] at g0; exact g0
  | bk ρ' => rw [eo] at g0; exact g0
  | ct ρ' => rw [eo] at g0; exact g0
  | ret rv => rw [eo] at g0; cases rv <;> exact g0
  | bad => rw [eo] at g0; exact g0
  | exc c p ρ' =>
    rw [eo] at g0
    exact fun G' H' σ' cl d I' sm xx => hw D G0 H0 G G' H' c p ρ' σ' cl d I' sm xx g0
end
end Z
end
section
/-! ### enumerate of a tuple -/
namespace Z
open PySem PySem.Spec PyProof.Rows L2
theorem meets_enum1 {v : Value} {o : Obj} {Hh : Heap → Prop} (Bg : Begins v o Hh) :
    Meets (Builtin.«enumerate.__new__» ⟨[.type "enumerate", v], []⟩) (fun _ R s => Hh s.heap ∧ R (.ok (.ret (.ref (s.heap.push o).objs.size))) { s with heap := (s.heap.push o).push { cls := .type "enumerate", data := .fields #[.none, .bool false, .ref s.heap.objs.size, rawInt 0, .none, .none] } }) :=
  .of_wp fun prog w A R s h => by
    obtain ⟨hp, g, d, tk, os⟩ := s
    obtain ⟨h1, h⟩ := h
    have hsub := sub_enumerate
    have qq : ∀ {A' : Around} {E : Value → Shared → Prop} {Q : Value → Shared → Prop}, Q (.ref hp.objs.size) ⟨hp.push o, g, d, tk, os⟩ → wpAny (model prog w) A' (pyIter v) Q E ⟨hp, g, d, tk, os⟩ := fun q => Bg.iter prog w _ _ ⟨hp, g, d, tk, os⟩ _ h1 q
    wp_walk using qq
    refine wpAny_stack_any fun st => wpAny_pure ?_
    split
    · rename_i c _ _ _ _ _
      cases (c == Value.type "enumerate") <;> (wp_walk using qq; exact ⟨_, rfl, h⟩)
    · wp_walk using qq
      exact ⟨_, rfl, h⟩
theorem call_enum1 {prog : Program} {w : World} {A : Around} {E : Value → Shared → Prop} {s : Shared} {v : Value} {o : Obj} {Hh : Heap → Prop} {Q : Value → Shared → Prop} (Bg : Begins v o Hh) (h1 : Hh s.heap)
    (h : ∀ h', IsEnum h' (s.heap.objs.size + 1) s.heap.objs.size 0 .none → h'.get? s.heap.objs.size = some o → h'.objs.size = s.heap.objs.size + 2 → (∀ b o, s.heap.get? b = some o → h'.get? b = some o) → Q (.ref (s.heap.objs.size + 1)) { s with heap := h' }) :
    wpAny (model prog w) A (call (.type "enumerate") [v]) Q E s := by
  refine callType_new F.called_enumerate (by decide) (F.typeCall_enumerate_1 _) (F.newCall_enumerate_1 _) (fun obj => F.args_object_init_2 obj _) F.entry_enumerate_new (meets_enum1 Bg) ⟨h1, ?_⟩
  have hz : (s.heap.push o).objs.size = s.heap.objs.size + 1 := (Heap.size_push ..)
  show _ ∧ _
  rw [hz]
  have he : IsEnum ((s.heap.push o).push { cls := .type "enumerate", data := .fields #[.none, .bool false, .ref s.heap.objs.size, rawInt 0, .none, .none] }) (s.heap.objs.size + 1) s.heap.objs.size 0 .none := by
    have z := Heap.get?_push_size (s.heap.push o) (o := { cls := .type "enumerate", data := .fields #[.none, .bool false, .ref s.heap.objs.size, rawInt 0, .none, .none] }) rfl
    rw [hz] at z
    exact z
  exact ⟨⟨_, he, rfl⟩, h _ he (Heap.get?_push_of_some _ (Heap.get?_push_size _ Bg.free)) (by rw [Heap.size_push, hz]) fun b o x => Heap.get?_push_of_some _ (Heap.get?_push_of_some _ x)⟩
/-- the tuple at a, each item in a new pair -/
def IteT (K : PySem.W.Frag) (a : Addr) : It :=
  ⟨fun i H => ∃ (xs : List V) (x : V), SqT K H a xs ∧ xs[i]? = some x, fun i H v H' => ∃ T x, v = .ref T ∧ H T = none ∧ H' = upd H T (.tup [.int (i : Nat), x]) ∧ ∀ xs, SqT K H a xs → xs[i]? = some x, fun i H => ∃ xs : List V, SqT K H a xs ∧ xs.length ≤ i⟩
theorem enumT_end {prog : Program} {w : World} {A : Around} {E : Value → Shared → Prop} {s : Shared} {e it l : Addr} {i : Nat} {c : Int} {items : Array Value} {old : Value} {Q : Option Value → Shared → Prop} (hh : A.handled = none) (he : IsEnum s.heap e it c old) (hit : s.heap.IsTupleIter it l i) (hl : s.heap.IsTuple l items) (hx : items[i]? = none)
    (hQ : ∀ h', Heap.ExtBut it s.heap h' → Q none { s with heap := h' }) : wpAny (model prog w) A (pyNext (.ref e)) Q E s := by
  have hT : s.TypeIs (.ref e) "enumerate" := (⟨_, he, rfl⟩)
  unfold pyNext
  refine wpAny_bind (wpAny_attempt (wpAny_callSpecial?_slot (name := Str.ofString "__next__") hT F.slot_enumerate_next (wpAny_call_entry F.slot_enumerate_next hT F.entry_enumerate_next ?_ (F.args_enumerate_next_1 _))))
  show wpAny _ _ (field (.ref e) 2 >>= _) _ _ _
  refine wpAny_bind (wpAny_field he rfl (x := .ref it) rfl (wpAny_bind (wpAny_nextOf_tuple_end hh hit hl hx fun h' x he' hx' => ?_)))
  obtain ⟨o, ho, hc⟩ := hx'
  exact wpAny_bind (wpAny_isInstance (T := "StopIteration") (b := true) ⟨o, ho, hc⟩ isSubtype_stop (wpAny_pure (hQ _ he')))
theorem turn_enumT {P : Program} {w : World} {K : PySem.W.Frag} {elts : List Expr} {kk : Nat} {tpos : Pos} (a e it : Addr) (hea : e ≠ a) (hia : a ≠ it) :
    Turn P w K (.Tuple elts kk tpos) (IteT K a) [e, it] e (fun i h => (∃ old, IsEnum h e it ((i : Nat) : Int) old) ∧ h.IsTupleIter it a i ∧ e ≠ it) where
  mem := by simp
  obj := fun i h st b hb => by
    obtain ⟨⟨old, he⟩, ⟨o, ho, hc, hd⟩, _⟩ := st
    have q : b = e ∨ b = it := by simpa using hb
    rcases q with rfl | rfl
    · exact ⟨_, he, fun v q => nomatch q⟩
    · exact ⟨o, ho, fun v q => by rw [hd] at q; cases q⟩
  keep := fun i h h' st k => let ⟨⟨old, he⟩, hi, hne⟩ := st; ⟨⟨old, k e (by simp) _ he⟩, hi.at fun o q => k it (by simp) o q, hne⟩
  item := by
    intro X hP hw hK hc i pins s σ H E I hf st hg
    subst hP hw hK
    obtain ⟨⟨old, he⟩, hit, hne⟩ := st
    obtain ⟨xs, x, hq, hx⟩ := hg
    obtain ⟨its, rv, p, hz⟩ := I.tuple hq
    obtain ⟨u, hu, ru⟩ := rv.get hx
    have hel : e < s.heap.objs.size := Heap.lt_size he
    have hil : it < s.heap.objs.size := by obtain ⟨_, q, _⟩ := hit; exact Heap.lt_size q
    have hil2 : i < its.toArray.size := by
      have := (List.getElem?_eq_some_iff.mp hu).1
      simpa using this
    refine wpAny_pyNext_enum_itemD (Draws.tuple (A := X.A.in1) (show X.A.in1.handled = none from I.ok.hd hc) it a hia its.toArray) he ⟨hit, p⟩ hil2 hne (by simp [hne, hea]) fun y h' tk hy ho hst hT hsz hk => ?_
    have hy : its.toArray[i]? = some y := hy
    have ey : y = u := by
      have z : its.toArray[i]? = some u := by simpa using hu
      rw [hy] at z; cases z; rfl
    subst ey
    refine ⟨_, rfl, wpAny_letOwnedTupleGo_enum (s := { s with heap := h', toks := tk + 1 }) ho fun h'' he' sb => ?_⟩
    have hT2 : h''.get? s.heap.objs.size = some { cls := .type "tuple", data := .seq #[.int i tk, y] } := (sb.2 _ (Nat.ne_of_gt hel)).trans hT
    have new : ObjOk X.prog X.w (upd H s.heap.objs.size (.tup [.int (i : Nat), x])) h'' s.heap.objs.size (.tup [.int (i : Nat), x]) := (⟨by show 2 ≤ sizeLine; decide, [.int i tk, y], .cons ⟨_, rfl⟩ (.cons ru .nil), ⟨_, hT2, rfl, _, rfl⟩⟩)
    have I1 : Inv X pins σ (upd H s.heap.objs.size (.tup [.int (i : Nat), x])) { s with heap := h'', toks := tk + 1 } :=
      I.turnedNew (t' := tk + 1) (ch := [e, it]) (fun b ob hb q => (sb.2 b (fun z => hb (by simp [z]))).trans (hk b ob (fun z => hb (by simp [z])) (fun z => hb (by simp [z])) q)) hf (Nat.le_refl _) new
    refine ⟨.ref s.heap.objs.size, _, I1, rfl, ⟨_, x, rfl, I.hok.fresh (Nat.le_refl _), rfl, fun ys hy => by rw [I.tuple_inj hy hq]; exact hx⟩, ⟨⟨y, ?_⟩, hst.1.at fun o q => (sb.2 it (Ne.symm hne)).trans q, hne⟩, fun b hb => ?_⟩
    · have e1 : ((i + 1 : Nat) : Int) = (i : Int) + 1 := by omega
      rw [e1]
      exact he'
    · have hlt : b < s.heap.objs.size := by
        have q : b = e ∨ b = it := by simpa using hb
        rcases q with rfl | rfl
        · exact hel
        · exact hil
      rw [upd_ne (Nat.ne_of_lt hlt)]
      exact (hf b hb).1
  done := by
    intro X hP hw hK hc i pins s σ H E I hf st hg
    subst hP hw hK
    obtain ⟨⟨old, he⟩, hit, hne⟩ := st
    obtain ⟨xs, hq, hx⟩ := hg
    obtain ⟨its, rv, p, hz⟩ := I.tuple hq
    obtain ⟨f0, f1, f2, f3, f4, f5⟩ := hf it (by simp)
    have hl := rv.length
    exact enumT_end (I.ok.hd hc) he hit p (by simp; omega) fun h' eb => ⟨rfl, I.turned (t' := s.toks) (fun b o hb q => eb b o hb q) f0 f1 f3 f4 f5⟩
  self := fun A i s Q E st h => let ⟨⟨_, he⟩, _⟩ := st; wpAny_pyIter_enum he h
def iEnumA (K : PySem.W.Frag) (ta : TA) : TI := fun σ H R => ta σ H fun vs H1 => ∃ a xs, vs = [.ref a] ∧ ((SqL K H1 a xs ∧ R (Ite K a) H1) ∨ (SqT K H1 a xs ∧ R (IteT K a) H1))
theorem pi_enumA {X : Cx} {e : Expr} {ta : TA} {p pos tpos : Pos} {elts : List Expr} {kk : Nat} (hg : Gl X "enumerate") (hm : X.mg "enumerate" = none) (ha : PA X [e] ta) (hs : starEach [e] X.env = [(false, eval e X.env)]) :
    PI X (.Tuple elts kk tpos) (.Call (.Name "enumerate" p) [e] [] pos) (iEnumA X.K ta) := by
  refine ⟨fun pins s σ H R I h => ?_⟩
  refine Call_ (ld_blt I hg hm boot_enumerate (PyProof.Rows.callWith_type1 (thn (ha.run pos pins s σ H _ I h) fun us s1 ⟨vs, H1, I1, r1, q1⟩ => ?_) hs rfl))
  obtain ⟨a, xs, rfl, q1⟩ := q1
  cases r1 with
  | cons r rr =>
    cases rr
    cases r
    have fp : ∀ b, b = s1.heap.objs.size + 1 ∨ b = s1.heap.objs.size → s1.heap.objs.size ≤ b := fun b hb => by
      rcases hb with z | z
      · rw [z]; exact Nat.le_add_right _ _
      · rw [z]; exact Nat.le_refl _
    rcases q1 with ⟨hq, q⟩ | ⟨hq, q⟩
    · obtain ⟨its, rv, p', hz⟩ := I1.list hq
      refine call_enumerate_list p'.isList fun h' he hit hsz hk => wpAny_pyIter_enum he ?_
      have I2 : Inv X pins σ H1 { s1 with heap := h' } := (I1.kept (t' := s1.toks) hk)
      exact ⟨s1.heap.objs.size + 1, [s1.heap.objs.size + 1, s1.heap.objs.size], _, _, H1, rfl, I2, turn_enum a (s1.heap.objs.size + 1) s1.heap.objs.size, ⟨⟨.none, he⟩, hit, Nat.succ_ne_self _⟩, fun b hb => I1.fpOk (fp b (by simpa using hb)) (I1.hok.fresh (fp b (by simpa using hb))), q⟩
    · obtain ⟨its, rv, p', hz⟩ := I1.tuple hq
      have hal : a < s1.heap.objs.size := by obtain ⟨o, ho, _⟩ := p'; exact Heap.lt_size ho
      refine call_enum1 (begins_tuple a its.toArray) p' fun h' he hob hsz hk => wpAny_pyIter_enum he ?_
      have I2 : Inv X pins σ H1 { s1 with heap := h' } := (I1.kept (t' := s1.toks) hk)
      have hit : h'.IsTupleIter s1.heap.objs.size a 0 := ⟨_, hob, rfl, rfl⟩
      exact ⟨s1.heap.objs.size + 1, [s1.heap.objs.size + 1, s1.heap.objs.size], _, _, H1, rfl, I2, turn_enumT a (s1.heap.objs.size + 1) s1.heap.objs.size (Nat.ne_of_gt (Nat.lt_succ_of_lt hal)) (Nat.ne_of_lt hal), ⟨⟨.none, he⟩, hit, Nat.succ_ne_self _⟩, fun b hb => I1.fpOk (fp b (by simpa using hb)) (I1.hok.fresh (fp b (by simpa using hb))), q⟩
theorem itet_ok {Cn : Hp → Hp → Prop} {K : PySem.W.Frag} {a : Addr} {vs : List V} {xs : List PV} (h : ∀ G H, Cn G H → Same G H → SqT K H a vs ∧ Reps K G vs xs) : ItP Cn K (IteT K a) (enuL 0 xs) := fun i G H c s => by
  obtain ⟨hs, r⟩ := h G H c s
  refine ⟨fun p hp => ?_, fun hl => ⟨vs, hs, by rw [r.length]; rw [enuL_len] at hl; exact hl⟩⟩
  rw [enuL_get, Option.map_eq_some_iff] at hp
  obtain ⟨x, hx, rfl⟩ := hp
  obtain ⟨v, hv, rv⟩ := r.get hx
  refine ⟨⟨vs, v, hs, hv⟩, fun u H' hy => ?_⟩
  obtain ⟨T, z, rfl, hT, rfl, hf⟩ := hy
  have e := hf vs hs
  rw [hv] at e; cases e
  refine ⟨upd G T (.tup [.int (i : Nat), v]), Ext.new s hT, ?_⟩
  have gT : G T = none := s.free hT
  refine .tup (.inl (.inl upd_same)) (.cons ?_ (.cons (rv.mono (same_upd gT)) .nil))
  rw [Nat.zero_add]
  exact .int _
end Z
end
section
/-! Z: dicts: displays, get, dicts of one's own. -/
namespace Z
open PySem PySem.Spec PyProof.Rows L2
abbrev okFD (K : PySem.W.Frag) (G H : Hp) (Q : VK) : PV → Prop := fun l => ∃ ks vs, l = .dct ks vs ∧ ∀ G' H' a (kvs : List (Key × V)), Ext G H G' H' → H a = none → G' a = none → H' a = some (.dK kvs) → Reps K G' (kvs.map fun kv => kV kv.1) ks → Reps K G' (kvs.map fun kv => kv.2) vs → Q (.ref a) H'
section
variable (B : Tb) (n : Nat) (N : List Str)
def SFd (c : C) : Prop := ∀ (sc : Scope) (e : Expr), (ck B N c).e false sc e = true → ∀ (X : Cx) (W : WX), EC B n N sc X W → ∀ (G0 H0 G H : Hp) (ρ : List Slot) (σ : L2.St) (Q : VK), SI X.K G0 H0 G H ρ σ →
  GX (XB B X) W G H σ (okFD X.K G H Q) (ev (φn B n) B.κ c ρ) → tcE X e σ H Q
end
section
variable {B : Tb} {n : Nat} {N : List Str}
def trsD (X : Cx) : List (Option Expr) → List Expr → List (TE × TE)
  | some k :: ks, v :: vs => (tcE X k, tcE X v) :: trsD X ks vs
  | _, _ => []
theorem dkB_len : ∀ {kvs : List (PV × PV)} {ks : List (Option Expr)} {vs : List Expr}, dkB kvs ks vs = true → ks.length = kvs.length ∧ vs.length = kvs.length ∧ ks.all (·.isSome) = true
  | [], ks, vs, h => by
    cases ks with
    | nil => cases vs with
      | nil => exact ⟨rfl, rfl, rfl⟩
      | cons _ _ => cases h
    | cons _ _ => cases h
  | (k, v) :: r, ks, vs, h => by
    unfold dkB at h
    split at h
    · contradiction
    · rename_i e
      injection e with e1 e2
      subst e2
      simp only [Bool.and_eq_true] at h
      obtain ⟨a, b, c⟩ := dkB_len h.2
      exact ⟨by rw [List.length_cons, List.length_cons, a], by rw [List.length_cons, List.length_cons, b], by rw [List.all_cons, c]; rfl⟩
    · cases h
theorem dk_pps {X : Cx} {pos : Pos} : ∀ {ks : List (Option Expr)} {vs : List Expr}, ks.length = vs.length → ks.all (·.isSome) = true → PPs X pos ks vs (trsD X ks vs)
  | [], [], _, _ => pps_nil
  | some k :: ks, v :: vs, h, h2 => pps_cons pe_can pe_can (dk_pps (by simpa using h) (by simpa using h2))
  | none :: _, _, _, h2 => by simp at h2
  | _ :: _, [], h, _ => by simp at h
  | [], _ :: _, h, _ => by simp at h
/-- the values of constants -/
def cV : PV → V
  | .bl b => .bl b
  | .int i => .int i
  | .str x => strV x
  | _ => .non
theorem ckK_cV {p : PV} {c : Const} (h : ckK p c = true) {K : PySem.W.Frag} {G : Hp} {v : V} (r : Rep K G v p) : v = cV p := by
  cases r <;> first | rfl | (cases c <;> cases h)
theorem ckK_rep {p : PV} {c : Const} (h : ckK p c = true) {K : PySem.W.Frag} {G : Hp} : Rep K G (cV p) p := by
  cases p with
  | non => exact .non
  | bl b => exact .bl b
  | int i => exact .int i
  | str x =>
    cases c with
    | str z =>
      have q : (decide (z = ⟨x.toArray⟩) && (x.all fun c => Nat.blt c 1114112) && fits x.length) = true := h
      simp only [Bool.and_eq_true] at q
      exact .str x (fun c hc => Nat.le_of_ble_eq_true (List.all_eq_true.mp q.1.2 c hc)) (fits_le q.2)
    | _ => cases h
  | _ => cases c <;> cases h
def kvC (kvs : List (PV × PV)) : List (Key × V) := kvs.map fun kv => (keyP kv.1, cV kv.2)
theorem dk_pairs {X : Cx} {σ : L2.St} : ∀ {kvs : List (PV × PV)} {ks : List (Option Expr)} {vs : List Expr} {H : Hp} {Q : List (V × V) → Hp → Prop}, dkB kvs ks vs = true → Q ((kvC kvs).map fun kv => (kV kv.1, kv.2)) H → tPairs (trsD X ks vs) σ H Q
  | [], ks, vs, H, Q, h, q => by
    cases ks with
    | nil => exact q
    | cons _ _ => cases h
  | (k, v) :: r, ks, vs, H, Q, h, q => by
    unfold dkB at h
    split at h
    · contradiction
    · rename_i e
      injection e with e1 e2
      cases e1
      subst e2
      simp only [Bool.and_eq_true] at h
      refine ckK_ok (G := H) h.1.1.2 fun v1 r1 => ckK_ok (G := H) h.1.2 fun v2 r2 => ?_
      have q1 := key_rep r1 h.1.1.1
      have q2 := ckK_cV h.1.2 r2
      subst q1 q2
      exact dk_pairs h.2 q
    · cases h
theorem dk_reps {K : PySem.W.Frag} {G : Hp} : ∀ {kvs : List (PV × PV)} {ks : List (Option Expr)} {vs : List Expr}, dkB kvs ks vs = true → Reps K G ((kvC kvs).map fun kv => kV kv.1) (kvs.map (·.1)) ∧ Reps K G ((kvC kvs).map fun kv => kv.2) (kvs.map (·.2)) ∧ (kvs.map (·.1)).all keyB = true
  | [], ks, vs, h => ⟨.nil, .nil, rfl⟩
  | (k, v) :: r, ks, vs, h => by
    unfold dkB at h
    split at h
    · contradiction
    · rename_i e
      injection e with e1 e2
      cases e1
      subst e2
      simp only [Bool.and_eq_true] at h
      obtain ⟨a, b, c⟩ := dk_reps (K := K) (G := G) h.2
      have r1 := ckK_rep (K := K) (G := G) h.1.1.2
      have e := key_rep r1 h.1.1.1
      refine ⟨.cons (show Rep K G (kV (keyP k)) k by rw [← e]; exact r1) a, .cons (ckK_rep h.1.2) b, by rw [List.map_cons, List.all_cons, h.1.1.1, c]; rfl⟩
    · cases h
theorem nodupK_ok : ∀ {ks : List PV}, ks.all keyB = true → nodupK ks = true → (ks.map keyP).Nodup
  | [], _, _ => List.nodup_nil
  | k :: r, h, h2 => by
    simp only [List.all_cons, Bool.and_eq_true] at h
    have h2 : (!hasP r k && nodupK r) = true := h2
    simp only [Bool.and_eq_true, Bool.not_eq_true'] at h2
    rw [List.map_cons]
    refine List.nodup_cons.mpr ⟨fun hm => ?_, nodupK_ok h.2 h2.2⟩
    obtain ⟨x, hx, ex⟩ := List.mem_map.mp hm
    have z : hasP r k = true := List.any_eq_true.mpr ⟨x, hx, by rw [keyP_eq (List.all_eq_true.mp h.2 x hx) h.1, ex]; exact decide_eq_true rfl⟩
    rw [z] at h2
    cases h2.1
theorem merge_new : ∀ (kvs acc : List (Key × V)), (kvs.map (·.1)).Nodup → (∀ kv ∈ kvs, valV acc kv.1 = none) → mergeK acc kvs = acc ++ kvs
  | [], acc, _, _ => (List.append_nil _).symm
  | kv :: r, acc, h, h2 => by
    have h' := List.nodup_cons.mp h
    have e := L2.putK_new kv.2 (h2 kv (List.mem_cons_self ..))
    show mergeK (L2.putK acc kv.1 kv.2) r = _
    rw [e, merge_new r _ h'.2 fun x hx => ?_, List.append_assoc]
    · rfl
    · rw [valV_snoc _ _ _ _ (h2 kv (List.mem_cons_self ..)), if_neg (fun z => ?_)]
      · exact h2 x (List.mem_cons_of_mem _ hx)
      · refine h'.1 ?_
        show kv.1 ∈ r.map (·.1)
        rw [← z]
        exact List.mem_map_of_mem hx
theorem sf_dk (kvs : List (PV × PV)) : SFd B n N (.dk kvs) := by
  intro sc e hc X W E G0 H0 G H ρ σ Q I g
  have hc : eDk kvs false sc e = true := hc
  have g : okFD X.K G H Q (.dct (kvs.map fun x : PV × PV => x.1) (kvs.map fun x : PV × PV => x.2)) := g
  obtain ⟨ks', vs', e0, k⟩ := g
  cases e0
  obtain ⟨ks, vs, pos, rfl, hd⟩ : ∃ ks vs pos, e = .Dict ks vs pos ∧ (dkB kvs ks vs && nodupK (kvs.map (·.1)) && Nat.ble kvs.length 15) = true := by
    unfold eDk at hc
    split at hc
    · exact ⟨_, _, _, rfl, hc⟩
    · cases hc
  simp only [Bool.and_eq_true] at hd
  obtain ⟨⟨h1, h2⟩, h3⟩ := hd
  obtain ⟨l1, l2, l3⟩ := dkB_len h1
  have hk : kvs.length ≤ 15 := Nat.le_of_ble_eq_true h3
  obtain ⟨r1, r2, r3⟩ := dk_reps (K := X.K) (G := G) h1
  cases ks with
  | nil =>
    cases vs with
    | nil =>
      cases kvs with
      | nil => exact pe_can' pe_dnewK fun p hp => k G _ p [] (Ext.newOwn I.sub hp) hp (I.sub.free hp) (upd_same ..) .nil .nil
      | cons _ _ => cases l1
    | cons _ _ => cases kvs <;> cases h1
  | cons k0 ks =>
    refine pe_can' (pe_disp (dk_pps (by rw [l1, l2]) l3) l3 (by rw [l1, l2]) (fun z => nomatch z) (by rw [l1]; exact hk)) ?_
    intro p hp
    refine dk_pairs h1 ⟨upd_same .., kvC kvs, rfl, by unfold kvC; rw [List.length_map]; exact hk, ?_⟩
    have em : mergeK [] (kvC kvs) = kvC kvs := merge_new (kvC kvs) [] (by
      have z := nodupK_ok r3 h2
      rw [List.map_map] at z
      unfold kvC
      rw [List.map_map]
      exact z) fun _ _ => rfl
    have eu : upd (upd H p (.dK [])) p (.dK (mergeK [] (kvC kvs))) = upd H p (.dK (kvC kvs)) := by
      rw [em]
      funext b
      by_cases hb : b = p
      · subst hb; rw [upd_same, upd_same]
      · rw [upd_ne hb, upd_ne hb, upd_ne hb]
    rw [eu]
    exact k G _ p (kvC kvs) (Ext.newOwn I.sub hp) hp (I.sub.free hp) (upd_same ..) r1 r2
theorem okFD_of {K : PySem.W.Frag} {G H : Hp} {Q : VK} {ks vs : List PV} (h : okE false K G H Q (.dct ks vs)) : okFD K G H Q (.dct ks vs) :=
  ⟨ks, vs, rfl, fun G' H' a kvs ex ha ga hh r1 r2 => h (upd G' a (.dK kvs)) H' (.ref a) (ex.frz hh ga ha) (.dct upd_same (r1.mono (same_upd ga)) (r2.mono (same_upd ga)))⟩
theorem sd_dk (kvs : List (PV × PV)) : Sd B n N (.dk kvs) := by
  refine Sd.mk1 rfl (fun z => nomatch z) (SE.all ?_ fun _ _ _ h => h)
  intro sc e hc X W E G0 H0 G H ρ σ Q I g
  exact sf_dk kvs sc e hc X W E G0 H0 G H ρ σ Q I (okFD_of g)
theorem sf_dict {es : C} (Ss : Sd B n N es) : SFd B n N (.bi .dict es) := by
  intro sc e hc X W E G0 H0 G H ρ σ Q I g
  obtain ⟨x, p, y, xs, pos, rfl, hk⟩ : ∃ x p y xs pos, e = .Call (.Name x p) (y :: xs) [] pos ∧ (sEq (biN .dict) x && glB sc x && (ck B N es).a true sc (y :: xs) && (y :: xs).all notStar) = true := by
    have hc : eBi .dict (ck B N es) false sc e = true := hc
    unfold eBi at hc
    split at hc
    · exact ⟨_, _, _, _, _, rfl, hc⟩
    · cases hc
  simp only [Bool.and_eq_true, List.all_cons] at hk
  obtain ⟨⟨⟨h1, h2⟩, h3⟩, h4, h5⟩ := hk
  obtain ⟨g1, g2, g3⟩ := glB_ok h2
  have h1' := sEq_ok h1
  subst h1'
  have g0 : GX (XB B X) W G H σ (okFD X.K G H Q) ((ev (φn B n) B.κ es ρ).bind fun l => (lstOf l).bind fun xs => biP .dict xs) := g
  have hm := E.blt (biN_mem .dict)
  refine pe_can' (pe_callTy (callCan_ok X _) (E.gl g1) hm (T := "dict") (by decide +kernel) pa_can g3 g2 (star_of h4) (nostars h5)) (args_ok Ss h3 E I g0 fun ps G' H' vs ex I' rs g' => ?_)
  have h7 : ∃ zs, ps = [.lst zs] ∨ ps = [.ptp zs] := by
    rcases ps with _ | ⟨p, _ | ⟨q, r⟩⟩
    · exact g'.elim
    · cases p with
      | lst zs => exact ⟨zs, .inl rfl⟩
      | ptp zs => exact ⟨zs, .inr rfl⟩
      | _ => exact g'.elim
    · cases p <;> exact g'.elim
  obtain ⟨zs, h7⟩ := h7
  have rs := rs.x
  rcases h7 with rfl | rfl
  · have g' : GX (XB B X) W G H σ (okFD X.K G H Q) (if fits zs.length then dictL [] [] zs else .bad) := g'
    split at g'
    · cases rs with
      | cons r t =>
        cases t
        obtain ⟨a, vs, rfl, sh, rr⟩ := r.lst I'.sub
        cases ed : dictL [] [] zs with
        | bad => rw [ed] at g'; exact g'.elim
        | exc c o => exact absurd ed dictL_exc
        | ok r =>
          rw [ed] at g'
          obtain ⟨ps, more, ks', ws', rfl, e2, rfl, e4, e5⟩ := dictL_ok (kvs := []) I'.sub rr .nil .nil ed
          obtain ⟨ks2, vs2, e6, k⟩ := g'
          cases e6
          refine callCan_of (call_dictP E.calm) ⟨a, ps, more, rfl, .inl (.inl sh), e2, fun p hp => ?_⟩
          exact k G' _ p _ (ex.trans (Ext.newOwn I'.sub hp)) (ex.hs.free hp) (I'.sub.free hp) (upd_same ..) e4 e5
    · exact g'.elim
  · have g' : GX (XB B X) W G H σ (okFD X.K G H Q) (if fits zs.length then dictL [] [] zs else .bad) := g'
    split at g'
    · cases rs with
      | cons r t =>
        cases t
        obtain ⟨a, o, vs, rfl, _, sh, hd, rr⟩ := r.ptp I'.sub
        cases ed : dictL [] [] zs with
        | bad => rw [ed] at g'; exact g'.elim
        | exc c o => exact absurd ed dictL_exc
        | ok r =>
          rw [ed] at g'
          obtain ⟨ps, more, ks', ws', rfl, e2, rfl, e4, e5⟩ := dictL_ok (kvs := []) I'.sub rr .nil .nil ed
          obtain ⟨ks2, vs2, e6, k⟩ := g'
          cases e6
          refine callCan_of (call_dictPT E.calm) ⟨a, o, ps, more, rfl, sh, hd, e2, fun p hp => ?_⟩
          exact k G' _ p _ (ex.trans (Ext.newOwn I'.sub hp)) (ex.hs.free hp) (I'.sub.free hp) (upd_same ..) e4 e5
    · exact g'.elim
theorem sf_dall {e : C} (h : frD e = true) (S : ∀ c, Sd B n N c) : SFd B n N e := by
  unfold frD at h
  split at h
  · exact sf_dk _
  · exact sf_dict (S _)
  · cases h
theorem ss_sownd (i : Nat) {e : C} (hck : cks B N (.sownd i e) = mkS (sSet N i (ck B N e) false)) (Sf : SFd B n N e) : SS B n N (.sownd i e) := by
  intro sc st hc X W S G0 H0 G H ρ σ D I g
  rw [hck] at hc
  obtain ⟨x, px, v, pos, rfl, h1, h2, h3, h4⟩ := sSet_ok hc
  have h4 : notComp v = true := by
    rcases h4 with h | h
    · exact h
    · cases h
  have g0 : GS X.K (XB B X) W D G0 H0 G (lift ((ev (φn B n) B.κ e ρ).bind dctOf) ρ fun kv => .nx (ρ.set i (.owd kv.1 kv.2))) := g
  refine set_plain S h1 h2 (sw_nc h4 _ _ _) (Sf sc v h3 X W S.ec G0 H0 G H ρ σ _ I ((g0.lift I).bind.imp fun p _ k => ?_))
  cases p with
  | dct ks vs => exact ⟨ks, vs, rfl, fun G' H' a kvs ex ha ga hh r1 r2 => k G' H' _ (I.newOwnG ex ha ga hh ⟨kvs, rfl, r1, r2⟩) ex.gs⟩
  | _ => exact k.elim
theorem owdAt_ok {ρ : List Slot} {i : Nat} {K : PySem.W.Frag} {XI : Ends1} {W : WX} {D : Ends} {G0 H0 G : Hp} {f : List PV × List PV → Out} (g : GS K XI W D G0 H0 G (lift (owdAt ρ i) ρ f)) : ∃ ks vs, ρ[i]? = some (.owd ks vs) ∧ GS K XI W D G0 H0 G (f (ks, vs)) := by
  unfold owdAt at g
  split at g
  · rename_i ks vs e
    exact ⟨ks, vs, e, g⟩
  · exact g.elim
theorem ss_sdput (i : Nat) {ix e : C} (Sx : Sd B n N ix) (Se : Sd B n N e) : SS B n N (.sdput i ix e) := by
  intro sc st hc X W S G0 H0 G H ρ σ D I g
  obtain ⟨x, p0, j, p1, v, pos, rfl, h1, h2, h3, h4, h5⟩ : ∃ x p0 j p1 v pos, st = .Assign [.Subscript (.Name x p0) j p1] v pos ∧ ckVar N sc i x = true ∧ (ck B N ix).e false sc j = true ∧ notSlice j = true ∧ (ck B N e).e false sc v = true ∧ notComp v = true := by
    have hc : sPut N i (ck B N ix) (ck B N e) sc st = true := hc
    unfold sPut at hc
    split at hc
    · simp only [Bool.and_eq_true] at hc
      exact ⟨_, _, _, _, _, _, rfl, hc.1.1.1.1, hc.1.1.1.2, hc.1.1.2, hc.1.2, hc.2⟩
    · cases hc
  have u1 : X.A.units + 1 < cLine := by have := units65 S.ec.room; omega
  refine ps_can' (ps_dput u1 pe_can pe_can pe_can (show swapsWith v (some (.Subscript (.Name x p0) j p1)) pos.line X.env = pure false from sw_nc h5 _ _ _)) ?_
  have g0 : GS X.K (XB B X) W D G0 H0 G (lift (ev (φn B n) B.κ e ρ) ρ fun p => lift (owdAt ρ i) ρ fun kv => lift (ev (φn B n) B.κ ix ρ) ρ fun q => if keyB q && fits (kv.1.length + 1) then .nx (ρ.set i (.owd (kputP kv.1 q) (dputP kv.1 kv.2 q p))) else .bad) := g
  refine Se.e false sc v h4 X W S.ec G0 H0 G H ρ σ _ I ((g0.lift I).imp fun q _ k G1 H1 u e1 r1 => ?_)
  have I1 := I.grow e1
  obtain ⟨ks, vs, hi, k⟩ := owdAt_ok k
  obtain ⟨a, kvs, ha', ga, h0, hh, rk, rv⟩ := I1.owd hi
  refine name_ok S.ec h1 ha' ?_
  have k1 := GS.move k e1.gs
  refine Sx.e false sc j h2 X W S.ec G0 H0 G1 H1 ρ σ _ I1 ((k1.lift I1).imp fun q2 _ k2 G2 H2 w e2 r2 => ?_)
  have I2 := I1.grow e2
  have k2 : GS X.K (XB B X) W D G0 H0 G1 (if keyB q2 && fits (ks.length + 1) then .nx (ρ.set i (.owd (kputP ks q2) (dputP ks vs q2 q))) else .bad) := k2
  cases hb : keyB q2 && fits (ks.length + 1) with
  | false => rw [hb] at k2; exact k2.elim
  | true =>
    rw [hb] at k2
    rw [Bool.and_eq_true] at hb
    have r2 : Rep X.K G2 w q2 := r2
    have ew := key_rep r2 hb.1
    subst ew
    have h2d : H2 a = some (.dK kvs) := e2.hs _ _ hh
    have hl : kvs.length < sizeLine := by
      have z := rk.length
      rw [List.length_map] at z
      have := fits_le hb.2
      omega
    refine ⟨a, _, rfl, DPut.k h2d hl, ?_⟩
    obtain ⟨p1, p2⟩ := put_rep hb.1 r2 (Rep.mono e2.gs r1) (rk.mono e2.gs) (rv.mono e2.gs)
    exact k2 _ _ _ (I2.writeG hi rfl rfl ha' ⟨_, rfl, p1, p2⟩) e2.gs
theorem M2_of {X : Cx} {x y z : Expr} {m : Str} {ap p : Pos} (h1 : plainBase x = true) (h2 : notStar y = true) (h3 : notStar z = true) (h4 : (ap.endLine == p.line) = true) : M2 X x m ap y z p := by
  have e2 : starEach [z] X.env = [(false, eval z X.env)] := star_of h3
  have e1 : starEach [y, z] X.env = [(false, eval y X.env), (false, eval z X.env)] := by rw [star_of h2, e2]
  refine ⟨plainBase_ok h1, ?_, h4, ?_⟩
  · rw [e1]; rfl
  · rw [e1]; rfl
theorem sd_get2 {d k a : C} (Sd' : Sd B n N d) (Sk : Sd B n N k) (Sa : Sd B n N a) : Sd B n N (.get2 d k a) := by
  refine Sd.mk1 rfl (fun z => nomatch z) (SE.all ?_ fun _ _ _ h => h)
  intro sc e hc X W E G0 H0 G H ρ σ Q I g
  obtain ⟨x, ap, y, z, p, rfl, h1, h2, h3, h4, h5, h6, h7⟩ : ∃ x ap y z p, e = .Call (.Attribute x "get" ap) [y, z] [] p ∧ (ck B N d).e true sc x = true ∧ (ck B N k).e false sc y = true ∧ (ck B N a).e false sc z = true ∧ notStar y = true ∧ notStar z = true ∧ plainBase x = true ∧ (ap.endLine == p.line) = true := by
    have hc : eGet2 (ck B N d) (ck B N k) (ck B N a) false sc e = true := hc
    unfold eGet2 at hc
    split at hc
    · simp only [Bool.and_eq_true] at hc
      have e0 := sEq_ok hc.1.1.1.1.1.1.1
      subst e0
      exact ⟨_, _, _, _, _, rfl, hc.1.1.1.1.1.1.2, hc.1.1.1.1.1.2, hc.1.1.1.1.2, hc.1.1.1.2, hc.1.1.2, hc.1.2, hc.2⟩
    · cases hc
  have u1 : X.A.units + 1 < cLine := by have := units65 E.room; omega
  have g0 : GX (XB B X) W G H σ (okE false X.K G H Q) ((ev (φn B n) B.κ d ρ).bind fun x => (dctR x).bind fun x => (ev (φn B n) B.κ k ρ).bind fun y => (ev (φn B n) B.κ a ρ).bind fun z => get2P x y z) := g
  refine pe_can' (pe_dget2 u1 pe_can pe_can pe_can (M2_of h6 h4 h5 h7)) ?_
  refine Sd'.e true sc x h1 X W E G0 H0 G H ρ σ _ I (g0.bind.imp fun p1 _ k1 G1 H1 v e1 r1 => ?_)
  have I1 := I.grow e1
  cases p1 with
  | dct ks vs =>
    obtain ⟨b, kvs, rfl, hh, rk, rv⟩ := RepX.dct r1 I1.sub
    refine ⟨b, rfl, .inl ⟨kvs, .inl hh⟩, ?_⟩
    have k1' := GX.move (r := (ev (φn B n) B.κ k ρ).bind fun y => (ev (φn B n) B.κ a ρ).bind fun z => get2P (.dct ks vs) y z) k1 e1 fun q kq G' H' w e' r' => kq G' H' w (e1.trans e') r'
    refine Sk.e false sc y h2 X W E G0 H0 G1 H1 ρ σ _ I1 (k1'.bind.imp fun p2 _ k2 G2 H2 w e2 r2 => ?_)
    have I2 := I1.grow e2
    have k2' := GX.move (r := (ev (φn B n) B.κ a ρ).bind fun z => get2P (.dct ks vs) p2 z) k2 e2 fun q kq G' H' w e' r' => kq G' H' w (e2.trans e') r'
    refine Sa.e false sc z h3 X W E G0 H0 G2 H2 ρ σ _ I2 (k2'.bind.imp fun p3 _ k3 G3 H3 u e3 r3 => ?_)
    have k3 : GX (XB B X) W G2 H2 σ (okE false X.K G2 H2 Q) (if keyB p2 then .ok ((lookP ks vs p2).getD p3) else .bad) := k3
    cases hb : keyB p2 with
    | false => rw [hb] at k3; exact k3.elim
    | true =>
      rw [hb] at k3
      have ew := key_rep (show Rep X.K G2 w p2 from r2) hb
      subst ew
      refine ⟨_, DGet.k (e3.hs _ _ (e2.hs _ _ hh)), ?_⟩
      rcases look_val hb (rk.mono (e2.gs.trans e3.gs)) (rv.mono (e2.gs.trans e3.gs)) with ⟨q1, q2⟩ | ⟨p', v', q1, q2, rr⟩
      · rw [q2]
        rw [q1] at k3
        exact k3 G3 H3 _ e3 r3
      · rw [q2]
        rw [q1] at k3
        exact k3 G3 H3 _ e3 rr
  | _ => exact k1.elim
end
end Z
end
section
/-! Z: len({.. for .. in ..}) of keys. -/
namespace Z
open PySem PySem.Spec PyProof.Rows L2
section
variable {X : Cx}
/-- a set comprehension whose members are keys: D the new set -/
def tSk (P : Program) (w : World) (wi : TI) (g : TG) (tt : TT) (te : TE) (vs : List Nat) : TE := fun σ H Q => wi σ H fun J Ha => ∀ D, Ha D = none → ∃ Wn : Nat → Nat → Hp → Prop, (∃ m, Wn 0 m (upd Ha D (SetK P w D (fun _ => false) 0))) ∧
  ∀ i m Hb, Wn i m Hb → (J.stop i Hb ∧ Q (.ref D) Hb) ∨ (J.go i Hb ∧ ∃ Nx : Hp → Prop, (∀ Hc, Nx Hc → ∃ m', m' < m ∧ Wn (i + 1) m' Hc) ∧
    ∀ x Hc, J.yld i Hb x Hc → g x (L2.wipe σ vs) Hc fun σa Hd => L2.wipe σa vs = L2.wipe σ vs ∧ tt σa Hd fun b He => if b = true then
      te σa He fun y Hf => ∃ (c : Key) (S : Key → Bool) (k : Nat), y = kV c ∧ Hf D = some (SetK P w D S k) ∧ k + 1 < scanBound ∧ Nx (upd Hf D (SetK P w D (fun j => S j || decide (j = c)) (if S c = true then k else k + 1))) else Nx He)
abbrev skObj (w : World) : Obj := { cls := .type "set", dict := none, data := .set #[] 0 (.fresh 0 0 (!w.params.followText "set-order")) }
theorem sk_new (P : Program) (w : World) (h : Heap) : (h.push (skObj w)).SetOf (mixKind P w) h.objs.size (fun _ => false) 0 :=
  ⟨_, #[], 0, _, Heap.get?_push_size _ rfl, ⟨rfl, rfl, rfl⟩, rfl, fun e he => by simp at he, fun k => by simp, by decide, by rfl, rfl⟩
theorem pe_sk {elt tg iter : Expr} {ifs : List Expr} {scope : Scope} {own : List (Str × Nat)} {pos : Pos} {wi : TI} {g : TG} {tt : TT} {te : TE} (hcalm : X.calm = true) (hnd : X.N.Nodup) (hit : PI X tg iter wi) (bo : BlkOk X.N X.env.scope scope own)
    (hgg : ∀ (s : Shared) (H : Hp) (C : Addr) (cl : List (Str × Addr)) (fp : List Addr), PG (X.blk s H scope (compEnvC scope cl C X.env) fp) tg g)
    (htt : ∀ (s : Shared) (H : Hp) (C : Addr) (cl : List (Str × Addr)) (fp : List Addr), PTs (X.blk s H scope (compEnvC scope cl C X.env) fp) ifs tt)
    (hee : ∀ (s : Shared) (H : Hp) (C : Addr) (cl : List (Str × Addr)) (fp : List Addr), PE (X.blk s H scope (compEnvC scope cl C X.env) fp) elt te) (hfs : ∀ x, foldedSetIterable iter X.env x = pure x) :
    PE X (.SetComp elt [⟨tg, iter, ifs, 0⟩] scope pos) (tSk X.prog X.w wi g tt te (own.map (·.2))) := by
  refine ⟨fun pins s σ H Q I h => ?_⟩
  rw [PpSet.eval_SetComp]
  have cells : ∀ y ∈ scope.names, y.2 = .free → ∃ c, X.env.cells.lookup y.1 = some c := fun y hy ey => (bo.free y hy ey).elim (fun q => I.ok.has _ (.inl q)) fun q => I.ok.has _ (.inr q)
  refine wpAny_comprehension_free (use := none) rfl hfs (closure_ok cells) bo.kind (fun y hy ey => by rw [bo.uniq y hy, ey]) (thn (hit.run pins s σ H _ I h) fun xv sA hA => thn hA fun itv sB hB => ?_)
  obtain ⟨it, fp, tn, J, HB, e0, IB, T, stB, fB, q⟩ := hB
  subst e0
  refine PpSet.newSet_ok (newEnv_comp ?_)
  generalize hD : sB.heap.objs.size = D
  have freeD : HB D = none := IB.hok.fresh (Nat.le_of_eq hD)
  obtain ⟨Wn, ⟨m0, w0⟩, turn⟩ := q D freeD
  generalize hsC : ({ sB with heap := sB.heap.push (skObj X.w) } : Shared) = sC
  have heC : sC.heap = sB.heap.push (skObj X.w) := by rw [← hsC]
  generalize hHC : upd HB D (SetK X.prog X.w D (fun _ => false) 0) = HC at w0
  have IC : Inv X pins σ HC sC := by
    rw [← hsC, ← hHC]
    refine IB.laid (t' := sB.toks) (fun b o e => Heap.get?_push_of_some _ e) (Nat.le_of_eq hD) ?_
    rw [← hD]
    exact setK_new (sk_new X.prog X.w sB.heap)
  have ltB : ∀ b ∈ fp, b < sB.heap.objs.size := fun b hb => let ⟨o, e, _⟩ := T.obj _ _ stB b hb; Heap.lt_size e
  have fC : ∀ b ∈ fp, FpOk X pins HC b ∧ b < sC.heap.objs.size := fun b hb => by
    have hlt := ltB b hb
    refine ⟨⟨?_, (fB b hb).2⟩, by rw [heC, Heap.size_push]; exact Nat.lt_succ_of_lt hlt⟩
    rw [← hHC, upd_ne (by rw [← hD]; exact Nat.ne_of_lt hlt)]
    exact (fB b hb).1
  have stC : tn 0 sC.heap := T.keep _ _ _ stB fun b _ o e => by rw [heC]; exact Heap.get?_push_of_some _ e
  have I4 := block_start IC bo hnd fC
  have pg := hgg sC HC sC.heap.objs.size (cellsFrom (sC.heap.objs.size + 1) scope.names (cloFrom X.env.cells scope.names [])) fp
  have pt := htt sC HC sC.heap.objs.size (cellsFrom (sC.heap.objs.size + 1) scope.names (cloFrom X.env.cells scope.names [])) fp
  have pe := hee sC HC sC.heap.objs.size (cellsFrom (sC.heap.objs.size + 1) scope.names (cloFrom X.env.cells scope.names [])) fp
  have hRR : ∀ C s' m H', Inv X pins σ H' s' → Q (.ref D) H' → s'.heap.Ns C m → FpOk X pins H' C → compPost (model X.prog X.w) X.A X.xe none (EP X pins σ Q) (.ref D) C (.ok .next) s' := fun C s' m H' I' qq hn f => by
    obtain ⟨f0, f1, f2, f3, f4, f5⟩ := f
    exact ⟨m, hn, fun h'' sb => ⟨.ref D, H', I'.turned (t' := s'.toks) (fun b o hb e => (sb.2 b hb).trans e) f0 f1 f3 f4 f5, rfl, qq⟩⟩
  show codeAny _ _ (.compStart (.SetComp elt [⟨tg, iter, ifs, 0⟩] scope pos) 0 (.ref it) (.ref D) (compEnvC scope (cellsFrom (sC.heap.objs.size + 1) scope.names (cloFrom X.env.cells scope.names [])) sC.heap.objs.size X.env)) (compPost (model X.prog X.w) X.A X.xe none (EP X pins σ Q) (.ref D) sC.heap.objs.size) { sC with heap := pushCells (sC.heap.push { cls := .type "dict", data := .dict #[] }) scope.names }
  have nfp : ∀ b ∈ fp, HC b = none := fun b hb => (fC b hb).1.1
  generalize hce : compEnvC scope (cellsFrom (sC.heap.objs.size + 1) scope.names (cloFrom X.env.cells scope.names [])) sC.heap.objs.size X.env = ce at I4 pg pt pe ⊢
  have cL : ce.locals = sC.heap.objs.size := by subst hce; rfl
  generalize hs4 : ({ sC with heap := pushCells (sC.heap.push { cls := .type "dict", data := .dict #[] }) scope.names } : Shared) = sD at I4 ⊢
  have stD : tn 0 sD.heap := T.keep _ _ _ stC fun b _ o e => by rw [← hs4]; exact pushCells_keeps _ _ _ _ (Heap.get?_push_of_some _ e)
  have stat : ∀ {σ' : L2.St} {H' : Hp} {s' : Shared}, Inv (X.blk sC HC scope ce fp) [] σ' H' s' → (∀ b ∈ fp, H' b = none) → ∀ b ∈ fp, FpOk (X.blk sC HC scope ce fp) [] H' b := fun {σ' H' s'} J' hn b hb =>
    ⟨hn b hb, (J'.ok.exf b hb).1, J'.ok.exfs b hb, .inl hb, fun x c e => (J'.ok.exf b hb).2 x c e, fun z hz => absurd (show z ∈ ([] : List (Addr × Obj)) ++ [] from hz) (by simp)⟩
  have loop : codeAny (model X.prog X.w) X.A (.compLoop (.SetComp elt [⟨tg, iter, ifs, 0⟩] scope pos) 0 (.ref it) (.ref D) ce) (compPost (model X.prog X.w) X.A X.xe none (EP X pins σ Q) (.ref D) sC.heap.objs.size) sD := by
    refine PpSet.compLoopS_any (fun k s' => ∃ i H', Inv (X.blk sC HC scope ce fp) [] (L2.wipe σ (own.map (·.2))) H' s' ∧ tn i s'.heap ∧ (∀ b ∈ fp, H' b = none) ∧ Wn i k H') ?_ m0 ⟨0, HC, I4, stD, nfp, w0⟩
    rintro k s5 ⟨i, H5, I5, st5, n5, w5⟩
    rcases turn i k H5 w5 with ⟨stop, qq⟩ | ⟨go, Nx, hNx, step⟩
    · have td := T.done (X.blk sC HC scope ce fp) rfl rfl rfl hcalm i [] s5 _ H5 (fun _ _ => False) I5 (stat I5 n5) st5 stop
      refine thnF td fun r s6 ⟨er, I6⟩ => ?_
      subst er
      have I7 : Inv X pins σ H5 s6 := IC.call' (ch := fp) I6.os I6.base I6.hok I6.bare fun b hb => ⟨(fC b hb).1.2.2.2.1, (fC b hb).1.2.1, (fC b hb).1.2.2.2.2.1, (fC b hb).1.2.2.2.2.2⟩
      have nC : H5 sC.heap.objs.size = none := by
        have z : H5 ce.locals = none := I6.free
        rwa [cL] at z
      obtain ⟨m, hn, _⟩ := I6.loc
      have hn : s6.heap.Ns ce.locals m := hn
      rw [cL] at hn
      exact hRR sC.heap.objs.size s6 m H5 I7 qq hn (IC.fpOk (Nat.le_refl _) nC)
    · have ti := T.item (X.blk sC HC scope ce fp) rfl rfl rfl hcalm i [] s5 _ H5 (fun _ _ => False) I5 (stat I5 n5) st5 go
      refine thnF ti fun r s6 ⟨u, er, h6⟩ => ?_
      subst er
      refine thnF h6 fun _ s7 ⟨x, H7, I7, r7, y7, st7, n7⟩ => ?_
      have P7 := I7.pinned (stat I7 n7) (T.obj _ _ st7)
      refine thnF (pg.run _ s7 _ H7 x u _ P7 r7 (step x H7 y7)) fun _ s8 ⟨σ8, H8, I8, hw8, q8⟩ => ?_
      refine thnF (pt.run _ s8 σ8 H8 _ I8 q8) fun b s9 ⟨H9, I9, q9⟩ => ?_
      have last : ∀ {s' : Shared} {H' : Hp}, Inv (X.blk sC HC scope ce fp) ([] ++ pinsAt fp s7.heap) σ8 H' s' → Nx H' → ∃ m, m < k ∧ ∃ i H', Inv (X.blk sC HC scope ce fp) [] (L2.wipe σ (own.map (·.2))) H' s' ∧ tn i s'.heap ∧ (∀ b ∈ fp, H' b = none) ∧ Wn i m H' := fun {s' H'} J' nx => by
        obtain ⟨m', hm, w'⟩ := hNx H' nx
        have pinned : ∀ b ∈ fp, ∀ o, s7.heap.get? b = some o → s'.heap.get? b = some o ∧ H' b = none := fun b hb o e =>
          let z := J'.pin (b, o) (List.mem_append_right _ (List.mem_append_right _ (mem_pinsAt hb e)))
          ⟨z.1, z.2.1⟩
        refine ⟨m', hm, i + 1, H', (J'.unpinned (pins := [])).weak (by rw [← hw8, wipe_length]) (fun j v e => ?_), T.keep _ _ _ st7 fun b hb o e => (pinned b hb o e).1, fun b hb => ?_, w'⟩
        · rw [← hw8] at e
          exact (wipe_some e).1
        · obtain ⟨o, e, _⟩ := T.obj _ _ st7 b hb
          exact (pinned b hb o e).2
      cases b with
      | false =>
        simp only [Bool.false_eq_true, if_false] at q9 ⊢
        exact last I9 q9
      | true =>
        simp only [if_true] at q9 ⊢
        refine thnF (pe.run _ s9 σ8 H9 _ I9 q9) fun z s10 ⟨yv, H10, I10, r10, c, S0, k0, ey, hD10, hz10, nx⟩ => ?_
        subst ey
        refine thnF (mt_saddK (X := X.blk sC HC scope ce fp) _ s10 σ8 H10 (.ref D) [kV c] (.ref D) [z] (fun _ H' => Nx H') I10 rfl (.cons r10 .nil) ⟨D, c, S0, k0, rfl, rfl, hD10, hz10, nx⟩) fun _ s11 ⟨_, H11, I11, _, nx'⟩ => last I11 nx'
  exact PpSet.codeAny_compStart_set loop (T.self X.A 0 _ _ _ stD loop)
/-- len of such a set -/
theorem cr_lenK : CallR X (.builtin "len") (fun xs H Q => ∃ (a : Addr) (S : Key → Bool) (k : Nat), xs = [V.ref a] ∧ H a = some (SetK X.prog X.w a S k) ∧ k < 4096 ∧ Q (.int k) H) := by
  intro pins s σ H xs us Q I r h
  obtain ⟨a, S, k, rfl, ha, hk, q⟩ := h
  obtain ⟨u, rfl, ru⟩ := vals1 r
  cases ru
  obtain ⟨o, es, ep, t, ho, hex, hd, _, _, _, hf, hn⟩ := setK_get I ha
  exact call_len_set ho hex hd hf (by rw [hn]; omega) ⟨.int k, H, I.tok _, ⟨_, by rw [hn]⟩, q⟩
end
/-! ### what the set holds -/
def memS (xs : List PV) : Key → Bool := fun j => (dedP xs).any fun p => decide (keyP p = j)
theorem dedP_snoc (xs : List PV) (y : PV) : dedP (xs ++ [y]) = if hasP (dedP xs) y then dedP xs else dedP xs ++ [y] := by
  unfold dedP
  rw [List.foldl_append]
  rfl
theorem dedP_len (xs : List PV) : (dedP xs).length ≤ xs.length := by
  have key : ∀ (ys acc : List PV), (ys.foldl (fun acc x => if hasP acc x then acc else acc ++ [x]) acc).length ≤ acc.length + ys.length := by
    intro ys
    induction ys with
    | nil => intro acc; exact Nat.le_refl _
    | cons y ys ih =>
      intro acc
      rw [List.foldl_cons, List.length_cons]
      refine Nat.le_trans (ih _) ?_
      split
      · omega
      · rw [List.length_append]; show acc.length + 1 + ys.length ≤ _; omega
  have := key xs []
  rw [List.length_nil, Nat.zero_add] at this
  exact this
theorem dedP_mem {xs : List PV} : ∀ x ∈ dedP xs, x ∈ xs := by
  have key : ∀ (ys acc : List PV), ∀ x ∈ ys.foldl (fun acc x => if hasP acc x then acc else acc ++ [x]) acc, x ∈ acc ∨ x ∈ ys := by
    intro ys
    induction ys with
    | nil => intro acc x h; exact .inl h
    | cons y ys ih =>
      intro acc x h
      rw [List.foldl_cons] at h
      rcases ih _ x h with h | h
      · split at h
        · exact .inl h
        · rcases List.mem_append.mp h with h | h
          · exact .inl h
          · exact .inr (by rw [List.mem_singleton.mp h]; exact List.mem_cons_self ..)
      · exact .inr (List.mem_cons_of_mem _ h)
  intro x h
  rcases key xs [] x h with h | h
  · cases h
  · exact h
theorem memS_key {xs : List PV} {y : PV} (hx : xs.all keyB = true) (hy : keyB y = true) : memS xs (keyP y) = hasP (dedP xs) y := by
  unfold memS hasP
  have key : ∀ l : List PV, (∀ p ∈ l, keyB p = true) → (l.any fun p => decide (keyP p = keyP y)) = l.any fun k => eqP k y := by
    intro l
    induction l with
    | nil => intro _; rfl
    | cons a l ih =>
      intro h
      rw [List.any_cons, List.any_cons, keyP_eq (h a (List.mem_cons_self ..)) hy, ih fun p hp => h p (List.mem_cons_of_mem _ hp)]
  exact key _ fun p hp => List.all_eq_true.mp hx p (dedP_mem p hp)
theorem memS_snoc {xs : List PV} {y : PV} (hx : xs.all keyB = true) (hy : keyB y = true) : memS (xs ++ [y]) = (fun j => memS xs j || decide (j = keyP y)) ∧ (dedP (xs ++ [y])).length = if memS xs (keyP y) = true then (dedP xs).length else (dedP xs).length + 1 := by
  have e := memS_key hx hy
  rw [e, dedP_snoc]
  cases h : hasP (dedP xs) y with
  | true =>
    refine ⟨funext fun j => ?_, by rw [if_pos rfl, if_pos rfl]⟩
    show ((dedP (xs ++ [y])).any fun p => decide (keyP p = j)) = _
    rw [dedP_snoc, h, if_pos rfl]
    by_cases hj : j = keyP y
    · subst hj
      rw [e, h]
      show memS xs (keyP y) = _
      rw [e, h]; rfl
    · rw [decide_eq_false hj, Bool.or_false]; rfl
  | false =>
    refine ⟨funext fun j => ?_, by rw [if_neg Bool.false_ne_true, if_neg Bool.false_ne_true, List.length_append]; rfl⟩
    show ((dedP (xs ++ [y])).any fun p => decide (keyP p = j)) = _
    rw [dedP_snoc, h, if_neg Bool.false_ne_true, List.any_append]
    show (memS xs j || (decide (keyP y = j) || false)) = _
    rw [Bool.or_false]
    congr 1
    exact decide_eq_decide.mpr ⟨Eq.symm, Eq.symm⟩
section
variable {B : Tb} {n : Nat} {N : List Str}
theorem set_run {sc scope : Scope} {X : Cx} {W : WX} (E : EC B n N sc X W) {tg cn el : C} {t elt : Expr} {vs : List Nat} (Sc : Sd B n N cn) (Se : Sd B n N el)
    (h2 : ckG N scope tg t = true) (h4 : (ck B N el).e false (relS scope sc) elt = true) (h7 : ∀ i ∈ tgS tg, i ∈ vs) {tt : TT}
    (htt : ∀ (σ2 : L2.St) (H2 : Hp) (G2 : Hp) (ρ2 : List Slot) (G0 H0 : Hp) (b : Bool) (Q : Bool → Hp → Prop), SI X.K G0 H0 G2 H2 ρ2 σ2 → (ev (φn B n) B.κ cn ρ2).bind truP = .ok b → (∀ G' H', Ext G2 H2 G' H' → Q b H') → tt σ2 H2 Q)
    {G0 H0 G H G1 H1 : Hp} {ρ : List Slot} {σ : L2.St} {Q : VK} (I : SI X.K G0 H0 G H ρ σ) (e1 : Ext G H G1 H1) {J : It} {xs ys : List PV} (hJ : ItP (CC G1 H1) X.K J xs)
    (hy : compL (fun x => (asgP tg x (wipeS ρ vs)).bind fun ρ' => (ev (φn B n) B.κ cn ρ').bind fun c => (truP c).bind fun t => if t then (ev (φn B n) B.κ el ρ').bind fun y => .ok (some y) else .ok none) xs = .ok ys) (hs : setOk ys = true)
    (D : Addr) (hD : H1 D = none) (k : ∀ G2 Hh, Ext G1 H1 G2 Hh → Hh D = some (SetK X.prog X.w D (memS ys) (dedP ys).length) → Q (.ref D) Hh) :
    ∃ Wn : Nat → Nat → Hp → Prop, (∃ m, Wn 0 m (upd H1 D (SetK X.prog X.w D (fun _ => false) 0))) ∧ ∀ i m Hb, Wn i m Hb →
      (J.stop i Hb ∧ Q (.ref D) Hb) ∨ (J.go i Hb ∧ ∃ Nx : Hp → Prop, (∀ Hc, Nx Hc → ∃ m', m' < m ∧ Wn (i + 1) m' Hc) ∧ ∀ x Hc, J.yld i Hb x Hc → tcGU X scope t x (L2.wipe σ vs) Hc fun σa Hd => L2.wipe σa vs = L2.wipe σ vs ∧ tt σa Hd fun b He =>
        if b = true then tcEU X scope elt σa He fun y Hf => ∃ (c : Key) (S : Key → Bool) (k : Nat), y = kV c ∧ Hf D = some (SetK X.prog X.w D S k) ∧ k + 1 < scanBound ∧ Nx (upd Hf D (SetK X.prog X.w D (fun j => S j || decide (j = c)) (if S c = true then k else k + 1))) else Nx He) := by
  generalize hf : (fun x => (asgP tg x (wipeS ρ vs)).bind fun ρ' => (ev (φn B n) B.κ cn ρ').bind fun c => (truP c).bind fun t => if t then (ev (φn B n) B.κ el ρ').bind fun y => Res.ok (some y) else Res.ok none) = f at hy
  unfold setOk at hs
  rw [Bool.and_eq_true] at hs
  have hlen : ys.length < 1000 := Nat.le_of_ble_eq_true hs.2
  have g1D : G1 D = none := e1.gh.free hD
  refine ⟨fun i m Hh => ∃ G2 acc rest, m = xs.length - i ∧ i ≤ xs.length ∧ Ext G1 H1 G2 Hh ∧ G2 D = none ∧ Hh D = some (SetK X.prog X.w D (memS acc) (dedP acc).length) ∧ compL f (xs.drop i) = .ok rest ∧ ys = acc ++ rest,
    ⟨xs.length, G1, [], ys, rfl, Nat.zero_le _, Ext.newOwn e1.gh hD, g1D, upd_same, hy, rfl⟩, fun i m Hh hW => ?_⟩
  obtain ⟨G2, acc, rest, rfl, hi, e2, g2D, hhD, hr, rfl⟩ := hW
  have hka : acc.all keyB = true := by
    have z := hs.1
    rw [List.all_append, Bool.and_eq_true] at z
    exact z.1
  have hJi := hJ i G2 Hh e2 e2.gh
  by_cases hlt : i < xs.length
  · obtain ⟨x, hx⟩ : ∃ x, xs[i]? = some x := ⟨xs[i], List.getElem?_eq_getElem hlt⟩
    obtain ⟨go, yl⟩ := hJi.1 x hx
    have hdrop : xs.drop i = x :: xs.drop (i + 1) := by
      rw [List.drop_eq_getElem_cons hlt]
      rw [List.getElem?_eq_getElem hlt] at hx
      cases hx; rfl
    rw [hdrop] at hr
    refine .inr ⟨go, fun H' => ∃ G2 acc' rest', Ext G1 H1 G2 H' ∧ G2 D = none ∧ H' D = some (SetK X.prog X.w D (memS acc') (dedP acc').length) ∧ compL f (xs.drop (i + 1)) = .ok rest' ∧ acc ++ rest = acc' ++ rest', fun H' hN => ?_, fun v H' hyl => ?_⟩
    · obtain ⟨G3, a3, r3, q1, q2, q3, q6, q7⟩ := hN
      exact ⟨xs.length - (i + 1), by omega, G3, a3, r3, rfl, by omega, q1, q2, q3, q6, q7⟩
    · obtain ⟨G3, e3, rv⟩ := yl v H' hyl
      intro s1 Hs Ca cl fp
      have I3 : SI X.K G0 H0 G3 H' (wipeS ρ vs) (L2.wipe σ vs) := ((I.grow ((e1.trans e2).trans e3))).wipe vs
      have efx : ∃ o, f x = .ok o := by
        rcases compL_step hr with ⟨y, zs, h, _⟩ | ⟨h, _⟩
        · exact ⟨_, h⟩
        · exact ⟨_, h⟩
      obtain ⟨o, ho⟩ := efx
      have ho2 := ho
      rw [← hf] at ho2
      obtain ⟨ρ', ea, ho3⟩ := bind_ok ho2
      obtain ⟨c, ec, ho4⟩ := bind_ok ho3
      obtain ⟨b, eb, ho5⟩ := bind_ok ho4
      refine (tgt_both (G0 := G0) (H0 := H0) (G := G3) (H := H') (TC.blk E s1 Hs Ca cl fp) tg).1 t h2 x v (wipeS ρ vs) ρ' (L2.wipe σ vs) _ ea I3 rv fun σ2 I4 o4 l4 => ?_
      refine ⟨wipe_same (by rw [l4, wipe_length]) fun j hj => o4 j fun z => hj (h7 j z), ?_⟩
      refine htt σ2 H' G3 ρ' G0 H0 b _ I4 (by rw [ec]; exact eb) fun G4 H4 e4 => ?_
      have I5 : SI X.K G0 H0 G4 H4 ρ' σ2 := I4.grow e4
      have e24 : Ext G2 Hh G4 H4 := e3.trans e4
      have g4D : G4 D = none := e24.own g2D hhD
      have h4D := e24.hs _ _ hhD
      cases b with
      | true =>
        refine iteT ?_
        have ho6 : ((ev (φn B n) B.κ el ρ').bind fun y => Res.ok (some y)) = .ok o := ho5
        obtain ⟨y, ey, ho7⟩ := bind_ok ho6
        cases ho7
        rcases compL_step hr with ⟨y', zs, h, hzs, rfl⟩ | ⟨h, _⟩
        · rw [ho] at h; cases h
          intro s2 Hs2 Ca2 cl2 fp2
          refine Se.e false (relS scope sc) elt h4 _ _ (E.blk s2 Hs2 Ca2 cl2 fp2) G0 H0 G4 H4 ρ' σ2 _ I5 ?_
          rw [ey]
          intro G5 H5 v5 e5 r5
          have hky : keyB y = true := by
            have z := hs.1
            rw [List.all_append, Bool.and_eq_true, List.all_cons, Bool.and_eq_true] at z
            exact z.2.1
          have e25 : Ext G2 Hh G5 H5 := e24.trans e5
          have g5D : G5 D = none := e25.own g2D hhD
          have h5D := e25.hs _ _ hhD
          have ew := key_rep (show Rep X.K G5 v5 y from r5) hky
          subst ew
          have hl1 := dedP_len acc
          rw [List.length_append] at hlen
          obtain ⟨q1, q2⟩ := memS_snoc hka hky
          refine ⟨keyP y, memS acc, (dedP acc).length, rfl, h5D, by show _ < 4096; omega, G5, acc ++ [y], zs, (e2.trans e25).put hD g5D, g5D, ?_, hzs, by rw [List.append_assoc]; rfl⟩
          rw [q1, q2]
          exact upd_same
        · rw [ho] at h; cases h
      | false =>
        refine iteF ?_
        have ho6 : (Res.ok none : Res (Option PV)) = .ok o := ho5
        cases ho6
        rcases compL_step hr with ⟨y', zs, h, hzs, rfl⟩ | ⟨h, hrest⟩
        · rw [ho] at h; cases h
        · exact ⟨G4, acc, rest, e2.trans e24, g4D, h4D, hrest, rfl⟩
  · have hi' : i = xs.length := by omega
    refine .inl ⟨hJi.2 (by omega), ?_⟩
    rw [hi', List.drop_length] at hr
    cases hr
    rw [List.append_nil] at k
    exact k G2 Hh e2 hhD
theorem sd_lsc (vs : List Nat) (tg : C) {it cn el : C} (Si : Sd B n N it) (Sc : Sd B n N cn) (Se : Sd B n N el) : Sd B n N (.lsc vs tg it cn el) := by
  refine Sd.mk1 rfl (fun z => nomatch z) (SE.all ?_ fun _ _ _ h => h)
  intro sc e hc X W E G0 H0 G H ρ σ Q I g
  obtain ⟨x, p, elt, t, i, ifs, scope, q, pos, rfl, hk⟩ : ∃ x p elt t i ifs scope q pos, e = .Call (.Name x p) [.SetComp elt [⟨t, i, ifs, 0⟩] scope q] [] pos ∧ (sEq "len" x && glB sc x && (ck B N it).i true (isTupE t) sc i && ckG N scope tg t &&
      (match ifs with | [] => isTrueC cn | [c] => (ck B N cn).t (relS scope sc) c | _ => false) && (ck B N el).e false (relS scope sc) elt &&
      blkC N sc scope (ownOf N scope) && decide (vs = (ownOf N scope).map (·.2)) && notSet i && (tgS tg).all fun i => vs.contains i) = true := by
    have hc : eLsc N vs tg (ck B N it) (ck B N cn) (ck B N el) (isTrueC cn) false sc e = true := hc
    unfold eLsc at hc
    split at hc
    · exact ⟨_, _, _, _, _, _, _, _, _, rfl, hc⟩
    · cases hc
  simp only [Bool.and_eq_true, decide_eq_true_eq] at hk
  obtain ⟨⟨⟨⟨⟨⟨⟨⟨⟨ha, hb⟩, h1⟩, h2⟩, h3⟩, h4⟩, h5⟩, h6⟩, hset⟩, h7⟩ := hk
  have h7 := contains_mem h7
  have ha' := sEq_ok ha
  subst ha'
  obtain ⟨g1, g2, g3⟩ := glB_ok hb
  have hm := E.blt (x := "len") (by decide +kernel)
  have g0 : GX (XB B X) W G H σ (okE false X.K G H Q) ((ev (φn B n) B.κ it ρ).bind fun l => (lstOf l).bind fun xs =>
    (compL (fun x => (asgP tg x (wipeS ρ vs)).bind fun ρ' => (ev (φn B n) B.κ cn ρ').bind fun c => (truP c).bind fun t => if t then (ev (φn B n) B.κ el ρ').bind fun y => .ok (some y) else .ok none) xs).bind fun ys => lsetP (.lst ys)) := g
  have core : tcE X (.SetComp elt [⟨t, i, ifs, 0⟩] scope q) σ H fun v Hh => ∃ (a : Addr) (S : Key → Bool) (k : Nat), [v] = [V.ref a] ∧ Hh a = some (SetK X.prog X.w a S k) ∧ k < 4096 ∧ Q (.int k) Hh := by
    have fin : ∀ tt : TT, (∀ (σ2 : L2.St) (H2 : Hp) (G2 : Hp) (ρ2 : List Slot) (G0 H0 : Hp) (b : Bool) (Q : Bool → Hp → Prop), SI X.K G0 H0 G2 H2 ρ2 σ2 → (ev (φn B n) B.κ cn ρ2).bind truP = .ok b → (∀ G' H', Ext G2 H2 G' H' → Q b H') → tt σ2 H2 Q) →
        tSk X.prog X.w (tcI X t i) (tcGU X scope t) tt (tcEU X scope elt) ((ownOf N scope).map (·.2)) σ H fun v Hh => ∃ (a : Addr) (S : Key → Bool) (k : Nat), [v] = [V.ref a] ∧ Hh a = some (SetK X.prog X.w a S k) ∧ k < 4096 ∧ Q (.int k) Hh := fun tt htt => by
      refine Si.i true sc t i h1 X W E G0 H0 G H ρ σ _ I (g0.bind.imp fun l _ g1 => ?_)
      cases l with
      | lst xs =>
        refine ⟨xs, rfl, fun G1 H1 J e1 hJ hz D hD => ?_⟩
        rw [← h6]
        have g2 : GX (XB B X) W G H σ (okE false X.K G H Q) ((compL (fun x => (asgP tg x (wipeS ρ vs)).bind fun ρ' => (ev (φn B n) B.κ cn ρ').bind fun c => (truP c).bind fun t => if t then (ev (φn B n) B.κ el ρ').bind fun y => .ok (some y) else .ok none) xs).bind fun ys => lsetP (.lst ys)) := g1
        cases ey : compL (fun x => (asgP tg x (wipeS ρ vs)).bind fun ρ' => (ev (φn B n) B.κ cn ρ').bind fun c => (truP c).bind fun t => if t then (ev (φn B n) B.κ el ρ').bind fun y => Res.ok (some y) else Res.ok none) xs with
        | ok ys =>
          rw [ey] at g2
          have g3 : GX (XB B X) W G H σ (okE false X.K G H Q) (if setOk ys then .ok (.int (dedP ys).length) else .bad) := g2
          cases hso : setOk ys with
          | false => rw [hso] at g3; exact g3.elim
          | true =>
            rw [hso] at g3
            refine set_run (Q := fun v Hh => ∃ (a : Addr) (S : Key → Bool) (k : Nat), [v] = [V.ref a] ∧ Hh a = some (SetK X.prog X.w a S k) ∧ k < 4096 ∧ Q (.int k) Hh) E Sc Se h2 h4 h7 htt I e1 hJ ey hso D hD fun G2 Hh q1 q3 => ⟨D, _, _, rfl, q3, ?_, g3 G2 Hh _ (e1.trans q1) (.int _)⟩
            have z := dedP_len ys
            unfold setOk at hso
            rw [Bool.and_eq_true] at hso
            have : ys.length < 1000 := Nat.le_of_ble_eq_true hso.2
            omega
        | exc c o => exact absurd ey (compL_exc xs)
        | bad => rw [ey] at g2; exact g2.elim
      | _ => exact g1.elim
    have build : ∀ tt : TT, (∀ (s : Shared) (H : Hp) (Ca : Addr) (cl : List (Str × Addr)) (fp : List Addr), PTs (X.blk s H scope (compEnvC scope cl Ca X.env) fp) ifs tt) → (∀ (σ2 : L2.St) (H2 : Hp) (G2 : Hp) (ρ2 : List Slot) (G0 H0 : Hp) (b : Bool) (Q : Bool → Hp → Prop), SI X.K G0 H0 G2 H2 ρ2 σ2 → (ev (φn B n) B.κ cn ρ2).bind truP = .ok b → (∀ G' H', Ext G2 H2 G' H' → Q b H') → tt σ2 H2 Q) →
        tcE X (.SetComp elt [⟨t, i, ifs, 0⟩] scope q) σ H fun v Hh => ∃ (a : Addr) (S : Key → Bool) (k : Nat), [v] = [V.ref a] ∧ Hh a = some (SetK X.prog X.w a S k) ∧ k < 4096 ∧ Q (.int k) Hh := fun tt ht htt =>
      pe_can' (pe_sk E.calm (by rw [E.nm]; exact E.nd) pi_can (own := ownOf N scope) (by rw [E.nm, E.scope]; exact blkOk_by h5) (fun s H Ca cl fp => ⟨fun pins s' σ H Q v u I r h => h s _ Ca cl fp pins s' _ I r⟩) ht (fun s H Ca cl fp => ⟨fun pins s' σ H Q J h => h s _ Ca cl fp pins s' J⟩) (fun x => notSet_folded hset X.env x)) (fin tt htt)
    cases ifs with
    | nil =>
      refine build tYes (fun _ _ _ _ _ => pts_nil) fun σ2 H2 G2 ρ2 G0 H0 b Q I2 hb hq => ?_
      have hcn : cn = .k (.bl true) := by
        have h3 : isTrueC cn = true := h3
        unfold isTrueC at h3
        split at h3
        · rfl
        · cases h3
      subst hcn
      cases hb
      exact hq G2 H2 (Ext.refl I2.sub)
    | cons c r =>
      cases r with
      | nil =>
        refine build (tcTU X scope c) (fun s H Ca cl fp => pts_one ⟨fun pins s' σ H Q J h => h s _ Ca cl fp pins s' J⟩) fun σ2 H2 G2 ρ2 G0 H0 b Q I2 hb hq => ?_
        intro s1 Hs Ca cl fp
        refine Sc.t (relS scope sc) c h3 _ _ (E.blk s1 Hs Ca cl fp) G0 H0 G2 H2 ρ2 σ2 Q I2 ?_
        rw [hb]
        exact hq
      | cons d r => cases h3
  exact pe_can' (pe_callB cr_lenK (E.gl g1) hm boot_len (pa_cons pe_can pa_nil) g3 g2) core
end
end Z
end
section
/-! Z: sets of keys, by a list of them: set(list), len and sorted of that. -/
namespace Z
open PySem PySem.Spec PyProof.Rows L2
theorem ded_snoc {α : Type} [DecidableEq α] (l : List α) (x : α) : ded (l ++ [x]) = if x ∈ ded l then ded l else ded l ++ [x] := by
  unfold ded
  rw [List.foldl_append]
  rfl
def stp {α : Type} [DecidableEq α] (l : List α) (x : α) : List α := if x ∈ l then l else l ++ [x]
theorem stp_in {α : Type} [DecidableEq α] {l : List α} {x : α} (h : x ∈ l) : stp l x = l := if_pos h
theorem stp_out {α : Type} [DecidableEq α] {l : List α} {x : α} (h : x ∉ l) : stp l x = l ++ [x] := if_neg h
theorem ded_stp {α : Type} [DecidableEq α] (l : List α) (x : α) : ded (l ++ [x]) = stp (ded l) x := ded_snoc l x
theorem ded_ind {α : Type} {p : List α → Prop} (h0 : p []) (h1 : ∀ l x, p l → p (l ++ [x])) (l : List α) : p l := by
  have : ∀ r : List α, p r.reverse := by
    intro r
    induction r with
    | nil => exact h0
    | cons a r ih => rw [List.reverse_cons]; exact h1 _ _ ih
  have z := this l.reverse
  rwa [List.reverse_reverse] at z
theorem ded_mem {α : Type} [DecidableEq α] (l : List α) : ∀ x, x ∈ ded l ↔ x ∈ l := by
  refine ded_ind (p := fun l => ∀ x, x ∈ ded l ↔ x ∈ l) (fun x => Iff.rfl) (fun l y ih x => ?_) l
  rw [ded_snoc]
  split
  · rename_i h
    rw [ih x, List.mem_append]
    refine ⟨.inl, fun q => ?_⟩
    rcases q with q | q
    · exact q
    · rw [List.mem_singleton.mp q]; exact (ih y).1 h
  · rw [List.mem_append, List.mem_append, ih x]
theorem ded_len {α : Type} [DecidableEq α] (l : List α) : (ded l).length ≤ l.length := by
  refine ded_ind (p := fun l => (ded l).length ≤ l.length) (Nat.le_refl _) (fun l y ih => ?_) l
  rw [ded_snoc]
  split
  · rw [List.length_append]; omega
  · rw [List.length_append, List.length_append]; omega
theorem ded_map {α β : Type} [DecidableEq α] [DecidableEq β] {f : α → β} (hf : ∀ a b, f a = f b → a = b) (l : List α) : ded (l.map f) = (ded l).map f := by
  refine ded_ind (p := fun l => ded (l.map f) = (ded l).map f) rfl (fun l y ih => ?_) l
  rw [List.map_append, List.map_singleton, ded_snoc, ded_snoc, ih]
  have e : (f y ∈ (ded l).map f) ↔ y ∈ ded l := by
    rw [List.mem_map]
    exact ⟨fun ⟨a, ha, q⟩ => hf _ _ q ▸ ha, fun h => ⟨y, h, rfl⟩⟩
  by_cases h : y ∈ ded l
  · rw [if_pos h, if_pos (e.2 h)]
  · rw [if_neg h, if_neg fun z => h (e.1 z), List.map_append]; rfl
/-- an entry's key -/
def kOf (e : Int × Value) : Key := match e.2 with | .int k _ => .inl k | .str x _ => .inr x | _ => .inl 0
def GdE (w : World) (e : Int × Value) : Prop := ∃ k, keyIs k e.2 = true ∧ e.1 = keyH w k
def SetM (w : World) (h : Heap) (a : Addr) (L : List Key) : Prop :=
  ∃ o es ep t, h.get? a = some o ∧ o.ExactSet ∧ o.data = .set es ep t ∧ (∀ e ∈ es.toList, GdE w e) ∧ (es.toList.map kOf).Perm L ∧ L.Nodup ∧
    es.size < scanBound ∧ t.fits es.size = true ∧ Ris t.place.toList ∧ (w.params.followText "set-order" = true ∨ t.led = true)
theorem kOf_is {k : Key} {e : Int × Value} (h : keyIs k e.2 = true) : kOf e = k := by
  unfold kOf
  rcases keyIs_shape h with ⟨i, t, rfl, q⟩ | ⟨x, t, rfl, q⟩ <;> rw [q]
theorem is_kOf {w : World} {e : Int × Value} (g : GdE w e) : keyIs (kOf e) e.2 = true := by
  obtain ⟨k, h, _⟩ := g
  rw [kOf_is h]; exact h
theorem key_scan {k : Key} {v : Value} (h : keyIs k v = true) : v.scannable = true := by
  rcases keyIs_shape h with ⟨i, t, rfl, rfl⟩ | ⟨x, t, rfl, rfl⟩ <;> rfl
section
variable {P : Program} {w : World} {h h' : Heap} {a : Addr} {L : List Key}
theorem SetM.at (R : SetM w h a L) (k : ∀ o, h.get? a = some o → h'.get? a = some o) : SetM w h' a L := by
  obtain ⟨o, es, ep, t, ho, r⟩ := R
  exact ⟨o, es, ep, t, k o ho, r⟩
theorem gd_elems {l : List (Int × Value)} (g : ∀ e ∈ l, GdE w e) : ElemsOf (mixKind P w) l := fun e he => by
  obtain ⟨k, h1, h2⟩ := g e he
  exact ⟨⟨k, h1, h2⟩, key_scan h1⟩
theorem gd_mem {l : List (Int × Value)} (g : ∀ e ∈ l, GdE w e) (k : Key) : k ∈ l.map kOf ↔ ∃ e ∈ l, (mixKind P w).is k e.2 = true := by
  rw [List.mem_map]
  constructor
  · rintro ⟨e, he, q⟩
    exact ⟨e, he, by rw [← q]; exact is_kOf (g e he)⟩
  · rintro ⟨e, he, q⟩
    exact ⟨e, he, kOf_is q⟩
end
section
variable {P : Program} {w : World} {A : Around} {E : Value → Shared → Prop} {s : Shared} {a : Addr} {L : List Key}
theorem setM_add_tail {g : Bool → Sem Unit} (hg : ∀ (b : Bool) (s₁ : Shared) (Q' : Unit → Shared → Prop), Q' () s₁ → wpAny (model P w) A (g b) Q' E s₁)
    {o : Obj} {es : Array (Int × Value)} {ep : Nat} {t : SetTable} (ho : s.heap.get? a = some o) (hex : o.ExactSet) (hd : o.data = .set es ep t)
    {es1 : Array (Int × Value)} {t2 : SetTable} {L' : List Key} (g1 : ∀ e ∈ es1.toList, GdE w e) (p1 : (es1.toList.map kOf).Perm L') (n1 : L'.Nodup)
    (hb1 : es1.size < scanBound) (hf2 : t2.fits es1.size = true) (hr : Ris t2.place.toList) (hl : w.params.followText "set-order" = true ∨ t2.led = true) {wasDummy : Bool} {R : Option Bool → Shared → Prop}
    (hR : ∀ h', Heap.SameBut a s.heap h' → SetM w h' a L' → R (some true) { s with heap := h' }) :
    wpAny (model P w) A (do
        storeSet a es1 t2
        if (!wasDummy && t2.tooFull) = true then do
            g (relayAll t2 es1 (SetTable.grown es1.size)).2.2
            storeSet a (relayAll t2 es1 (SetTable.grown es1.size)).1 (relayAll t2 es1 (SetTable.grown es1.size)).2.1
            pure (some true)
          else pure (some true)) R E s := by
  refine wpAny_bind (wpAny_storeSet_of ho hd ?_ (fits_of_scanBound hb1))
  have ho1 := store_at (es' := es1) (t' := t2) ho hd
  have sb1 := Heap.SameBut.update s.heap a (Obj.putSet es1 t2)
  split
  · have pm := relayAll_perm t2 es1 (SetTable.grown es1.size)
    have hf3 := relayAll_fits t2 es1 (SetTable.grown es1.size)
    have hr3 := relayAll_ris t2 es1 (SetTable.grown es1.size)
    have hl3 := relayAll_led t2 es1 (SetTable.grown es1.size)
    generalize relayAll t2 es1 (SetTable.grown es1.size) = Z at pm hf3 hr3 hl3 ⊢
    obtain ⟨es2, t3, gave⟩ := Z
    dsimp only at pm hf3 hr3 hl3 ⊢
    have hsz : es2.size = es1.size := by rw [← Array.length_toList, pm.length_eq, Array.length_toList]
    have hb2 : es2.size < scanBound := by rw [hsz]; exact hb1
    refine wpAny_bind (hg _ _ _ ?_)
    refine wpAny_bind (wpAny_storeSet_of ho1 rfl ?_ (fits_of_scanBound hb2))
    have ho2 := store_at (es' := es2) (t' := t3) ho1 rfl
    refine wpAny_pure (hR _ (sb1.trans (Heap.SameBut.update _ a _)) ?_)
    exact ⟨_, es2, _, t3, ho2, hex, rfl, fun e he => g1 e (pm.mem_iff.mp he), (pm.map kOf).trans p1, n1, hb2, hf3, hr3, hl.imp id fun z => by rw [hl3]; exact z⟩
  · exact wpAny_pure (hR _ sb1 ⟨_, es1, _, t2, ho1, hex, rfl, g1, p1, n1, hb1, hf2, hr, hl⟩)
theorem setM_add_hashed {k : Key} {v : Value} {Q : Bool → Shared → Prop} (hkey : (mixKind P w).is k v = true) (R : SetM w s.heap a L) (room : L.length + 1 < scanBound)
    (hQ : ∀ b h', Heap.SameBut a s.heap h' → SetM w h' a (stp L k) → Q b { s with heap := h' }) :
    wpAny (model P w) A (setAddHashed a v ((mixKind P w).hash k)) Q E s := by
  obtain ⟨o, es, ep, t, ho, hex, hd, g, pL, nL, hb, hf, hr, hl⟩ := R
  have hsc : v.scannable = true := key_scan hkey
  have hel : ElemsOf (mixKind P w) es.toList := gd_elems g
  have hn : es.size = L.length := by rw [← pL.length_eq, List.length_map, Array.length_toList]
  unfold setAddHashed setAddHashedIn
  refine wpAny_holding (wpAny_bind (wpAny_setState_of ho hd hf ?_))
  dsimp only
  rw [byScan_of hsc hb hel]
  simp only [↓reduceIte]
  unfold setAddByScan
  refine wpAny_bind ?_
  refine wpAny_bind (wpAny_rule ?_)
  refine wpAny_bind (wpAny_setScan_of hkey ho hd hf hel ?_)
  cases hfi : List.findIdx? (fun e => (mixKind P w).is k e.2) es.toList with
  | some j =>
    dsimp only
    obtain ⟨hj, pj, _⟩ := List.findIdx?_eq_some_iff_getElem.mp hfi
    have hSk : k ∈ L := pL.mem_iff.mp ((gd_mem (P := P) (w := w) g k).2 ⟨es.toList[j], List.getElem_mem hj, pj⟩)
    refine wpAny_pure (wpAny_pure ?_)
    refine hQ _ s.heap (Heap.SameBut.refl a s.heap) ?_
    rw [stp_in hSk]
    exact ⟨o, es, ep, t, ho, hex, hd, g, pL, nL, hb, hf, hr, hl⟩
  | none =>
    dsimp only
    have hnk : k ∉ es.toList.map kOf := fun z => by
      obtain ⟨e, he, q⟩ := (gd_mem (P := P) (w := w) g k).1 z
      have c := List.findIdx?_eq_none_iff.mp hfi e he
      rw [q] at c
      cases c
    have hSk : k ∉ L := fun z => hnk (pL.mem_iff.mpr z)
    have hgw : ∀ (b : Bool) {s₁ : Shared} {Q' : Unit → Shared → Prop}, Q' () s₁ → wpAny (model P w) A (match b with | true => rule "set.scan.the-table-gave-way" | false => pure ()) Q' E s₁ :=
      fun b s₁ Q' q => by cases b <;> first | exact wpAny_pure q | exact wpAny_rule q
    have pm := layNew_perm t es ((mixKind P w).hash k) v
    have hf1 := layNew_fits t es ((mixKind P w).hash k) v
    have hr1 := layNew_ris t es ((mixKind P w).hash k) v hr
    have hl1 := layNew_led t es ((mixKind P w).hash k) v
    generalize layNew t es ((mixKind P w).hash k) v = Z at pm hf1 hr1 hl1 ⊢
    obtain ⟨es1, t1, wasDummy, gave⟩ := Z
    dsimp only at pm hf1 hr1 hl1 ⊢
    rw [Array.toList_push] at pm
    have pc : es1.toList.Perm (((mixKind P w).hash k, v) :: es.toList) := pm.trans (List.perm_append_singleton _ _)
    have pk : (es1.toList.map kOf).Perm (L ++ [k]) := by
      have z := pm.map kOf
      rw [List.map_append] at z
      have e : [((mixKind P w).hash k, v)].map kOf = [k] := by rw [List.map_singleton, kOf_is (k := k) (e := ((mixKind P w).hash k, v)) hkey]
      rw [e] at z
      exact z.trans (pL.append_right _)
    have g1 : ∀ e ∈ es1.toList, GdE w e := fun e he => by
      rcases List.mem_cons.mp (pc.mem_iff.mp he) with z | z
      · rw [z]; exact ⟨k, hkey, rfl⟩
      · exact g e z
    have nd1 : (L ++ [k]).Nodup := List.nodup_append.mpr ⟨nL, List.pairwise_singleton _ _, fun x hx y hy e => by
      rw [List.mem_singleton.mp hy] at e
      exact hSk (e ▸ hx)⟩
    have hsz : es1.size = L.length + 1 := by rw [← Array.length_toList, pc.length_eq, List.length_cons, Array.length_toList, hn]
    have hb1 : es1.size < scanBound := by rw [hsz]; exact room
    have hled : w.params.followText "set-order" = true ∨ t1.led = true := hl.imp id fun z => by rw [hl1]; exact z
    have fin : ∀ h', Heap.SameBut a s.heap h' → SetM w h' a (L ++ [k]) → Q true { s with heap := h' } := fun h' sb r => by
      refine hQ true h' sb ?_
      rw [stp_out hSk]
      exact r
    refine wpAny_bind (hgw _ ?_)
    split
    · refine wpAny_bind ?_
      rw [hashByValue_scannable 8 hsc]
      refine wpAny_pure ?_
      refine setM_add_tail ?_ ho hex hd g1 pk nd1 hb1 ?_ ?_ ?_ ?_
      · intro b s₁ Q' q; cases b <;> first | exact wpAny_pure q | exact wpAny_rule q
      · first | (split <;> first | exact hf1 | exact SetTable.fits_plain_off hf1) | exact hf1
      · first | (split <;> exact hr1) | exact hr1
      · first | (split <;> exact hled) | exact hled
      · intro h' sb r; dsimp only; exact wpAny_pure (fin h' sb r)
    · refine wpAny_bind (wpAny_pure ?_)
      simp only [↓reduceIte]
      refine setM_add_tail ?_ ho hex hd g1 pk nd1 hb1 hf1 hr1 hled ?_
      · intro b s₁ Q' q; cases b <;> first | exact wpAny_pure q | exact wpAny_rule q
      · intro h' sb r; dsimp only; exact wpAny_pure (fin h' sb r)
end
theorem setM_new {h : Heap} (w : World) : SetM w (h.push (skObj w)) h.objs.size [] :=
  ⟨_, #[], 0, _, Heap.get?_push_size _ rfl, ⟨rfl, rfl, rfl⟩, rfl, (fun e he => by simp at he), (by simp), List.nodup_nil, (by decide), (by rfl), List.Pairwise.nil, by
    show _ ∨ (!w.params.followText "set-order") = true
    cases w.params.followText "set-order"
    · exact .inr rfl
    · exact .inl rfl⟩
section
variable {prog : Program} {w : World} {A : Around} {R : Result → Shared → Prop} {I : Addr} {fp wr : List Addr} {G : Array GenState → Array GenState → Prop} {n : Nat} {P : Nat → Value → Prop} {St : Nat → Shared → Prop}
theorem loopM (W : WalksS prog w A.in1 I fp wr G n P St) (S : Addr) (hSf : S ∉ fp) (ks : List Key) (hsz : ks.length = n) (hb : n + 1 < scanBound)
    (hval : ∀ i v, P i v → ∃ k, ks[i]? = some k ∧ (mixKind prog w).is k v = true) :
    ∀ (k i : Nat) (s : Shared), n - i = k → i ≤ n → St i s → SetM w s.heap S (ded (ks.take i)) →
      (∀ s', Moved (S :: wr) G s s' → SetM w s'.heap S (ded ks) → R (.ok (.ret .none)) s') →
      codeAny (model prog w) A (.builtin "set.update.loop" ⟨[.ref S, .ref I], []⟩) R s := by
  have hSw : S ∉ wr := fun h => hSf (W.sub _ h)
  have hsub : ∀ b ∈ wr, b ∈ S :: wr := fun b hb => List.mem_cons_of_mem _ hb
  intro k
  induction k with
  | zero =>
    intro i s hk hi hst hS hR
    have hin : i = n := by omega
    subst hin
    refine codeAny_builtin PyProof.Rows.F.entry_set_update_loop ?_
    rw [Around.under_plainId PyProof.Rows.F.plain_set_update_loop _]
    show wpAny _ A.in1 (pyNext (.ref I) >>= _) _ _ s
    refine wpAny_bind (W.done s _ _ hst fun s' hm => ?_)
    show wpAny _ A.in1 (ret Value.none) _ _ s'
    rw [← hsz, List.take_length] at hS
    exact wpAny_pure (hR s' (hm.mono hsub) (hS.at fun o e => hm.heap S _ hSw e))
  | succ k ih =>
    intro i s hk hi hst hS hR
    have hlt : i < n := by omega
    refine codeAny_builtin PyProof.Rows.F.entry_set_update_loop ?_
    rw [Around.under_plainId PyProof.Rows.F.plain_set_update_loop _]
    show wpAny _ A.in1 (pyNext (.ref I) >>= _) _ _ s
    refine wpAny_bind (W.item i s _ _ hlt hst fun v s' hP hst' hm => ?_)
    obtain ⟨y, hy, hv⟩ := hval i v hP
    have hS' : SetM w s'.heap S (ded (ks.take i)) := hS.at fun o e => hm.heap S _ hSw e
    show wpAny _ A.in1 (holding [v] (setAdd S v) >>= _) _ _ s'
    refine wpAny_bind (wpAny_holding ?_)
    unfold setAdd
    refine wpAny_holding ?_
    refine wpAny_bind ((mixKind prog w).pyHash (k := y) hv ?_)
    have hroom : (ded (ks.take i)).length + 1 < scanBound := by
      have z := ded_len (ks.take i)
      rw [List.length_take] at z
      omega
    refine setM_add_hashed (s := { s' with toks := s'.toks + 1 }) hv hS' hroom fun b h' hsb hS2 => ?_
    have hSi : SetM w h' S (ded (ks.take (i + 1))) := by
      have e : ks.take (i + 1) = ks.take i ++ [y] := by rw [List.take_add_one, hy]; rfl
      rw [e, ded_stp]
      exact hS2
    refine wpAny_pure ⟨plainId_quiet PyProof.Rows.F.plain_set_update_loop _, ih (i + 1) _ (by omega) hlt (W.frame _ s' _ _ hst' (Nat.le_succ _) fun b hb o e => ?_) hSi fun s'' hm'' hS'' => ?_⟩
    · rw [hsb.2 b (fun h : b = S => hSf (by rw [← h]; exact hb))]; exact e
    · refine hR s'' (Moved.trans W.gtrans ((hm.mono hsub).then_heap (Nat.le_succ _) fun b o hb e => ?_) hm'') hS''
      rw [hsb.2 b (fun h : b = S => hb (by rw [h]; exact List.mem_cons_self))]; exact e
end
section
variable {prog : Program} {w : World} {A : Around} {E : Value → Shared → Prop} {s : Shared}
theorem call_set_listM {l : Addr} {items : Array Value} {ks : List Key} {Q : Value → Shared → Prop}
    (hh : A.handled = none) (hl : s.heap.IsList l items) (hsz : ks.length = items.size) (hi : ∀ (i : Nat) (v : Value), items[i]? = some v → ∃ k, ks[i]? = some k ∧ (mixKind prog w).is k v = true) (hb : items.size + 1 < scanBound)
    (h : ∀ (h' : Heap) (tk : Nat), SetM w h' s.heap.objs.size (ded ks) →
      (∀ b o, s.heap.get? b = some o → h'.get? b = some o) → Q (.ref s.heap.objs.size) { s with heap := h', toks := tk }) :
    wpAny (model prog w) A (call (.type "set") [.ref l]) Q E s := by
  obtain ⟨c, tl, hmro⟩ := PySem.F.called_set.mro
  have hmade := PySem.F.called_set.made
  have hsub := PySem.F.called_set.sub
  refine wpAny_call (codeAny_of_tree ?_)
  show wpAny _ _ (callAny (.type "set") _) _ _ _
  refine wpAny_pure ⟨Code.quiet_builtin _ (by decide +kernel), codeAny_builtin PySem.F.entry_type_call ?_⟩
  rw [Around.under_plain (weight_type_call_type "set" [.ref l] []) rfl]
  have h1 := PySem.F.called_set.notType
  have h2 := PySem.F.called_set.canCreate
  have hct := PySem.F.typeCall_set_1 (.ref l)
  repeat (any_goals (first | assumption | wp_step))
  refine codeAny_mono (code_set_led1 (.ref l) (E := E) (Q₁ := fun obj s₁ => obj = .ref s.heap.objs.size ∧ s₁ = { s with heap := s.heap.push (skObj w) }) ⟨rfl, rfl⟩) fun r s₁ hr => ?_
  cases r with
  | error e => exact hr
  | ok fl =>
    cases fl with
    | ret obj =>
      obtain ⟨rfl, rfl⟩ := hr
      have hS : (s.heap.push (skObj w)).get? s.heap.objs.size = some (skObj w) := Heap.get?_push_size _ rfl
      have hT : Shared.TypeIs { s with heap := s.heap.push (skObj w) } (.ref s.heap.objs.size) "set" := ⟨_, hS, rfl⟩
      have hli := PySem.F.called_set.init.lookup
      have hbi := PySem.F.called_set.init.bind (.ref s.heap.objs.size)
      repeat (any_goals (first | assumption | wp_step))
      refine codeAny_mono (codeAny_call_builtin (R := wants (fun r s₂ => r = .none ∧ ∃ h' tk, s₂ = { s with heap := h', toks := tk } ∧
          SetM w h' s.heap.objs.size (ded ks) ∧ (∀ b o, s.heap.get? b = some o → h'.get? b = some o)) E) PySem.F.called_set.init.plain PySem.F.entry_set_init (check_set_init_1 hT ?_)) fun r₂ s₂ hr₂ => ?_
      · obtain ⟨ol, hol, hcl, nl, hdl⟩ := hl
        obtain ⟨ocls, odict, odata, oslots⟩ := ol
        simp only at hcl hdl
        subst hcl; subst hdl
        have hol' : (s.heap.push (skObj w)).get? l = some { cls := .type "list", dict := odict, data := .seq items nl, slots := oslots } := Heap.get?_push_of_some _ hol
        have hsls := PySem.F.sub_list_set
        have hslf := PySem.F.sub_list_frozenset
        have hne : (Value.type "list" == Value.type "dict") = false := by decide
        have hl1 : (s.heap.push (skObj w)).IsList l items := ⟨_, hol', rfl, nl, rfl⟩
        unfold Builtin.«set.__init__» noKeywords Builtin.Frozenset.updateFrom
        generalize hPI : pyIter = PI
        wp_walk
        subst hPI
        refine wpAny_pyIter_list hl1 ?_
        refine wpAny_bind (wpAny_runValue ?_)
        have hlS : l < s.heap.objs.size := Heap.lt_size hol
        have hh3 : A.in1.in1.in1.handled = none := by simp [hh]
        have hneI : l ≠ (s.heap.push (skObj w)).objs.size := by
          rw [Heap.size_push]; exact Nat.ne_of_lt (Nat.lt_succ_of_lt hlS)
        have hSf : s.heap.objs.size ∉ [(s.heap.push (skObj w)).objs.size, l] := by
          rw [Heap.size_push]; simp only [List.mem_cons, List.mem_singleton, List.not_mem_nil, or_false, not_or]
          exact ⟨Nat.ne_of_lt (Nat.lt_succ_self _), Nat.ne_of_gt hlS⟩
        refine loopM ((Walks.list hh3 _ l hneI items).toS) s.heap.objs.size
          hSf ks hsz hb hi (items.size - 0) 0 _ (by omega) (Nat.zero_le _)
          ⟨⟨_, Heap.get?_push_size _ rfl, rfl, rfl⟩, (hl1.push _)⟩ ?hS0 ?hR
        case hS0 =>
          exact (setM_new w).at fun o e => Heap.get?_push_of_some _ e
        case hR =>
          intro s' hm hS'
          obtain ⟨h', g', d', tk', os'⟩ := s'
          have eg : g' = s.gens := hm.gens
          have ed : d' = s.drawn := hm.drawn
          have eo : os' = s.os := hm.os
          subst eg; subst ed; subst eo
          show wpAny _ _ _ _ _ _
          refine wpAny_pure ?_
          show wpAny _ _ (ret Value.none) _ _ _
          refine wpAny_pure ⟨rfl, h', tk', rfl, hS', fun b o e => ?_⟩
          have hb0 := Heap.lt_size e
          have hb1 : b ≠ s.heap.objs.size := Nat.ne_of_lt hb0
          have hb2 : b ≠ (s.heap.push (skObj w)).objs.size := by
            rw [Heap.size_push]; exact Nat.ne_of_lt (Nat.lt_succ_of_lt hb0)
          exact hm.heap b o (by simp only [List.mem_cons, List.mem_singleton, List.not_mem_nil, or_false, not_or]; exact ⟨hb1, hb2⟩) (Heap.get?_push_of_some _ (Heap.get?_push_of_some _ e))
      · cases r₂ with
        | error e => exact hr₂
        | ok fl₂ =>
          cases fl₂ with
          | ret r =>
            obtain ⟨rfl, h', tk, rfl, hS', hk'⟩ := hr₂
            repeat (any_goals (first | assumption | wp_step))
            exact h _ _ hS' hk'
          | _ => exact hr₂.elim
    | _ => exact hr.elim
end
end Z
end
section
/-! Z: len(set(..)), sorted(set(..)), list(range(..)). -/
namespace Z
open PySem PySem.Spec PyProof.Rows L2
def SetMO (w : World) (a : Addr) (L : List Key) : HO := .ext fun h => SetM w h a L
section
variable {X : Cx}
theorem setMO_new {w : World} {P : Program} {H : Hp} {h : Heap} {a : Addr} {L : List Key} (R : SetM w h a L) : ObjOk P w H h a (SetMO w a L) := by
  have ⟨o, _, _, _, ho, _⟩ := R
  exact ⟨R, ⟨o, ho⟩, fun h1 h2 p k => SetM.at p k⟩
theorem setMO_get {pins : List (Addr × Obj)} {σ : L2.St} {H : Hp} {s : Shared} {a : Addr} {L : List Key} (I : Inv X pins σ H s) (ha : H a = some (SetMO X.w a L)) : SetM X.w s.heap a L := (I.hok a _ ha).1
theorem cr_setM (hc : X.calm = true) : CallR X (.type "set") (fun xs H Q => ∃ (l : Addr) (ks : List Key), xs = [V.ref l] ∧ SqL X.K H l (ks.map kV) ∧ ks.length + 1 < scanBound ∧ ∀ D, H D = none → Q (.ref D) (upd H D (SetMO X.w D (ded ks)))) := by
  intro pins s σ H xs us Q I r h
  obtain ⟨l, ks, rfl, hl, hb, q⟩ := h
  rw [Vals.ref1 r]
  obtain ⟨its, rv, pl, hz⟩ := I.list hl
  have hn : H s.heap.objs.size = none := I.hok.fresh (Nat.le_refl _)
  have hsz : ks.length = its.toArray.size := by rw [List.size_toArray, ← rv.length, List.length_map]
  refine call_set_listM (I.ok.hd hc) pl.isList hsz (fun i v hv => ?_) (by rw [← hsz]; exact hb) fun h' tk R k => ?_
  · have hv' : its[i]? = some v := by simpa using hv
    have hi : i < ks.length := by
      have z := (List.getElem?_eq_some_iff.mp hv').1
      have := rv.length
      rw [List.length_map] at this
      omega
    obtain ⟨u, hu, ru⟩ := rv.get (i := i) (x := kV ks[i]) (by simp [hi])
    rw [hv'] at hu
    cases hu
    exact ⟨ks[i], List.getElem?_eq_getElem hi, kV_is (P := X.prog) (w := X.w) ru⟩
  · exact ⟨.ref s.heap.objs.size, upd H s.heap.objs.size (SetMO X.w s.heap.objs.size (ded ks)), I.laid (t' := tk) k (Nat.le_refl _) (setMO_new R), rfl, q _ hn⟩
theorem cr_lenM : CallR X (.builtin "len") (fun xs H Q => ∃ (a : Addr) (L : List Key), xs = [V.ref a] ∧ H a = some (SetMO X.w a L) ∧ Q (.int L.length) H) := by
  intro pins s σ H xs us Q I r h
  obtain ⟨a, L, rfl, ha, q⟩ := h
  rw [Vals.ref1 r]
  obtain ⟨o, es, ep, t, ho, hex, hd, _, pL, _, hb, hf, _⟩ := setMO_get I ha
  have hn : es.size = L.length := by rw [← pL.length_eq, List.length_map, Array.length_toList]
  have hb' : es.size < 4096 := hb
  exact call_len_set ho hex hd hf (by omega) ⟨.int L.length, H, I.tok _, ⟨_, by rw [hn]⟩, q⟩
theorem strsAre_at : ∀ (l : List Value), (∀ v ∈ l, ∃ x t, v = Value.str x t) → ∃ ys, StrsAre l ys ∧ ∀ f : Value → Str, (∀ x t, f (.str x t) = x) → ys = l.map f
  | [], _ => ⟨[], .nil, fun f _ => rfl⟩
  | v :: l, h => by
    obtain ⟨x, t, rfl⟩ := h v List.mem_cons_self
    obtain ⟨ys, r, e⟩ := strsAre_at l fun u hu => h u (List.mem_cons_of_mem _ hu)
    exact ⟨x :: ys, .cons x t r, fun f hf => by rw [List.map_cons, hf, ← e f hf]⟩
def unK : Key → Str
  | .inr x => x
  | .inl _ => Str.empty
theorem unK_inr : ∀ l : List Str, (l.map (Sum.inr : Str → Key)).map unK = l
  | [] => rfl
  | x :: l => by rw [List.map_cons, List.map_cons, unK_inr l]; rfl
theorem perm_inr {l m : List Str} (h : (l.map (Sum.inr : Str → Key)).Perm (m.map Sum.inr)) : l.Perm m := by
  have z := h.map unK
  rwa [unK_inr, unK_inr] at z
theorem nodup_of_mapped {α β : Type} {f : α → β} {l : List α} (h : (l.map f).Nodup) : l.Nodup := by
  refine (List.pairwise_map.mp h).imp fun hne e => hne (by rw [e])
def strOf : Value → Str
  | .str x _ => x
  | _ => Str.empty
theorem sortedH_keep {h h' : Heap} {vs : List Value} {out : Array Value} (hk : ∀ b o, h.get? b = some o → h'.get? b = some o) {b : Addr} {u : Obj} (e : h.get? b = some u) :
    (sortedHeap (h'.push (seqObj "list" vs.toArray 0)) h'.objs.size vs out).get? b = some u := by
  have q := hk b u e
  have hlt := Heap.lt_size q
  rw [sortedHeap_old (Nat.ne_of_lt hlt) (by rw [size_push']; exact Nat.lt_succ_of_lt hlt)]
  exact Heap.get?_push_of_some _ q
/-- sorted of a set of texts -/
theorem cr_sortedMS (hc : X.calm = true) : CallR X (.builtin "sorted") (fun xs H Q => ∃ (a : Addr) (ss : List Str), xs = [V.ref a] ∧ H a = some (SetMO X.w a (ss.map Sum.inr)) ∧ ss.length < 64 ∧
    ∀ ys p, ys.Perm ss → sortedS ys = true → H p = none → Q (.ref p) (upd H p (.lst (ys.map V.str)))) := by
  intro pins s σ H xs us Q I r h
  obtain ⟨a, ss, rfl, ha, h64, q⟩ := h
  rw [Vals.ref1 r]
  obtain ⟨o, es, ep, t, ho, hex, hd, g, pL, nL, hb, hf, hr, hl⟩ := setMO_get I ha
  refine Calls.call_function_entry kind_sorted plain_sorted entry_sorted (args_sorted1 _) ?_
  unfold Builtin.«sorted»
  refine wpAny_bind (m := checkCount "sorted" 1 1 _) (wpAny_pure ?_)
  refine wpAny_bind (collect_set (A := X.A.in1) (I.ok.hd hc) ⟨o, ho, hex.1, hd⟩ hf hb hr hl fun s1 vs k1 hz g1 o1 pm => ?_)
  have hvs : ∀ v ∈ vs, ∃ x t, v = Value.str x t := fun v hv => by
    obtain ⟨e, he, rfl⟩ := List.mem_map.mp (pm.mem_iff.mp hv)
    have k := is_kOf (g e he)
    obtain ⟨x, _, ex⟩ := List.mem_map.mp (pL.mem_iff.mp (List.mem_map.mpr ⟨e, he, rfl⟩))
    rw [← ex] at k
    obtain ⟨tk, ev⟩ := Value.isStrOf_shape (x := x) (v := e.2) k
    exact ⟨x, tk, ev⟩
  obtain ⟨zs, hS, hzs⟩ := strsAre_at vs hvs
  have pz : zs.Perm ss := by
    rw [hzs strOf fun _ _ => rfl]
    have p1 : (vs.map strOf).Perm ((es.toList.map (·.2)).map strOf) := pm.map strOf
    have e2 : ((es.toList.map (·.2)).map strOf).map (Sum.inr : Str → Key) = es.toList.map kOf := by
      rw [List.map_map, List.map_map]
      refine List.map_congr_left fun e he => ?_
      have k := is_kOf (g e he)
      obtain ⟨x, _, ex⟩ := List.mem_map.mp (pL.mem_iff.mp (List.mem_map.mpr ⟨e, he, rfl⟩))
      rw [← ex] at k ⊢
      obtain ⟨tk, ev⟩ := Value.isStrOf_shape (x := x) (v := e.2) k
      show Sum.inr (strOf e.2) = Sum.inr x
      rw [ev]; rfl
    have p3 : (((es.toList.map (·.2)).map strOf).map (Sum.inr : Str → Key)).Perm (ss.map Sum.inr) := by rw [e2]; exact pL
    exact p1.trans (perm_inr p3)
  have hvl : vs.length = ss.length := by rw [← pz.length_eq, hzs strOf fun _ _ => rfl, List.length_map]
  refine wpAny_bind (wpAny_newList ?_ (by rw [hvl, sizeLine_eq]; omega))
  have hoL : (s1.heap.push (seqObj "list" vs.toArray 0)).get? s1.heap.objs.size = some (seqObj "list" vs.toArray 0) := Heap.get?_push_size _ rfl
  refine wpAny_bind (wpAny_holding (wpAny_call_entry PyProof.Rows.slot_list_sort ⟨_, hoL, rfl⟩ PyProof.Rows.entry_list_sort
    (list_sort_treeK strKind_oneLt (s := { s1 with heap := s1.heap.push (seqObj "list" vs.toArray 0) }) hoL hS.keysOf (fun v₁ v₂ rest e => keyKind_strs (by rw [← e]; exact hS)) (by rw [hvl]; exact h64) fun st' hp hs => ⟨_, rfl, ?_⟩)
    (PyProof.Rows.args_list_sort _)))
  obtain ⟨ys, y1, y2, y3⟩ := sorted_out_str hS hp hs
  obtain ⟨c, hc'⟩ := PyProof.Rows.sortedHeap_at (vs := vs) (out := (arrOf st').map (·.2)) hoL
  have hlen : (ys.map V.str).length ≤ sizeLine := by
    rw [List.length_map, y2.length_eq, pz.length_eq]
    exact Nat.le_trans (Nat.le_of_lt h64) (by decide)
  have hn : H s1.heap.objs.size = none := I.hok.fresh hz
  generalize hs2 : ({ s1 with heap := sortedHeap (s1.heap.push (seqObj "list" vs.toArray 0)) s1.heap.objs.size vs ((arrOf st').map (·.2)) } : Shared) = s2
  have kk : ∀ b u, s.heap.get? b = some u → s2.heap.get? b = some u := fun b u e => by
    rw [← hs2]
    exact sortedH_keep k1 e
  have gg : s2.gens = s.gens := by rw [← hs2]; exact g1
  have J : Inv X pins σ (upd H s1.heap.objs.size (.lst (ys.map V.str))) { s with heap := s2.heap, gens := s2.gens, drawn := s2.drawn, toks := s2.toks } :=
    I.call (ch := []) (Un.laid kk hz hn) (I.hok.laid kk hz ⟨hlen, ((arrOf st').map (·.2)).toList, c, vals_of_strs y1, by rw [Array.toArray_toList, ← hs2]; exact hc'⟩) (by rw [gg]; exact I.bare) (fun _ z => nomatch z)
  have e : s2 = { s with heap := s2.heap, gens := s2.gens, drawn := s2.drawn, toks := s2.toks } := by
    subst hs2
    cases s1
    cases s
    cases o1
    rfl
  refine wpAny_pure ⟨_, rfl, .ref s1.heap.objs.size, _, ?_, rfl, q ys _ (y2.trans pz) y3 hn⟩
  rw [← e] at J
  first | exact J | (rw [← hs2] at J; exact J) | (subst hs2; exact J)
/-- sorted of a set of ints -/
theorem cr_sortedMI (hc : X.calm = true) : CallR X (.builtin "sorted") (fun xs H Q => ∃ (a : Addr) (ns : List Int), xs = [V.ref a] ∧ H a = some (SetMO X.w a (ns.map Sum.inl)) ∧ ns.length < 64 ∧
    ∀ (ys : List Int) (p : Addr), ys.Perm ns → ys.Pairwise (· ≤ ·) → H p = none → Q (.ref p) (upd H p (.lst (ys.map V.int)))) := by
  intro pins s σ H xs us Q I r h
  obtain ⟨a, ns, rfl, ha, h64, q⟩ := h
  rw [Vals.ref1 r]
  obtain ⟨o, es, ep, t, ho, hex, hd, g, pL, nL, hb, hf, hr, hl⟩ := setMO_get I ha
  have R : SetR X.w s.heap a (fun k => decide (k ∈ ns)) ns.length := by
    have ge : ∀ e ∈ es.toList, GoodE e ∧ kOf e = Sum.inl (keyOf e) := fun e he => by
      have k := is_kOf (g e he)
      obtain ⟨x, _, ex⟩ := List.mem_map.mp (pL.mem_iff.mp (List.mem_map.mpr ⟨e, he, rfl⟩))
      rw [← ex] at k
      obtain ⟨tk, ev⟩ := Value.isInt_shape (k := x) (v := e.2) k
      obtain ⟨k', h1, h2⟩ := g e he
      have e3 := kOf_is h1
      rw [← ex] at e3
      subst e3
      refine ⟨⟨x, tk, ev, h2⟩, ?_⟩
      rw [← ex]
      unfold keyOf
      rw [ev]
    have em : es.toList.map kOf = (es.toList.map keyOf).map (Sum.inl : Int → Key) := by
      rw [List.map_map]
      exact List.map_congr_left fun e he => (ge e he).2
    have hinj : ∀ a b : Int, (Sum.inl a : Key) = Sum.inl b → a = b := fun a b e => Sum.inl.inj e
    have nd : (es.toList.map keyOf).Nodup := by
      have z := pL.nodup_iff.mpr nL
      rw [em] at z
      exact nodup_of_mapped z
    refine ⟨o, es, ep, t, ho, hex, hd, fun e he => (ge e he).1, nd, fun k => ?_, hb, hf, ?_, hr, hl⟩
    · rw [decide_eq_true_eq]
      have z := pL.mem_iff (a := (Sum.inl k : Key))
      rw [em] at z
      have m1 : ∀ l : List Int, (Sum.inl k : Key) ∈ l.map Sum.inl ↔ k ∈ l := fun l => by
        rw [List.mem_map]
        exact ⟨fun ⟨x, hx, e⟩ => Sum.inl.inj e ▸ hx, fun h => ⟨k, h, rfl⟩⟩
      rw [m1, m1] at z
      exact z.symm
    · have z := pL.length_eq
      rw [List.length_map, List.length_map, Array.length_toList] at z
      exact z
  refine sorted_set R (I.ok.hd hc) h64 fun s' p out c ms k g o hp hg hi hs hm hln => ?_
  have hlen : (ms.map V.int).length ≤ sizeLine := by rw [List.length_map, hln, sizeLine_eq]; omega
  have hn : H p = none := I.hok.fresh hp
  have J : Inv X pins σ (upd H p (.lst (ms.map V.int))) { s with heap := s'.heap, gens := s'.gens, drawn := s'.drawn, toks := s'.toks } :=
    I.call (ch := []) (Un.laid k hp hn) (I.hok.laid k hp ⟨hlen, out.toList, c, vals_of_ints hi, hg⟩) (by rw [g]; exact I.bare) (fun _ z => nomatch z)
  have e : s' = { s with heap := s'.heap, gens := s'.gens, drawn := s'.drawn, toks := s'.toks } := by
    cases s'
    cases s
    cases o
    rfl
  have nns : ns.Nodup := nodup_of_mapped nL
  have pn : ms.Perm ns := (List.perm_ext_iff_of_nodup (hs.imp fun h => Int.ne_of_lt h) nns).mpr fun k => by
    rw [hm k, decide_eq_true_eq]
  rw [e]
  exact ⟨.ref p, _, J, rfl, q ms p pn (hs.imp fun h => Int.le_of_lt h) hn⟩
end
/-! ### values -/
theorem dedP_ded {xs : List PV} (h : xs.all keyB = true) : ded (xs.map keyP) = (dedP xs).map keyP := by
  revert h
  refine ded_ind (p := fun xs => xs.all keyB = true → ded (xs.map keyP) = (dedP xs).map keyP) (fun _ => rfl) (fun l y ih h => ?_) xs
  rw [List.all_append, Bool.and_eq_true] at h
  have hy : keyB y = true := by
    have z := h.2
    rw [List.all_cons, Bool.and_eq_true] at z
    exact z.1
  rw [List.map_append, List.map_singleton, ded_snoc, ih h.1, dedP_snoc]
  have e : (keyP y ∈ (dedP l).map keyP) ↔ hasP (dedP l) y = true := by
    rw [← memS_key h.1 hy]
    unfold memS
    rw [List.any_eq_true, List.mem_map]
    exact ⟨fun ⟨p, hp, q⟩ => ⟨p, hp, decide_eq_true q⟩, fun ⟨p, hp, q⟩ => ⟨p, hp, of_decide_eq_true q⟩⟩
  by_cases hh : hasP (dedP l) y = true
  · rw [if_pos hh, if_pos (e.2 hh)]
  · rw [if_neg hh, if_neg fun z => hh (e.1 z), List.map_append]; rfl
theorem keys_vs {K : PySem.W.Frag} {G : Hp} : ∀ {vs : List V} {xs : List PV}, Reps K G vs xs → xs.all keyB = true → vs = (xs.map keyP).map kV
  | _, _, .nil, _ => rfl
  | _, _, .cons r t, h => by
    rw [List.all_cons, Bool.and_eq_true] at h
    rw [key_rep r h.1, keys_vs t h.2]
    rfl
theorem strsP_keys : ∀ {xs : List PV} {ss : List (List Nat)}, strsP xs = some ss → xs = ss.map PV.str
  | [], ss, h => by cases h; rfl
  | x :: xs, ss, h => by
    cases x <;> first | cases h | skip
    rename_i z
    have h : (strsP xs).map (z :: ·) = some ss := h
    cases e : strsP xs with
    | none => rw [e] at h; cases h
    | some r =>
      rw [e] at h
      cases h
      rw [strsP_keys e]; rfl
theorem intsP_keys : ∀ {xs : List PV} {ns : List Int}, intsP xs = some ns → xs = ns.map PV.int
  | [], ss, h => by cases h; rfl
  | x :: xs, ss, h => by
    cases x <;> first | cases h | skip
    rename_i z
    have h : (intsP xs).map (z :: ·) = some ss := h
    cases e : intsP xs with
    | none => rw [e] at h; cases h
    | some r =>
      rw [e] at h
      cases h
      rw [intsP_keys e]; rfl
theorem strs_all (ss : List (List Nat)) : (ss.map PV.str).all keyB = true := by
  rw [List.all_map]
  exact List.all_eq_true.mpr fun x _ => rfl
theorem ints_all (ss : List Int) : (ss.map PV.int).all keyB = true := by
  rw [List.all_map]
  exact List.all_eq_true.mpr fun x _ => rfl
theorem strs_keyP (ss : List (List Nat)) : (ss.map PV.str).map keyP = (ss.map SX.S).map Sum.inr := by
  rw [List.map_map, List.map_map]; rfl
theorem ints_keyP (ss : List Int) : (ss.map PV.int).map keyP = ss.map Sum.inl := by
  rw [List.map_map]; rfl
theorem S_inj (a b : List Nat) (h : SX.S a = SX.S b) : a = b := by
  have z := congrArg (fun x : Str => x.cps.toList) h
  exact z
theorem sortI_eq {ys ns : List Int} (hp : ys.Perm ns) (hs : ys.Pairwise (· ≤ ·)) : ys = sortI ns := by
  have p3 : (sortI ns).Pairwise (· ≤ ·) := by
    have z := List.pairwise_mergeSort (le := fun a b : Int => decide (a ≤ b)) (fun a b c h1 h2 => by
      simp only [decide_eq_true_eq] at *
      omega) (fun a b => by
      simp only [Bool.or_eq_true, decide_eq_true_eq]
      omega) ns
    exact z.imp fun h => of_decide_eq_true h
  exact List.Perm.eq_of_pairwise (fun a b _ _ h1 h2 => Int.le_antisymm h1 h2) hs p3 (hp.trans (List.mergeSort_perm ns _).symm)
end Z
end
section
/-! Z: len(set(..)), sorted(set(..)), list(range(..)): what is said. -/
namespace Z
open PySem PySem.Spec PyProof.Rows L2
theorem reps_strs {K : PySem.W.Frag} {G : Hp} : ∀ {vs : List V} {ss : List (List Nat)}, Reps K G vs (ss.map PV.str) → ∀ x ∈ ss, Rep K G (.str (SX.S x)) (.str x)
  | _, [], _ => fun x hx => by cases hx
  | _, s :: ss, .cons r t => fun x hx => by
    rcases List.mem_cons.mp hx with e | hx
    · subst e
      have z := key_rep r rfl
      rw [z] at r
      exact r
    · exact reps_strs t x hx
theorem reps_ints {K : PySem.W.Frag} {G : Hp} : ∀ (ns : List Int), Reps K G (ns.map V.int) (ns.map PV.int)
  | [] => .nil
  | n :: ns => .cons (.int n) (reps_ints ns)
section
variable {B : Tb} {n : Nat} {N : List Str}
theorem eSet_ok {f : Str} {a : Ck} {sc : Scope} {e : Expr} (hc : eSet f a false sc e = true) : ∃ p p2 z q pos, e = .Call (.Name f p) [.Call (.Name "set" p2) [z] [] q] [] pos ∧ glB sc f = true ∧ glB sc "set" = true ∧ a.e true sc z = true ∧ notStar z = true := by
  unfold eSet at hc
  split at hc
  · simp only [Bool.and_eq_true] at hc
    obtain ⟨⟨⟨⟨⟨h1, h2⟩, h3⟩, h4⟩, h5⟩, h6⟩ := hc
    have h1' := sEq_ok h1
    subst h1'
    have h3' := sEq_ok h3
    subst h3'
    exact ⟨_, _, _, _, _, rfl, h2, h4, h5, h6⟩
  · cases hc
/-- set(z), and what is done with it -/
theorem set_ok {a : C} {sc : Scope} (Sa : Sd B n N a) {z : Expr} {p2 q : Pos} (h4 : glB sc "set" = true) (h5 : (ck B N a).e true sc z = true) (h6 : notStar z = true) {X : Cx} {W : WX} (E : EC B n N sc X W) {G0 H0 G H : Hp} {ρ : List Slot} {σ : L2.St}
    (I : SI X.K G0 H0 G H ρ σ) {f : PV → Res PV} {Q : VK} {R : V → Hp → Prop} (g : GX (XB B X) W G H σ (okE false X.K G H Q) ((ev (φn B n) B.κ a ρ).bind f))
    (k : ∀ xs G1 H1 vs D, Ext G H G1 H1 → Reps X.K G1 vs xs → H1 D = none → xs.all keyB = true → xs.length < 4000 → GX (XB B X) W G H σ (okE false X.K G H Q) (f (.lst xs)) → R (.ref D) (upd H1 D (SetMO X.w D (ded (xs.map keyP)))))
    (no : ∀ p, (∀ xs, p = .lst xs → xs.all keyB = true → ¬ xs.length < 4000) → ¬ GX (XB B X) W G H σ (okE false X.K G H Q) (f p)) :
    tcE X (.Call (.Name "set" p2) [z] [] q) σ H R := by
  obtain ⟨g1, g2, g3⟩ := glB_ok h4
  have hm := E.blt (x := "set") (by decide +kernel)
  refine pe_can' (pe_callTy (cr_setM E.calm) (E.gl g1) hm boot_set (pa_cons pe_can pa_nil (star_of h6)) g3 g2 (star_of h6)) ?_
  refine Sa.e true sc z h5 X W E G0 H0 G H ρ σ _ I (g.bind.imp fun p _ g1 G1 H1 v e1 r1 => ?_)
  have r1 : RepX X.K G1 H1 v p := r1
  by_cases hp : ∃ xs, p = .lst xs ∧ xs.all keyB = true ∧ xs.length < 4000
  · obtain ⟨xs, rfl, hk, hl⟩ := hp
    obtain ⟨b, vs, rfl, sh, rr⟩ := r1.lst e1.gh
    have ev := keys_vs rr hk
    refine ⟨b, xs.map keyP, rfl, .inl (.inl (by rw [← ev]; exact sh)), by rw [List.length_map]; show _ < 4096; omega, fun D hD => k xs G1 H1 vs D e1 rr hD hk hl g1⟩
  · exact absurd g1 (no p fun xs e hk hl => hp ⟨xs, e, hk, hl⟩)
theorem sd_lset {a : C} (Sa : Sd B n N a) : Sd B n N (.lset a) := by
  refine Sd.mk1 rfl (fun z => nomatch z) (SE.all ?_ fun _ _ _ h => h)
  intro sc e hc X W E G0 H0 G H ρ σ Q I g
  obtain ⟨p, p2, z, q, pos, rfl, h2, h4, h5, h6⟩ := eSet_ok (show eSet "len" (ck B N a) false sc e = true from hc)
  obtain ⟨g1, g2, g3⟩ := glB_ok h2
  have hm := E.blt (x := "len") (by decide +kernel)
  have g0 : GX (XB B X) W G H σ (okE false X.K G H Q) ((ev (φn B n) B.κ a ρ).bind lsetP) := g
  have core : tcE X (.Call (.Name "set" p2) [z] [] q) σ H fun v Hh => ∃ (a : Addr) (L : List Key), [v] = [V.ref a] ∧ Hh a = some (SetMO X.w a L) ∧ Q (.int L.length) Hh := by
    refine set_ok Sa h4 h5 h6 E I g0 (fun xs G1 H1 vs D e1 rr hD hk hl gx => ?_) fun p hp gx => ?_
    · refine ⟨D, _, rfl, upd_same, ?_⟩
      have gx : GX (XB B X) W G H σ (okE false X.K G H Q) (if setOk xs then .ok (.int (dedP xs).length) else .bad) := gx
      cases hs : setOk xs with
      | false => rw [hs] at gx; exact gx.elim
      | true =>
      rw [hs] at gx
      rw [dedP_ded hk, List.length_map]
      exact gx G1 _ _ (e1.trans (Ext.newOwn e1.gh hD)) (.int _)
    · cases p with
      | lst xs =>
        have gx : GX (XB B X) W G H σ (okE false X.K G H Q) (if setOk xs then .ok (.int (dedP xs).length) else .bad) := gx
        cases hs : setOk xs with
        | false => rw [hs] at gx; exact gx.elim
        | true =>
          unfold setOk at hs
          rw [Bool.and_eq_true] at hs
          exact hp xs rfl hs.1 (Nat.lt_of_lt_of_le (Nat.le_of_ble_eq_true hs.2) (by decide))
      | _ => exact gx.elim
  exact pe_can' (pe_callB cr_lenM (E.gl g1) hm boot_len (pa_cons pe_can pa_nil) g3 g2) core
theorem sset_str {ss : List (List Nat)} : ssetP (.lst (ss.map PV.str)) = if Nat.blt ss.length 4000 && Nat.blt (ded ss).length 64 then .ok (.lst ((sortN (ded ss)).map PV.str)) else .bad := by
  have e : strsP (ss.map PV.str) = some ss := by
    induction ss with
    | nil => rfl
    | cons s ss ih => show (strsP (ss.map PV.str)).map (s :: ·) = _; rw [ih]; rfl
  show (match strsP (ss.map PV.str) with | some ss => _ | none => _) = _
  rw [e]
theorem intsP_map : ∀ ns : List Int, intsP (ns.map PV.int) = some ns
  | [] => rfl
  | n :: ns => by show (intsP (ns.map PV.int)).map (n :: ·) = _; rw [intsP_map ns]; rfl
theorem sset_int {ns : List Int} : ssetP (.lst (ns.map PV.int)) = if Nat.blt ns.length 4000 && Nat.blt (ded ns).length 64 then .ok (.lst ((sortI (ded ns)).map PV.int)) else .bad := by
  cases ns with
  | nil =>
    have e1 : sortN (ded []) = [] := List.mergeSort_nil
    have e2 : sortI (ded []) = [] := List.mergeSort_nil
    have e3 : ssetP (.lst (([] : List Int).map PV.int)) = if Nat.blt ([] : List (List Nat)).length 4000 && Nat.blt (ded ([] : List (List Nat))).length 64 then .ok (.lst ((sortN (ded [])).map PV.str)) else .bad := rfl
    rw [e3, e1, e2]
    rfl
  | cons m ns =>
    have e : ssetP (.lst ((m :: ns).map PV.int)) = match intsP ((m :: ns).map PV.int) with
      | some ns => if Nat.blt ns.length 4000 && Nat.blt (ded ns).length 64 then Res.ok (PV.lst ((sortI (ded ns)).map PV.int)) else .bad
      | none => .bad := rfl
    rw [e, intsP_map]
theorem sd_sset {a : C} (Sa : Sd B n N a) : Sd B n N (.sset' a) := by
  refine Sd.mk1 rfl (fun z => nomatch z) (SE.all ?_ fun _ _ _ h => h)
  intro sc e hc X W E G0 H0 G H ρ σ Q I g
  obtain ⟨p, p2, z, q, pos, rfl, h2, h4, h5, h6⟩ := eSet_ok (show eSet "sorted" (ck B N a) false sc e = true from hc)
  obtain ⟨g1, g2, g3⟩ := glB_ok h2
  have hm := E.blt (x := "sorted") (by decide +kernel)
  have g0 : GX (XB B X) W G H σ (okE false X.K G H Q) ((ev (φn B n) B.κ a ρ).bind ssetP) := g
  have core : tcE X (.Call (.Name "set" p2) [z] [] q) σ H fun v Hh => callCan X (.builtin "sorted") [v] Hh Q := by
    refine set_ok Sa h4 h5 h6 E I g0 (fun xs G1 H1 vs D e1 rr hD hk hl gx => ?_) fun p hp gx => ?_
    · cases es : strsP xs with
      | some ss =>
        have ex := strsP_keys es
        subst ex
        rw [sset_str] at gx
        split at gx
        · rename_i hz
          rw [Bool.and_eq_true] at hz
          have hr := reps_strs rr
          have ek : ded ((ss.map PV.str).map keyP) = ((ded ss).map SX.S).map Sum.inr := by
            rw [strs_keyP, ded_map (fun a b h => Sum.inr.inj h), ded_map S_inj]
          refine callCan_of (cr_sortedMS E.calm) ⟨D, (ded ss).map SX.S, rfl, by rw [← ek]; exact upd_same, by rw [List.length_map]; exact Nat.le_of_ble_eq_true hz.2, fun ys c hp hs hn => ?_⟩
          have em : ((sortN (ded ss)).map SX.S).map V.str = (sortN (ded ss)).map (V.str ∘ SX.S) := List.map_map
          rw [sortN_eq hp hs, em]
          have e2 : Ext G1 H1 G1 (upd H1 D (SetMO X.w D (ded ((ss.map PV.str).map keyP)))) := Ext.newOwn e1.gh hD
          refine gx _ _ _ ((e1.trans e2).trans (Ext.new e2.gh hn)) (repLst (strs_reps fun x hx => hr x ?_) (e2.gh.free hn))
          exact (ded_mem ss x).1 ((List.mergeSort_perm (ded ss) _).mem_iff.mp hx)
        · exact gx.elim
      | none =>
        cases ei : intsP xs with
        | some ns =>
          have ex := intsP_keys ei
          subst ex
          rw [sset_int] at gx
          split at gx
          · rename_i hz
            rw [Bool.and_eq_true] at hz
            have ek : ded ((ns.map PV.int).map keyP) = (ded ns).map Sum.inl := by
              rw [ints_keyP, ded_map (fun a b h => Sum.inl.inj h)]
            refine callCan_of (cr_sortedMI E.calm) ⟨D, ded ns, rfl, by rw [← ek]; exact upd_same, Nat.le_of_ble_eq_true hz.2, fun ys c hp hs hn => ?_⟩
            rw [sortI_eq hp hs]
            have e2 : Ext G1 H1 G1 (upd H1 D (SetMO X.w D (ded ((ns.map PV.int).map keyP)))) := Ext.newOwn e1.gh hD
            exact gx _ _ _ ((e1.trans e2).trans (Ext.new e2.gh hn)) (repLst (reps_ints _) (e2.gh.free hn))
          · exact gx.elim
        | none =>
          have e : ssetP (.lst xs) = .bad := by
            show (match strsP xs with | some ss => _ | none => _) = _
            rw [es]
            show (match intsP xs with | some ss => _ | none => _) = _
            rw [ei]
          rw [e] at gx
          exact gx.elim
    · cases p with
      | lst xs =>
        cases es : strsP xs with
        | some ss =>
          have ex := strsP_keys es
          subst ex
          rw [sset_str] at gx
          split at gx
          · rename_i hz
            rw [Bool.and_eq_true] at hz
            exact hp _ rfl (strs_all ss) (by rw [List.length_map]; exact Nat.le_of_ble_eq_true hz.1)
          · exact gx.elim
        | none =>
          cases ei : intsP xs with
          | some ns =>
            have ex := intsP_keys ei
            subst ex
            rw [sset_int] at gx
            split at gx
            · rename_i hz
              rw [Bool.and_eq_true] at hz
              exact hp _ rfl (ints_all ns) (by rw [List.length_map]; exact Nat.le_of_ble_eq_true hz.1)
            · exact gx.elim
          | none =>
            have e : ssetP (.lst xs) = .bad := by
              show (match strsP xs with | some ss => _ | none => _) = _
              rw [es]
              show (match intsP xs with | some ss => _ | none => _) = _
              rw [ei]
            rw [e] at gx
            exact gx.elim
      | _ => exact gx.elim
  exact pe_can' (pe_callB (callCan_ok X _) (E.gl g1) hm boot_sorted (pa_cons pe_can pa_nil) g3 g2) core
/-! ### list(range(..)) -/
theorem nostars1 {z : Expr} {X : Cx} {pos : Pos} (h : notStar z = true) : (backTo pos (starEach [z] X.env)).any (·.1) = false := by
  first | (rw [star_of h]; rfl) | rw [star_of h]
theorem rgV_up (K : PySem.W.Frag) (G : Hp) (a b : Int) : Reps K G (rgV a b) (upL a (b - a).toNat) := by
  unfold rgV
  generalize (b - a).toNat = n
  induction n generalizing a with
  | zero => exact .nil
  | succ n ih =>
    rw [List.range_succ_eq_map, List.map_cons, List.map_map]
    refine .cons ?_ ?_
    · show Rep K G (.int (a + ((0 : Nat) : Int))) (.int a)
      have e : a + ((0 : Nat) : Int) = a := Int.add_zero a
      rw [e]; exact .int _
    · have z := ih (a + 1)
      have e : (List.range n).map ((fun i : Nat => V.int (a + (i : Int))) ∘ Nat.succ) = (List.range n).map fun i : Nat => V.int (a + 1 + (i : Int)) := by
        refine List.map_congr_left fun i _ => ?_
        show V.int (a + ((i + 1 : Nat) : Int)) = _
        congr 1
        omega
      rw [e]; exact z
theorem lr_fin {X : Cx} {W : WX} {G H G1 H1 : Hp} {σ : L2.St} {Q : VK} {a b : Int} (e1 : Ext G H G1 H1) (k : GX (XB B X) W G H σ (okE false X.K G H Q) (rngP (.int a) (.int b))) :
    RgOk a b ∧ ∀ q, H1 q = none → Q (.ref q) (upd H1 q (.lst (rgV a b))) := by
  have k : GX (XB B X) W G H σ (okE false X.K G H Q) (if smallI a && smallI b && fits (b - a).toNat then .ok (.lst (upL a (b - a).toNat)) else .bad) := k
  split at k
  · rename_i hs
    simp only [Bool.and_eq_true] at hs
    have q1 := smallI_ok hs.1.1
    have q2 := smallI_ok hs.1.2
    refine ⟨⟨q1.1, q1.2, q2.1, q2.2, Nat.le_of_ble_eq_true hs.2⟩, fun c hc => ?_⟩
    exact k _ _ _ (e1.trans (Ext.new e1.gh hc)) (repLst (rgV_up _ _ _ _) (e1.gh.free hc))
  · exact k.elim
theorem sd_lr1 {a : C} (Sa : Sd B n N a) : Sd B n N (.lr1 a) := by
  refine Sd.mk1 rfl (fun z => nomatch z) (SE.all ?_ fun _ _ _ h => h)
  intro sc e hc X W E G0 H0 G H ρ σ Q I g
  obtain ⟨p, p2, z, q, pos, rfl, h2, h4, h5, h6⟩ : ∃ p p2 z q pos, e = .Call (.Name "list" p) [.Call (.Name "range" p2) [z] [] q] [] pos ∧ glB sc "list" = true ∧ glB sc "range" = true ∧ (ck B N a).e false sc z = true ∧ notStar z = true := by
    have hc : eLr1 (ck B N a) false sc e = true := hc
    unfold eLr1 at hc
    split at hc
    · simp only [Bool.and_eq_true] at hc
      obtain ⟨⟨⟨⟨⟨h1, h2⟩, h3⟩, h4⟩, h5⟩, h6⟩ := hc
      have h1' := sEq_ok h1
      subst h1'
      have h3' := sEq_ok h3
      subst h3'
      exact ⟨_, _, _, _, _, rfl, h2, h4, h5, h6⟩
    · cases hc
  obtain ⟨g1, g2, g3⟩ := glB_ok h2
  obtain ⟨k1, k2, k3⟩ := glB_ok h4
  have hm := E.blt (x := "list") (by decide +kernel)
  have g0 : GX (XB B X) W G H σ (okE false X.K G H Q) ((ev (φn B n) B.κ a ρ).bind fun x => rngP (.int 0) x) := g
  refine pe_can' (pe_listRg E.calm (E.gl g1) hm (prg_1 (E.gl k1) (E.blt rng_mem) pe_can (star_of h6))) ?_
  refine Sa.e false sc z h5 X W E G0 H0 G H ρ σ _ I (g0.bind.imp fun p _ k G1 H1 v e1 r1 => ?_)
  have r1 : Rep X.K G1 v p := r1
  cases p with
  | int b1 =>
    cases r1
    exact ⟨b1, rfl, lr_fin e1 k⟩
  | _ => exact k.elim
theorem sd_lr2 {a b : C} (Sa : Sd B n N a) (Sb : Sd B n N b) : Sd B n N (.lr2 a b) := by
  refine Sd.mk1 rfl (fun z => nomatch z) (SE.all ?_ fun _ _ _ h => h)
  intro sc e hc X W E G0 H0 G H ρ σ Q I g
  obtain ⟨p, p2, z, u, q, pos, rfl, h2, h4, h5, h6, h7, h8⟩ : ∃ p p2 z u q pos, e = .Call (.Name "list" p) [.Call (.Name "range" p2) [z, u] [] q] [] pos ∧ glB sc "list" = true ∧ glB sc "range" = true ∧ (ck B N a).e false sc z = true ∧ notStar z = true ∧ (ck B N b).e false sc u = true ∧ notStar u = true := by
    have hc : eLr2 (ck B N a) (ck B N b) false sc e = true := hc
    unfold eLr2 at hc
    split at hc
    · simp only [Bool.and_eq_true] at hc
      obtain ⟨⟨⟨⟨⟨⟨⟨h1, h2⟩, h3⟩, h4⟩, h5⟩, h6⟩, h7⟩, h8⟩ := hc
      have h1' := sEq_ok h1
      subst h1'
      have h3' := sEq_ok h3
      subst h3'
      exact ⟨_, _, _, _, _, _, rfl, h2, h4, h5, h6, h7, h8⟩
    · cases hc
  obtain ⟨g1, g2, g3⟩ := glB_ok h2
  obtain ⟨k1, k2, k3⟩ := glB_ok h4
  have hm := E.blt (x := "list") (by decide +kernel)
  have g0 : GX (XB B X) W G H σ (okE false X.K G H Q) ((ev (φn B n) B.κ a ρ).bind fun x => (ev (φn B n) B.κ b ρ).bind fun y => rngP x y) := g
  refine pe_can' (pe_listRg E.calm (E.gl g1) hm (prg_2 (E.gl k1) (E.blt rng_mem) pe_can pe_can (star_of h6) (star_of h8) (nostars1 h8))) ?_
  refine two_ok Sa Sb E h5 h7 I g0 fun p q G' H' v w ex I' r1 r2 k => ?_
  unfold rngP at k
  split at k
  · rename_i a1 b1
    cases r1
    cases r2
    exact ⟨a1, b1, rfl, rfl, lr_fin ex k⟩
  · exact k.elim
end
end Z
end
section
/-! Z: zip of three tuples. -/
namespace Z
open PySem PySem.Spec PyProof.Rows L2
def Itz3 (K : PySem.W.Frag) (a b c : Addr) : It :=
  ⟨fun i H => ∃ (xs ys zs : List V) (x y z : V), SqT K H a xs ∧ SqT K H b ys ∧ SqT K H c zs ∧ xs[i]? = some x ∧ ys[i]? = some y ∧ zs[i]? = some z,
    fun i H v H' => ∃ T x y z, v = .ref T ∧ H T = none ∧ H' = upd H T (.tup [x, y, z]) ∧ (∀ xs, SqT K H a xs → xs[i]? = some x) ∧ (∀ ys, SqT K H b ys → ys[i]? = some y) ∧ ∀ zs, SqT K H c zs → zs[i]? = some z,
    fun i H => ∃ xs ys zs : List V, SqT K H a xs ∧ SqT K H b ys ∧ SqT K H c zs ∧ (xs.length ≤ i ∨ ys.length ≤ i ∨ zs.length ≤ i)⟩
/-- an iterator at its end -/
theorem draws_end {prog : Program} {w : World} {A : Around} (hh : A.handled = none) (it t : Addr) (items : Array Value) (i : Nat) (hi : items.size ≤ i) :
    Draws prog w A it [it, t] i (fun _ _ => True) (fun j h => j = i ∧ h.IsTupleIter it t i ∧ h.IsTuple t items) where
  live := fun _ _ st => let ⟨o, ho, _⟩ := st.2.1; ⟨o, ho⟩
  frame := fun _ _ _ st hk => ⟨st.1, st.2.1.at fun o e => hk it (by simp) o e, st.2.2.at fun o e => hk t (by simp) o e⟩
  item := fun j s Q E hj st hQ => absurd st.1 (Nat.ne_of_lt hj)
  done := fun s Q E st hE => wpAny_nextOf_tuple_end hh st.2.1 st.2.2 (Array.getElem?_eq_none hi) hE
theorem draws_at {prog : Program} {w : World} {A : Around} (hh : A.handled = none) (it t : Addr) (hne : t ≠ it) (items : Array Value) (i : Nat) {h : Heap} (h1 : h.IsTupleIter it t i) (h2 : h.IsTuple t items) :
    ∃ (n : Nat) (P : Nat → Value → Prop) (St : Nat → Heap → Prop), Draws prog w A it [it, t] n P St ∧ St i h ∧ (items.size ≤ i → n = i) ∧ (i < items.size → i < n) := by
  by_cases hi : items.size ≤ i
  · exact ⟨i, _, _, draws_end hh it t items i hi, ⟨rfl, h1, h2⟩, fun _ => rfl, fun z => by omega⟩
  · exact ⟨items.size, _, _, Draws.tuple hh it t hne items, ⟨h1, h2⟩, fun z => absurd z hi, fun z => z⟩
theorem turn_zip3 {P : Program} {w : World} {K : PySem.W.Frag} {elts : List Expr} {kk : Nat} {tpos : Pos} {a b c : Addr} (N : Nat) (ha : a < N) (hb : b < N) (hc : c < N) :
    Turn P w K (.Tuple elts kk tpos) (Itz3 K a b c) [N + 5, N + 3, N + 4, N, N + 1, N + 2] (N + 5) (fun i h => IsZip h (N + 5) (N + 3) (N + 4) .none ∧ IsTupOf3 h (N + 3) (.ref N) (.ref (N + 1)) (.ref (N + 2)) ∧ (∃ a1 a2 a3, IsTupOf3 h (N + 4) a1 a2 a3) ∧ h.IsTupleIter N a i ∧ h.IsTupleIter (N + 1) b i ∧ h.IsTupleIter (N + 2) c i) where
  mem := by simp
  obj := fun i h st d hd => by
    obtain ⟨hz, hTI, ⟨x, y, z, hTO⟩, ⟨o1, e1, _, d1⟩, ⟨o2, e2, _, d2⟩, ⟨o3, e3, _, d3⟩⟩ := st
    have e' : d = N + 5 ∨ d = N + 3 ∨ d = N + 4 ∨ d = N ∨ d = N + 1 ∨ d = N + 2 := by simpa using hd
    rcases e' with q | q | q | q | q | q
    · rw [q]; exact ⟨_, hz, fun v q => nomatch q⟩
    · rw [q]; exact ⟨_, hTI, fun v q => nomatch q⟩
    · rw [q]; exact ⟨_, hTO, fun v q => nomatch q⟩
    · rw [q]; exact ⟨o1, e1, fun v q => by rw [d1] at q; cases q⟩
    · rw [q]; exact ⟨o2, e2, fun v q => by rw [d2] at q; cases q⟩
    · rw [q]; exact ⟨o3, e3, fun v q => by rw [d3] at q; cases q⟩
  keep := fun i h h' st k => by
    obtain ⟨hz, hTI, ⟨x, y, z, hTO⟩, h1, h2, h3⟩ := st
    exact ⟨k _ (by simp) _ hz, k _ (by simp) _ hTI, ⟨x, y, z, k _ (by simp) _ hTO⟩, h1.at fun o q => k _ (by simp) o q, h2.at fun o q => k _ (by simp) o q, h3.at fun o q => k _ (by simp) o q⟩
  item := by
    intro X hP hw hK hcalm i pins s σ H E I hf st hg
    subst hP hw hK
    obtain ⟨hz, hTI, hTO, h1, h2, h3⟩ := st
    obtain ⟨xs, ys, zs, x, y, z, hqx, hqy, hqz, hx, hy, hz'⟩ := hg
    obtain ⟨its, rv, p, _⟩ := I.tuple hqx
    obtain ⟨its2, rv2, p2, _⟩ := I.tuple hqy
    obtain ⟨its3, rv3, p3, _⟩ := I.tuple hqz
    obtain ⟨u, hu, ru⟩ := rv.get hx
    obtain ⟨u2, hu2, ru2⟩ := rv2.get hy
    obtain ⟨u3, hu3, ru3⟩ := rv3.get hz'
    have hh : X.A.in1.handled = none := I.ok.hd hcalm
    have S := zip_sep3 (N := N) (fp1 := [a]) (fp2 := [b]) (fp3 := [c]) (fun d hd => by rw [List.mem_singleton.mp hd]; exact ha) (fun d hd => by rw [List.mem_singleton.mp hd]; exact hb) (fun d hd => by rw [List.mem_singleton.mp hd]; exact hc)
    have W := WalksT.zipD3 (prog := X.prog) (w := X.w) (A := X.A) S (Draws.tuple hh N a (Nat.ne_of_lt ha) its.toArray) (Draws.tuple hh (N + 1) b (Nat.ne_of_lt (Nat.lt_succ_of_lt hb)) its2.toArray) (Draws.tuple hh (N + 2) c (Nat.ne_of_lt (Nat.lt_of_lt_of_le hc (Nat.le_add_right N 2))) its3.toArray)
    have l1 := (List.getElem?_eq_some_iff.mp hu).1
    have l2 := (List.getElem?_eq_some_iff.mp hu2).1
    have l3 := (List.getElem?_eq_some_iff.mp hu3).1
    have hnz : N + 5 < s.heap.objs.size := Heap.lt_size hz
    refine W.item i s _ _ (by rw [List.size_toArray, List.size_toArray, List.size_toArray]; omega) ⟨hz, hTI, hTO, ⟨h1, p⟩, ⟨h2, p2⟩, ⟨h3, p3⟩⟩ fun T vals h' tk hv hT hTup mid keep => ?_
    refine ⟨_, rfl, W.go elts kk tpos i T { s with heap := h', toks := tk } _ _ mid fun h'' st' keep' => ?_⟩
    have hTa := W.apart i T h' mid
    obtain ⟨x1, x2, x3, e1, e2, e3, rfl⟩ := hv
    have e1' : its[i]? = some x1 := by simpa using e1
    have e2' : its2[i]? = some x2 := by simpa using e2
    have e3' : its3[i]? = some x3 := by simpa using e3
    rw [hu] at e1'; cases e1'
    rw [hu2] at e2'; cases e2'
    rw [hu3] at e3'; cases e3'
    obtain ⟨o, ho, hoc, hn, hod⟩ := hTup
    have hT2 : h''.get? T = some o := keep' T o hTa ho
    have new : ObjOk X.prog X.w (upd H T (.tup [x, y, z])) h'' T (.tup [x, y, z]) :=
      ⟨by show 3 ≤ sizeLine; decide, [u, u2, u3], .cons ru (.cons ru2 (.cons ru3 .nil)), ⟨o, hT2, hoc, hn, hod⟩⟩
    have I1 : Inv X pins σ (upd H T (.tup [x, y, z])) { s with heap := h'', toks := tk } :=
      I.turnedNew (t' := tk) (ch := [N + 5, N + 3, N + 4, N, N + 1, N + 2]) (fun d o hd q => by
        have hd' : d ∉ [N + 5, N + 4, N, N + 1, N + 2] := fun z => hd (by
          have z : d = N + 5 ∨ d = N + 4 ∨ d = N ∨ d = N + 1 ∨ d = N + 2 := by simpa using z
          rcases z with z | z | z | z | z <;> rw [z] <;> simp)
        exact keep' d o hd' (keep d o hd' q)) hf hT new
    obtain ⟨g1, g2, g3, g4, g5, g6⟩ := st'
    refine ⟨.ref T, _, I1, rfl, ⟨T, x, y, z, rfl, I.hok.fresh hT, rfl, fun l hl => by rw [I.tuple_inj hl hqx]; exact hx, fun l hl => by rw [I.tuple_inj hl hqy]; exact hy, fun l hl => by rw [I.tuple_inj hl hqz]; exact hz'⟩, ⟨g1, g2, g3, g4.1, g5.1, g6.1⟩, fun d hd => ?_⟩
    have hlt : d < s.heap.objs.size := by
      have e' : d = N + 5 ∨ d = N + 3 ∨ d = N + 4 ∨ d = N ∨ d = N + 1 ∨ d = N + 2 := by simpa using hd
      have key : ∀ j : Nat, j ≤ 5 → N + j < s.heap.objs.size := fun j hj => Nat.lt_of_le_of_lt (Nat.add_le_add_left hj N) hnz
      rcases e' with q | q | q | q | q | q
      · rw [q]; exact key 5 (by decide)
      · rw [q]; exact key 3 (by decide)
      · rw [q]; exact key 4 (by decide)
      · rw [q]; exact key 0 (by decide)
      · rw [q]; exact key 1 (by decide)
      · rw [q]; exact key 2 (by decide)
    rw [upd_ne (Nat.ne_of_lt (Nat.lt_of_lt_of_le hlt hT))]
    exact (hf d hd).1
  done := by
    intro X hP hw hK hcalm i pins s σ H E I hf st hg
    subst hP hw hK
    obtain ⟨hz, hTI, hTO, h1, h2, h3⟩ := st
    obtain ⟨xs, ys, zs, hqx, hqy, hqz, hend⟩ := hg
    obtain ⟨its, rv, p, _⟩ := I.tuple hqx
    obtain ⟨its2, rv2, p2, _⟩ := I.tuple hqy
    obtain ⟨its3, rv3, p3, _⟩ := I.tuple hqz
    have l1 := rv.length
    have l2 := rv2.length
    have l3 := rv3.length
    have hh : X.A.in1.handled = none := I.ok.hd hcalm
    have S := zip_sep3 (N := N) (fp1 := [a]) (fp2 := [b]) (fp3 := [c]) (fun d hd => by rw [List.mem_singleton.mp hd]; exact ha) (fun d hd => by rw [List.mem_singleton.mp hd]; exact hb) (fun d hd => by rw [List.mem_singleton.mp hd]; exact hc)
    obtain ⟨n1, P1, S1, D1, t1, k1, m1⟩ := draws_at (prog := X.prog) (w := X.w) hh N a (Nat.ne_of_lt ha) its.toArray i h1 p
    obtain ⟨n2, P2, S2, D2, t2, k2, m2⟩ := draws_at (prog := X.prog) (w := X.w) hh (N + 1) b (Nat.ne_of_lt (Nat.lt_succ_of_lt hb)) its2.toArray i h2 p2
    obtain ⟨n3, P3, S3, D3, t3, k3, m3⟩ := draws_at (prog := X.prog) (w := X.w) hh (N + 2) c (Nat.ne_of_lt (Nat.lt_of_lt_of_le hc (Nat.le_add_right N 2))) its3.toArray i h3 p3
    have W := WalksT.zipD3 (prog := X.prog) (w := X.w) (A := X.A) S D1 D2 D3
    rw [List.size_toArray] at k1 k2 k3 m1 m2 m3
    have en : min (min n1 n2) n3 = i := by
      rw [l1, l2, l3] at hend
      omega
    rw [en] at W
    refine W.done s _ _ ⟨hz, hTI, hTO, t1, t2, t3⟩ fun h' tk keep => ⟨rfl, I.turnedL (t' := tk) (ch := [N + 5, N + 3, N + 4, N, N + 1, N + 2]) (fun d o hd q => keep d o (fun z => hd (by
      have z : d = N + 5 ∨ d = N + 4 ∨ d = N ∨ d = N + 1 ∨ d = N + 2 := by simpa using z
      rcases z with z | z | z | z | z <;> rw [z] <;> simp)) q) hf⟩
  self := fun A i s Q E st h => wpAny_pyIter_zip st.1 h
def iZip3 (K : PySem.W.Frag) (ta : TA) : TI := fun σ H R => ta σ H fun vs H1 => ∃ a b c xs ys zs, vs = [.ref a, .ref b, .ref c] ∧ SqT K H1 a xs ∧ SqT K H1 b ys ∧ SqT K H1 c zs ∧ R (Itz3 K a b c) H1
theorem pi_zip3 {X : Cx} {e : Expr} {es : List Expr} {ta : TA} {p pos tpos : Pos} {elts : List Expr} {kk : Nat} (hg : Gl X "zip") (hm : X.mg "zip" = none) (ha : PA X (e :: es) ta)
    (hs : starEach (e :: es) X.env = (false, eval e X.env) :: starEach es X.env := by rfl) (hpl : (backTo pos (starEach es X.env)).any (·.1) = false := by rfl) :
    PI X (.Tuple elts kk tpos) (.Call (.Name "zip" p) (e :: es) [] pos) (iZip3 X.K ta) := by
  refine ⟨fun pins s σ H R I h => ?_⟩
  refine Call_ (ld_blt I hg hm PyProof.Rows.boot_zip (PyProof.Rows.callWith_type1 (thn (ha.run pos pins s σ H _ I h) fun us s1 ⟨vs, H1, I1, r1, q1⟩ => ?_) hs hpl))
  obtain ⟨a, b, c, xs, ys, zs, ex, hqx, hqy, hqz, q⟩ := q1
  subst ex
  cases r1 with
  | cons r rr =>
    cases rr with
    | cons r' rr =>
      cases rr with
      | cons r'' rr =>
        cases rr
        cases r
        cases r'
        cases r''
        obtain ⟨its, rv, p1, _⟩ := I1.tuple hqx
        obtain ⟨its2, rv2, p2, _⟩ := I1.tuple hqy
        obtain ⟨its3, rv3, p3, _⟩ := I1.tuple hqz
        obtain ⟨o1, ho1, _⟩ := id p1
        obtain ⟨o2, ho2, _⟩ := id p2
        obtain ⟨o3, ho3, _⟩ := id p3
        refine zip_begins3 (begins_tuple a its.toArray) (begins_tuple b its2.toArray) (begins_tuple c its3.toArray) p1 p2 p3 fun h' hz hTI hTO h1 h2 h3 hsz hk => wpAny_pyIter_zip hz ?_
        have I2 : Inv X pins σ H1 { s1 with heap := h' } := I1.kept (t' := s1.toks) hk
        refine ⟨s1.heap.objs.size + 5, _, _, _, H1, rfl, I2, turn_zip3 s1.heap.objs.size (Heap.lt_size ho1) (Heap.lt_size ho2) (Heap.lt_size ho3), ⟨hz, hTI, ⟨_, _, _, hTO⟩, ⟨_, h1, rfl, rfl⟩, ⟨_, h2, rfl, rfl⟩, ⟨_, h3, rfl, rfl⟩⟩, fun d hd => ?_, q⟩
        have hle : s1.heap.objs.size ≤ d := by
          have e' : d = s1.heap.objs.size + 5 ∨ d = s1.heap.objs.size + 3 ∨ d = s1.heap.objs.size + 4 ∨ d = s1.heap.objs.size ∨ d = s1.heap.objs.size + 1 ∨ d = s1.heap.objs.size + 2 := by simpa using hd
          rcases e' with z | z | z | z | z | z <;> rw [z] <;> first | exact Nat.le_refl _ | exact Nat.le_add_right _ _
        exact I1.fpOk hle (I1.hok.fresh hle)
theorem zip3_get : ∀ (xs ys zs : List PV) (i : Nat) (p : PV), (zip3L xs ys zs)[i]? = some p → ∃ x y z, xs[i]? = some x ∧ ys[i]? = some y ∧ zs[i]? = some z ∧ p = .tup [x, y, z]
  | x :: xs, y :: ys, z :: zs, 0, p, h => by
    cases h
    exact ⟨x, y, z, rfl, rfl, rfl, rfl⟩
  | x :: xs, y :: ys, z :: zs, i + 1, p, h => by
    have h : (zip3L xs ys zs)[i]? = some p := h
    obtain ⟨a, b, c, e1, e2, e3, e4⟩ := zip3_get xs ys zs i p h
    exact ⟨a, b, c, e1, e2, e3, e4⟩
  | [], ys, zs, i, p, h => by cases h
  | x :: xs, [], zs, i, p, h => by cases h
  | x :: xs, y :: ys, [], i, p, h => by cases h
theorem zip3_len : ∀ (xs ys zs : List PV), (zip3L xs ys zs).length = min (min xs.length ys.length) zs.length
  | [], ys, zs => by simp [zip3L]
  | x :: xs, [], zs => by simp [zip3L]
  | x :: xs, y :: ys, [] => by simp [zip3L]
  | x :: xs, y :: ys, z :: zs => by
    show (zip3L xs ys zs).length + 1 = _
    rw [zip3_len xs ys zs]
    simp only [List.length_cons]
    omega
theorem itz3_ok {Cn : Hp → Hp → Prop} {K : PySem.W.Frag} {a b c : Addr} {vs ws us : List V} {xs ys zs : List PV} (h : ∀ G H, Cn G H → Same G H → (SqT K H a vs ∧ Reps K G vs xs) ∧ (SqT K H b ws ∧ Reps K G ws ys) ∧ SqT K H c us ∧ Reps K G us zs) : ItP Cn K (Itz3 K a b c) (zip3L xs ys zs) := fun i G H cc s => by
  obtain ⟨⟨hs, r⟩, ⟨hs2, r2⟩, hs3, r3⟩ := h G H cc s
  refine ⟨fun p hp => ?_, fun hl => ⟨vs, ws, us, hs, hs2, hs3, by rw [r.length, r2.length, r3.length]; rw [zip3_len] at hl; omega⟩⟩
  obtain ⟨x, y, z, hx, hy, hz, rfl⟩ := zip3_get xs ys zs i p hp
  obtain ⟨v, hv, rv⟩ := r.get hx
  obtain ⟨v2, hv2, rv2⟩ := r2.get hy
  obtain ⟨v3, hv3, rv3⟩ := r3.get hz
  refine ⟨⟨vs, ws, us, v, v2, v3, hs, hs2, hs3, hv, hv2, hv3⟩, fun u H' hy => ?_⟩
  obtain ⟨T, z, z2, z3, rfl, hT, rfl, hf, hf2, hf3⟩ := hy
  have e := hf vs hs
  rw [hv] at e; cases e
  have e := hf2 ws hs2
  rw [hv2] at e; cases e
  have e := hf3 us hs3
  rw [hv3] at e; cases e
  refine ⟨upd G T (.tup [v, v2, v3]), Ext.new s hT, ?_⟩
  have gT : G T = none := s.free hT
  exact .tup (.inl (.inl upd_same)) (.cons (rv.mono (same_upd gT)) (.cons (rv2.mono (same_upd gT)) (.cons (rv3.mono (same_upd gT)) .nil)))
section
variable {B : Tb} {n : Nat} {N : List Str}
theorem sd_zip3 {a b c : C} (Sa : Sd B n N a) (Sb : Sd B n N b) (Sc : Sd B n N c) : Sd B n N (.zip3 a b c) := by
  refine Sd.mkIter rfl fun rd sc tg e hc X W E G0 H0 G H ρ σ R I g => ?_
  obtain ⟨f, p, x, y, z, pos, rfl, hk⟩ : ∃ f p x y z pos, e = .Call (.Name f p) [x, y, z] [] pos ∧ (isTupE tg && sEq "zip" f && glB sc f && (ck B N a).e rd sc x && notStar x && (ck B N b).e rd sc y && notStar y && (ck B N c).e rd sc z && notStar z) = true := by
    have hc : iZip3' (ck B N a) (ck B N b) (ck B N c) rd (isTupE tg) sc e = true := hc
    unfold iZip3' at hc
    split at hc
    · exact ⟨_, _, _, _, _, _, rfl, hc⟩
    · cases hc
  simp only [Bool.and_eq_true] at hk
  obtain ⟨⟨⟨⟨⟨⟨⟨⟨h0, h1⟩, h2⟩, h3⟩, h4⟩, h5⟩, h6⟩, h7⟩, h8⟩ := hk
  have h1' := sEq_ok h1
  subst h1'
  obtain ⟨es, kk, tp, rfl⟩ := isTup_of h0
  obtain ⟨g1, g2, g3⟩ := glB_ok h2
  have g0 : GX (XB B X) W G H σ (okI rd X.K G H R) ((ev (φn B n) B.κ a ρ).bind fun x => (ev (φn B n) B.κ b ρ).bind fun y => (ev (φn B n) B.κ c ρ).bind fun z => zip3P x y z) := g
  refine tcI_imp (R := fun J H' => ∃ G' xs ys zs, Ext G H G' H' ∧ okI rd X.K G H R (.lst (zip3L xs ys zs)) ∧ ∃ a vs b ws c us, J = Itz3 X.K a b c ∧ SqT X.K H' a vs ∧ vs.length = xs.length ∧ ∀ G2 H2, cnd rd G' H' G2 H2 → Same G2 H2 → (SqT X.K H2 a vs ∧ Reps X.K G2 vs xs) ∧ (SqT X.K H2 b ws ∧ Reps X.K G2 ws ys) ∧ SqT X.K H2 c us ∧ Reps X.K G2 us zs)
    (pi_can' (pi_zip3 (E.gl g1) (E.blt (by decide +kernel)) (pa_cons pe_can (pa_cons pe_can (pa_cons pe_can pa_nil (star_of h8)) (star_of h6)) (star_of h4)) (star_of h4) (nostars (by simp [h6, h8]))) ?_) fun J H' pins s J' hR => ?_
  · refine Sa.e rd sc x h3 X W E G0 H0 G H ρ σ _ I (g0.bind.imp fun p1 _ k1 G1 H1 v1 e1 r1 => ?_)
    have I1 := I.grow e1
    refine Sb.e rd sc y h5 X W E G0 H0 G1 H1 ρ σ _ I1 ((GX.move (ok' := fun q => GX (XB B X) W G H σ (okI rd X.K G H R) ((ev (φn B n) B.κ c ρ).bind fun z => zip3P p1 q z)) (GX.bind k1) e1 fun q h => h).imp fun p2 _ k2 G2 H2 v2 e2 r2 => ?_)
    have I2 := I1.grow e2
    refine Sc.e rd sc z h7 X W E G0 H0 G2 H2 ρ σ _ I2 ((GX.move (ok' := fun q => GX (XB B X) W G H σ (okI rd X.K G H R) (zip3P p1 p2 q)) (GX.bind k2) (e1.trans e2) fun q h => h).imp fun p3 _ k3 G3 H3 v3 e3 r3 => ?_)
    have I3 := I2.grow e3
    have r1 := r1.mono (e2.trans e3)
    have r2 := r2.mono e3
    unfold zip3P at k3
    split at k3
    · obtain ⟨a1, vs, rfl, ha, hl, hw⟩ := cndT I3.sub r1
      obtain ⟨b1, ws, rfl, hb, hl2, hw2⟩ := cndT I3.sub r2
      obtain ⟨c1, us, rfl, hc', hl3, hw3⟩ := cndT I3.sub r3
      exact ⟨a1, b1, c1, vs, ws, us, rfl, ha, hb, hc', G3, _, _, _, (e1.trans e2).trans e3, k3, a1, vs, b1, ws, c1, us, rfl, ha, hl, fun G2 H2 c s => ⟨hw G2 H2 c s, hw2 G2 H2 c s, hw3 G2 H2 c s⟩⟩
    · exact k3.elim
  · obtain ⟨G', xs, ys, zs, ex, ⟨qs, ez, k⟩, a1, vs, b1, ws, c1, us, rfl, ha, hl, hw⟩ := hR
    cases ez
    obtain ⟨_, _, _, hz⟩ := J'.tuple ha
    exact k G' H' _ ex (itz3_ok hw) (by rw [zip3_len]; omega)
theorem sd_unp {a : C} (Sa : Sd B n N a) : Sd B n N (.unp a) := by
  refine Sd.mk1 rfl (fun z => nomatch z) (SE.all ?_ fun _ _ _ h => h)
  intro sc e hc X W E G0 H0 G H ρ σ Q I g
  have g0 : GX (XB B X) W G H σ (okE false X.K G H Q) ((ev (φn B n) B.κ a ρ).bind unpP) := g
  refine Sa.e false sc e hc X W E G0 H0 G H ρ σ _ I (g0.bind.imp fun p _ k G1 H1 v e1 r1 => ?_)
  have r1 : Rep X.K G1 v p := r1
  cases p with
  | ptp xs =>
    cases r1 with
    | ptp q d r => exact k G1 H1 _ e1 (.tup (.inl (.inr ⟨_, q⟩)) r)
  | _ => exact k G1 H1 _ e1 r1
end
end Z
end
section
namespace Z
open PySem PySem.Spec PyProof.Rows L2
section
variable {B : Tb} {n : Nat} {N : List Str}
theorem sd_enu {a : C} (Sa : Sd B n N a) : Sd B n N (.enu a) := by
  refine Sd.mkIter rfl fun rd sc tg e hc X W E G0 H0 G H ρ σ R I g => ?_
  obtain ⟨f, p, x, pos, rfl, hk⟩ : ∃ f p x pos, e = .Call (.Name f p) [x] [] pos ∧ (isTupE tg && sEq "enumerate" f && glB sc f && (ck B N a).e rd sc x && notStar x) = true := by
    have hc : iEnu (ck B N a) rd (isTupE tg) sc e = true := hc
    unfold iEnu at hc
    split at hc
    · exact ⟨_, _, _, _, rfl, hc⟩
    · cases hc
  simp only [Bool.and_eq_true] at hk
  obtain ⟨⟨⟨⟨h0, h1⟩, h2⟩, h3⟩, h4⟩ := hk
  have h1' := sEq_ok h1
  subst h1'
  obtain ⟨es, kk, tp, rfl⟩ := isTup_of h0
  obtain ⟨g1, g2, g3⟩ := glB_ok h2
  have g0 : GX (XB B X) W G H σ (okI rd X.K G H R) ((ev (φn B n) B.κ a ρ).bind enuP) := g
  refine tcI_imp (R := fun J H' => ∃ G' xs, Ext G H G' H' ∧ okI rd X.K G H R (.lst (enuL 0 xs)) ∧ ((∃ a vs, J = Ite X.K a ∧ H' a = some (.lst vs) ∧ vs.length = xs.length ∧ ∀ G2 H2, cnd rd G' H' G2 H2 → Same G2 H2 → SqL X.K H2 a vs ∧ Reps X.K G2 vs xs) ∨
      (∃ a vs, J = IteT X.K a ∧ SqT X.K H' a vs ∧ vs.length = xs.length ∧ ∀ G2 H2, cnd rd G' H' G2 H2 → Same G2 H2 → SqT X.K H2 a vs ∧ Reps X.K G2 vs xs)))
    (pi_can' (pi_enumA (E.gl g1) (E.blt (by decide +kernel)) (pa_cons pe_can pa_nil (star_of h4)) (star_of h4)) ?_) fun J H' pins s J' hR => ?_
  · refine Sa.e rd sc x h3 X W E G0 H0 G H ρ σ _ I (g0.bind.imp fun p _ k G1 H1 v e1 r1 => ?_)
    cases p with
    | lst xs =>
      obtain ⟨b, vs, rfl, hb, hl, hw⟩ := cndL (I.grow e1).sub r1
      exact ⟨b, vs, rfl, .inl ⟨.inl (.inl hb), G1, xs, e1, k, .inl ⟨b, vs, rfl, hb, hl, hw⟩⟩⟩
    | tup xs =>
      obtain ⟨b, vs, rfl, hb, hl, hw⟩ := cndT (I.grow e1).sub r1
      exact ⟨b, vs, rfl, .inr ⟨hb, G1, xs, e1, k, .inr ⟨b, vs, rfl, hb, hl, hw⟩⟩⟩
    | _ => exact k.elim
  · obtain ⟨G', xs, ex, ⟨zs, ez, k⟩, hR⟩ := hR
    cases ez
    rcases hR with ⟨b, vs, rfl, hb, hl, hw⟩ | ⟨b, vs, rfl, hb, hl, hw⟩
    · obtain ⟨hz, _⟩ := J'.lstM hb
      exact k G' H' _ ex (ite_ok hw) (by rw [enuL_len]; omega)
    · obtain ⟨_, _, _, hz⟩ := J'.tuple hb
      exact k G' H' _ ex (itet_ok hw) (by rw [enuL_len]; omega)
theorem tl_applied {prog : Program} {w : World} {A : Around} {E : Value → Shared → Prop} {s : Shared} {sl : Addr} {vl vu vs : Value} {m : Nat} {Q : Int × Int × Nat → Shared → Prop} (hs : s.heap.IsSliceOf sl vl vu vs) (pl : IsPart vl none) (pu : IsPart vu (some 0)) (ps : IsPart vs (some (-1)))
    (h : Q ((m : Int) - 1, -1, m - 1) s) : wpAny (model prog w) A (Builtin.Slice.sliceApplied (.ref sl) (pure (m : Int))) Q E s := by
  obtain ⟨os, hos, hcs, hds⟩ := id hs
  unfold Builtin.Slice.sliceApplied Builtin.Slice.sliceFields
  refine wpAny_bind (wpAny_bind (wpAny_field hos hds (x := vl) rfl (wpAny_bind (wpAny_field hos hds (x := vu) rfl (wpAny_bind (wpAny_field hos hds (x := vs) rfl (wpAny_pure ?_)))))))
  refine wpAny_bind (HT.slicePart_ ps ?_)
  show wpAny _ _ (if ((-1 : Int) == 0) = true then _ else _) _ _ s
  rw [if_neg (by decide)]
  refine wpAny_bind (HT.slicePart_ pl (wpAny_bind (HT.slicePart_ pu (wpAny_bind (wpAny_pure ?_)))))
  have e1 : Builtin.Slice.sliceAdjust none (some 0) (-1) (m : Int) = ((m : Int) - 1, min 0 ((m : Int) - 1)) := rfl
  show wpAny _ _ (match Builtin.Slice.sliceAdjust none (some 0) (-1) (m : Int) with | (lo, hi) => pure (lo, (-1 : Int), Builtin.Slice.slicePlaces lo hi (-1))) _ _ s
  rw [e1]
  show wpAny _ _ (pure ((m : Int) - 1, (-1 : Int), Builtin.Slice.slicePlaces ((m : Int) - 1) (min 0 ((m : Int) - 1)) (-1))) _ _ s
  have e2 : Builtin.Slice.slicePlaces ((m : Int) - 1) (min 0 ((m : Int) - 1)) (-1) = m - 1 := by
    unfold Builtin.Slice.slicePlaces
    rw [if_neg (by decide)]
    show (if (m : Int) - 1 > min 0 ((m : Int) - 1) then ((m : Int) - 1 - min 0 ((m : Int) - 1) - 1) / 1 + 1 else 0).toNat = m - 1
    rw [Int.ediv_one]
    split <;> omega
  rw [e2]
  exact wpAny_pure h
theorem tl_pick (xs : Array Value) : ((List.range (xs.size - 1)).filterMap fun (k : Nat) => xs[((xs.size : Int) - 1 + (k : Int) * (-1)).toNat]?).toArray = xs.toList.tail.reverse.toArray := by
  congr 1
  obtain ⟨l⟩ := xs
  cases l with
  | nil => rfl
  | cons a l =>
    show ((List.range l.length).filterMap fun (k : Nat) => (a :: l).toArray[((((a :: l).length : Nat) : Int) - 1 + (k : Int) * (-1)).toNat]?) = l.reverse
    have e : ∀ k : Nat, k ∈ List.range l.length → (a :: l).toArray[((((a :: l).length : Nat) : Int) - 1 + (k : Int) * (-1)).toNat]? = l.reverse[k]? := fun k hk => by
      have hk' : k < l.length := List.mem_range.mp hk
      have i1 : ((((a :: l).length : Nat) : Int) - 1 + (k : Int) * (-1)).toNat = (l.length - 1 - k) + 1 := by
        rw [List.length_cons]; omega
      rw [i1, List.getElem?_reverse hk', List.getElem?_toArray, List.getElem?_cons_succ]
    have fc : ∀ (ks : List Nat) (f g : Nat → Option Value), (∀ k ∈ ks, f k = g k) → ks.filterMap f = ks.filterMap g := fun ks f g h => by
      induction ks with
      | nil => rfl
      | cons k ks ih =>
        rw [List.filterMap_cons, List.filterMap_cons, h k (List.mem_cons_self ..), ih fun j hj => h j (List.mem_cons_of_mem _ hj)]
    rw [fc _ _ _ e]
    have z : ∀ (ys : List Value), (List.range ys.length).filterMap (fun k => ys[k]?) = ys := fun ys => by
      induction ys with
      | nil => rfl
      | cons y ys ih =>
        rw [List.length_cons, List.range_succ_eq_map, List.filterMap_cons, List.filterMap_map]
        exact congrArg (y :: ·) ih
    have := z l.reverse
    rwa [List.length_reverse] at this
theorem getItem_tl {prog : Program} {w : World} {A : Around} {E : Value → Shared → Prop} {s : Shared} {t sl : Addr} {items : Array Value} {vl vu vs : Value} {Q : Value → Shared → Prop} (ht : IsTup s.heap t items) (hs : s.heap.IsSliceOf sl vl vu vs) (pl : IsPart vl none) (pu : IsPart vu (some 0)) (ps : IsPart vs (some (-1)))
    (h : Q (.ref s.heap.objs.size) { s with heap := s.heap.push { cls := .type "tuple", data := .seq items.toList.tail.reverse.toArray } }) (hsz : items.size ≤ sizeLine) : wpAny (model prog w) A (getItem (.ref t) (.ref sl)) Q E s := by
  have htake : sizeOk (.seq items.toList.tail.reverse.toArray) := by
    show items.toList.tail.reverse.toArray.size ≤ sizeLine
    rw [List.size_toArray, List.length_reverse, List.length_tail, Array.length_toList]
    omega
  obtain ⟨os, hos, hcs, hds⟩ := id hs
  have hTs : s.TypeIs (.ref sl) "slice" := ⟨os, hos, hcs⟩
  unfold getItem
  try with_reducible refine wpAny_holding ?_
  first | refine wpAny_bind (wpAny_pure ?_) | skip
  refine wpAny_bind (wpAny_sequenceKey ht.typeIs (by decide) ?_)
  refine wpAny_bind (wpAny_callSpecial?_slot (name := Str.ofString "__getitem__") ht.typeIs PyProof.Rows.slot_tuple_getitem
    (wpAny_call_entry PyProof.Rows.slot_tuple_getitem ht.typeIs entry_tuple_getitem ?_ (args_tuple_getitem _ _)))
  show wpAny _ _ (Builtin.Tuple.tupleItemsOf (.ref t) >>= _) _ _ s
  refine wpAny_bind (tupleItemsOf_ ht ?_)
  refine wpAny_bind (wpAny_typeOf hTs ?_)
  rw [if_pos (by decide)]
  refine wpAny_bind (tl_applied hs pl pu ps ?_)
  have hno : ¬ (((items.size : Int) - 1 == 0 && (-1 : Int) == 1 && (items.size - 1) == items.size) = true) := by
    intro q
    rw [Bool.and_eq_true, Bool.and_eq_true] at q
    exact absurd (eq_of_beq q.1.2) (by decide)
  show wpAny _ _ (if ((items.size : Int) - 1 == 0 && (-1 : Int) == 1 && (items.size - 1) == items.size) = true then _ else _) _ _ s
  rw [if_neg hno, tl_pick]
  first
    | exact wpAny_bind (m := Builtin.Tuple.tupleExact _) (wpAny_newObj_type (wpAny_pure ⟨_, rfl, wpAny_pure h⟩) htake)
    | exact wpAny_bind (m := Builtin.Tuple.tupleExact _) (wpAny_newObj_type (wpAny_bind (wpAny_pure (wpAny_pure ⟨_, rfl, wpAny_pure h⟩))) htake)
    | exact wpAny_bind (wpAny_bind (m := Builtin.Tuple.tupleExact _) (wpAny_newObj_type (wpAny_pure (wpAny_pure ⟨_, rfl, wpAny_pure h⟩)) htake))
    | exact wpAny_bind (wpAny_bind (m := Builtin.Tuple.tupleExact _) (wpAny_newObj_type (wpAny_pure ⟨_, rfl, wpAny_pure h⟩) htake))
def tTlT (K : PySem.W.Frag) (te : TE) : TE := fun σ H Q => te σ H fun x H1 => ∃ a xs, x = .ref a ∧ SqT K H1 a xs ∧ ∀ p, H1 p = none → Q (.ref p) (upd H1 p (.tup xs.tail.reverse))
theorem vals_tail {vs : List V} {us : List Value} (r : Vals vs us) : Vals vs.tail us.tail := by
  cases r with
  | nil => exact .nil
  | cons _ t => exact t
theorem pe_tlT {X : Cx} {e : Expr} {te : TE} {k0 k : Nat} {p0 p1 p2 p3 pos : Pos} (he : PE X e te) : PE X (.Subscript e (.Slice none (some (.Constant (.int 0) k0 p0)) (some (.UnaryOp .USub (.Constant (.int 1) k p1) p2)) p3) pos) (tTlT X.K te) := by
  refine ⟨fun pins s σ H Q I h => ?_⟩
  refine Subscript_ (thn (he.run pins s σ H _ I h) fun v s1 ⟨x, H1, I1, r1, q1⟩ => ?_)
  obtain ⟨a, xs, ex, hx, q⟩ := q1
  subst ex
  cases r1
  have hst : PO X (some (.UnaryOp .USub (.Constant (.int 1) k p1) p2)) (tPart (tUn (rU fun i => .int (-i)) (tC (.int 1)))) := po_some (pe_un un_neg pe_int)
  have hz0 : PO X (some (.Constant (.int 0) k0 p0)) (tPart (tC (.int 0))) := po_some pe_int
  refine wpAny_Slice (thn (po_none.run pins s1 σ H1 (fun o H2 => o = none ∧ H2 = H1) I1 ⟨rfl, rfl⟩) fun vl s2 ⟨l, H2, I2, pl, el, e2⟩ => ?_)
  subst el e2
  refine thn (hz0.run pins s2 σ H2 (fun o H3 => o = some 0 ∧ H3 = H2) I2 ⟨0, rfl, rfl, rfl⟩) fun vu s3 ⟨u, H3, I3, pu, eu, e3⟩ => ?_
  subst eu e3
  refine thn (hst.run pins s3 σ H3 (fun o H4 => o = some (-1) ∧ H4 = H3) I3 ⟨1, rfl, -1, rfl, rfl, rfl⟩) fun vs s4 ⟨o, H4, I4, ps, eo, e4⟩ => ?_
  subst eo e4
  have I5 : Inv X pins σ H4 { s4 with heap := s4.heap.push { cls := .type "slice", data := .fields #[vl, vu, vs] } } := I4.kept (t' := s4.toks) fun b ob q => Heap.get?_push_of_some _ q
  obtain ⟨its, r, ht, hz⟩ := I5.tuple hx
  have hlen := r.length
  show wpAny (model X.prog X.w) X.A (subscriptTail e (.Slice none (some (.Constant (.int 0) k0 p0)) (some (.UnaryOp .USub (.Constant (.int 1) k p1) p2)) p3) (.ref a) (.ref s4.heap.objs.size)) (EP X pins σ Q) X.xe { s4 with heap := s4.heap.push { cls := .type "slice", data := .fields #[vl, vu, vs] } }
  refine tail_any (ops := [.ref a, .ref s4.heap.objs.size]) ht.typeIs (PyProof.Rows.slot_tuple_getitem.lookup) ?_ (by with_unfolding_all rfl)
  refine getItem_tl ht (Heap.IsSliceOf.new _ vl vu vs) pl pu ps ?_ (by rw [List.size_toArray]; omega)
  refine ⟨.ref _, _, I5.laid (t' := s4.toks) (o := .tup xs.tail.reverse) (fun b ob q => Heap.get?_push_of_some _ q) (Nat.le_refl _) ?_, rfl, q _ (I5.hok.fresh (Nat.le_refl _))⟩
  refine ⟨by rw [List.length_reverse, List.length_tail]; omega, its.tail.reverse, (vals_tail r).reverse, ?_⟩
  exact IsTup.new _ _
theorem sd_tl {a : C} (Sa : Sd B n N a) : Sd B n N (.tl a) := by
  refine Sd.mk1 rfl (fun z => nomatch z) (SE.all ?_ (fun rd sc e h => h))
  intro sc e hc X W E G0 H0 G H ρ σ Q I g
  obtain ⟨x, k0, p0, k1, p1, p2, p3, pos, rfl, hx⟩ : ∃ x k0 p0 k1 p1 p2 p3 pos, e = .Subscript x (.Slice none (some (.Constant (.int 0) k0 p0)) (some (.UnaryOp .USub (.Constant (.int 1) k1 p1) p2)) p3) pos ∧ (ck B N a).e true sc x = true := by
    have hc : eTl (ck B N a) false sc e = true := hc
    unfold eTl at hc
    split at hc
    · exact ⟨_, _, _, _, _, _, _, _, rfl, hc⟩
    · cases hc
  have g0 : GX (XB B X) W G H σ (okE false X.K G H Q) ((ev (φn B n) B.κ a ρ).bind tlP) := g
  refine pe_can' (pe_tlT pe_can) (Sa.e true sc x hx X W E G0 H0 G H ρ σ _ I (g0.bind.imp fun p _ k G1 H1 v e1 r1 => ?_))
  have I1 := I.grow e1
  cases p with
  | tup ps =>
    cases RepX.rep r1 (fun _ z => nomatch z) (fun _ _ z => nomatch z) with
    | tup ht rs =>
        rename_i vs
        refine ⟨_, vs, rfl, Same.tup I1.sub ht, fun p hp => ?_⟩
        have ex := Ext.new (o := .tup vs.tail.reverse) I1.sub hp
        have rt : Reps X.K G1 vs.tail ps.tail := by
          have z := Reps.drop 1 rs
          rwa [List.drop_one, List.drop_one] at z
        exact k _ _ _ (e1.trans ex) (.tup (.inl (.inl (upd_same ..))) (rt.reverse.mono ex.gs))
  | _ => exact k.elim
theorem rv_applied {prog : Program} {w : World} {A : Around} {E : Value → Shared → Prop} {s : Shared} {sl : Addr} {vl vu vs : Value} {m : Nat} {Q : Int × Int × Nat → Shared → Prop} (hs : s.heap.IsSliceOf sl vl vu vs) (pl : IsPart vl none) (pu : IsPart vu none) (ps : IsPart vs (some (-1)))
    (h : Q ((m : Int) - 1, -1, m) s) : wpAny (model prog w) A (Builtin.Slice.sliceApplied (.ref sl) (pure (m : Int))) Q E s := by
  obtain ⟨os, hos, hcs, hds⟩ := id hs
  unfold Builtin.Slice.sliceApplied Builtin.Slice.sliceFields
  refine wpAny_bind (wpAny_bind (wpAny_field hos hds (x := vl) rfl (wpAny_bind (wpAny_field hos hds (x := vu) rfl (wpAny_bind (wpAny_field hos hds (x := vs) rfl (wpAny_pure ?_)))))))
  refine wpAny_bind (HT.slicePart_ ps ?_)
  show wpAny _ _ (if ((-1 : Int) == 0) = true then _ else _) _ _ s
  rw [if_neg (by decide)]
  refine wpAny_bind (HT.slicePart_ pl (wpAny_bind (HT.slicePart_ pu (wpAny_bind (wpAny_pure ?_)))))
  have e1 : Builtin.Slice.sliceAdjust none none (-1) (m : Int) = ((m : Int) - 1, -1) := rfl
  show wpAny _ _ (match Builtin.Slice.sliceAdjust none none (-1) (m : Int) with | (lo, hi) => pure (lo, (-1 : Int), Builtin.Slice.slicePlaces lo hi (-1))) _ _ s
  rw [e1]
  show wpAny _ _ (pure ((m : Int) - 1, (-1 : Int), Builtin.Slice.slicePlaces ((m : Int) - 1) (-1) (-1))) _ _ s
  have e2 : Builtin.Slice.slicePlaces ((m : Int) - 1) (-1) (-1) = m := by
    unfold Builtin.Slice.slicePlaces
    rw [if_neg (by decide)]
    show (if (m : Int) - 1 > (-1) then ((m : Int) - 1 - (-1) - 1) / 1 + 1 else 0).toNat = m
    rw [Int.ediv_one]
    split <;> omega
  rw [e2]
  exact wpAny_pure h
theorem rv_pick (xs : Array Value) : ((List.range xs.size).filterMap fun (k : Nat) => xs[((xs.size : Int) - 1 + (k : Int) * (-1)).toNat]?).toArray = xs.toList.reverse.toArray := by
  congr 1
  obtain ⟨l⟩ := xs
  show ((List.range l.length).filterMap fun (k : Nat) => l.toArray[((l.length : Int) - 1 + (k : Int) * (-1)).toNat]?) = l.reverse
  have e : ∀ k : Nat, k ∈ List.range l.length → l.toArray[((l.length : Int) - 1 + (k : Int) * (-1)).toNat]? = l.reverse[k]? := fun k hk => by
    have hk' : k < l.length := List.mem_range.mp hk
    have i1 : ((l.length : Int) - 1 + (k : Int) * (-1)).toNat = l.length - 1 - k := by omega
    rw [i1, List.getElem?_reverse hk', List.getElem?_toArray]
  have fc : ∀ (ks : List Nat) (f g : Nat → Option Value), (∀ k ∈ ks, f k = g k) → ks.filterMap f = ks.filterMap g := fun ks f g h => by
    induction ks with
    | nil => rfl
    | cons k ks ih =>
      rw [List.filterMap_cons, List.filterMap_cons, h k (List.mem_cons_self ..), ih fun j hj => h j (List.mem_cons_of_mem _ hj)]
  rw [fc _ _ _ e]
  have z : ∀ (ys : List Value), (List.range ys.length).filterMap (fun k => ys[k]?) = ys := fun ys => by
    induction ys with
    | nil => rfl
    | cons y ys ih =>
      rw [List.length_cons, List.range_succ_eq_map, List.filterMap_cons, List.filterMap_map]
      exact congrArg (y :: ·) ih
  have := z l.reverse
  rwa [List.length_reverse] at this
theorem getItem_rv {prog : Program} {w : World} {A : Around} {E : Value → Shared → Prop} {s : Shared} {t sl : Addr} {items : Array Value} {vl vu vs : Value} {Q : Value → Shared → Prop} (ht : IsTup s.heap t items) (hs : s.heap.IsSliceOf sl vl vu vs) (pl : IsPart vl none) (pu : IsPart vu none) (ps : IsPart vs (some (-1)))
    (h : Q (.ref s.heap.objs.size) { s with heap := s.heap.push { cls := .type "tuple", data := .seq items.toList.reverse.toArray } }) (hsz : items.size ≤ sizeLine) : wpAny (model prog w) A (getItem (.ref t) (.ref sl)) Q E s := by
  have htake : sizeOk (.seq items.toList.reverse.toArray) := by
    show items.toList.reverse.toArray.size ≤ sizeLine
    rw [List.size_toArray, List.length_reverse, Array.length_toList]
    omega
  obtain ⟨os, hos, hcs, hds⟩ := id hs
  have hTs : s.TypeIs (.ref sl) "slice" := ⟨os, hos, hcs⟩
  unfold getItem
  try with_reducible refine wpAny_holding ?_
  first | refine wpAny_bind (wpAny_pure ?_) | skip
  refine wpAny_bind (wpAny_sequenceKey ht.typeIs (by decide) ?_)
  refine wpAny_bind (wpAny_callSpecial?_slot (name := Str.ofString "__getitem__") ht.typeIs PyProof.Rows.slot_tuple_getitem
    (wpAny_call_entry PyProof.Rows.slot_tuple_getitem ht.typeIs entry_tuple_getitem ?_ (args_tuple_getitem _ _)))
  show wpAny _ _ (Builtin.Tuple.tupleItemsOf (.ref t) >>= _) _ _ s
  refine wpAny_bind (tupleItemsOf_ ht ?_)
  refine wpAny_bind (wpAny_typeOf hTs ?_)
  rw [if_pos (by decide)]
  refine wpAny_bind (rv_applied hs pl pu ps ?_)
  have hno : ¬ (((items.size : Int) - 1 == 0 && (-1 : Int) == 1 && items.size == items.size) = true) := by
    intro q
    rw [Bool.and_eq_true, Bool.and_eq_true] at q
    exact absurd (eq_of_beq q.1.2) (by decide)
  show wpAny _ _ (if ((items.size : Int) - 1 == 0 && (-1 : Int) == 1 && items.size == items.size) = true then _ else _) _ _ s
  rw [if_neg hno, rv_pick]
  first
    | exact wpAny_bind (m := Builtin.Tuple.tupleExact _) (wpAny_newObj_type (wpAny_pure ⟨_, rfl, wpAny_pure h⟩) htake)
    | exact wpAny_bind (m := Builtin.Tuple.tupleExact _) (wpAny_newObj_type (wpAny_bind (wpAny_pure (wpAny_pure ⟨_, rfl, wpAny_pure h⟩))) htake)
    | exact wpAny_bind (wpAny_bind (m := Builtin.Tuple.tupleExact _) (wpAny_newObj_type (wpAny_pure (wpAny_pure ⟨_, rfl, wpAny_pure h⟩)) htake))
    | exact wpAny_bind (wpAny_bind (m := Builtin.Tuple.tupleExact _) (wpAny_newObj_type (wpAny_pure ⟨_, rfl, wpAny_pure h⟩) htake))
def tRev2 (K : PySem.W.Frag) (te : TE) : TE := fun σ H Q => te σ H fun x H1 => ∃ a xs, x = .ref a ∧ ((SqL K H1 a xs ∧ ∀ p, H1 p = none → Q (.ref p) (upd H1 p (.lst xs.reverse))) ∨ (SqT K H1 a xs ∧ ∀ p, H1 p = none → Q (.ref p) (upd H1 p (.tup xs.reverse))))
theorem pe_rev2 {X : Cx} {e : Expr} {te : TE} {k : Nat} {p1 p2 p3 pos : Pos} (he : PE X e te) : PE X (.Subscript e (.Slice none none (some (.UnaryOp .USub (.Constant (.int 1) k p1) p2)) p3) pos) (tRev2 X.K te) := by
  refine ⟨fun pins s σ H Q I h => ?_⟩
  refine Subscript_ (thn (he.run pins s σ H _ I h) fun v s1 ⟨x, H1, I1, r1, q1⟩ => ?_)
  obtain ⟨a, xs, ex, hq⟩ := q1
  subst ex
  cases r1
  have hst : PO X (some (.UnaryOp .USub (.Constant (.int 1) k p1) p2)) (tPart (tUn (rU fun i => .int (-i)) (tC (.int 1)))) := po_some (pe_un un_neg pe_int)
  refine wpAny_Slice (thn (po_none.run pins s1 σ H1 (fun o H2 => o = none ∧ H2 = H1) I1 ⟨rfl, rfl⟩) fun vl s2 ⟨l, H2, I2, pl, el, e2⟩ => ?_)
  subst el e2
  refine thn (po_none.run pins s2 σ H2 (fun o H3 => o = none ∧ H3 = H2) I2 ⟨rfl, rfl⟩) fun vu s3 ⟨u, H3, I3, pu, eu, e3⟩ => ?_
  subst eu e3
  refine thn (hst.run pins s3 σ H3 (fun o H4 => o = some (-1) ∧ H4 = H3) I3 ⟨1, rfl, -1, rfl, rfl, rfl⟩) fun vs s4 ⟨o, H4, I4, ps, eo, e4⟩ => ?_
  subst eo e4
  have I5 : Inv X pins σ H4 { s4 with heap := s4.heap.push { cls := .type "slice", data := .fields #[vl, vu, vs] } } := I4.kept (t' := s4.toks) fun b ob q => Heap.get?_push_of_some _ q
  rcases hq with ⟨hx, q⟩ | ⟨hx, q⟩
  · obtain ⟨its, r, ht, hz⟩ := I5.list hx
    have hlen := r.length
    show wpAny (model X.prog X.w) X.A (subscriptTail e (.Slice none none (some (.UnaryOp .USub (.Constant (.int 1) k p1) p2)) p3) (.ref a) (.ref s4.heap.objs.size)) (EP X pins σ Q) X.xe { s4 with heap := s4.heap.push { cls := .type "slice", data := .fields #[vl, vu, vs] } }
    refine tail_any (ops := [.ref a, .ref s4.heap.objs.size]) ht.isList.typeIs (PySem.slot_list_getitem.lookup) ?_ (by with_unfolding_all rfl)
    refine wpAny_getItem_list_slice ht.isList (Heap.IsSliceOf.new _ vl vu vs) pl pu ps (by decide) ?_ (by rw [List.size_toArray]; omega)
    rw [PySem.W.krv_pick]
    refine ⟨.ref _, _, I5.laid (t' := s4.toks) (o := .lst xs.reverse) (fun b ob q => Heap.get?_push_of_some _ q) (Nat.le_refl _) ?_, rfl, q _ (I5.hok.fresh (Nat.le_refl _))⟩
    exact ⟨by rw [List.length_reverse]; exact hz, _, 0, r.reverse, Heap.get?_push_size _ rfl⟩
  · obtain ⟨its, r, ht, hz⟩ := I5.tuple hx
    have hlen := r.length
    show wpAny (model X.prog X.w) X.A (subscriptTail e (.Slice none none (some (.UnaryOp .USub (.Constant (.int 1) k p1) p2)) p3) (.ref a) (.ref s4.heap.objs.size)) (EP X pins σ Q) X.xe { s4 with heap := s4.heap.push { cls := .type "slice", data := .fields #[vl, vu, vs] } }
    refine tail_any (ops := [.ref a, .ref s4.heap.objs.size]) ht.typeIs (PyProof.Rows.slot_tuple_getitem.lookup) ?_ (by with_unfolding_all rfl)
    refine getItem_rv ht (Heap.IsSliceOf.new _ vl vu vs) pl pu ps ?_ (by rw [List.size_toArray]; omega)
    refine ⟨.ref _, _, I5.laid (t' := s4.toks) (o := .tup xs.reverse) (fun b ob q => Heap.get?_push_of_some _ q) (Nat.le_refl _) ?_, rfl, q _ (I5.hok.fresh (Nat.le_refl _))⟩
    refine ⟨by rw [List.length_reverse]; omega, its.reverse, r.reverse, ?_⟩
    exact IsTup.new _ _
theorem sd_rev {a : C} (Sa : Sd B n N a) : Sd B n N (.rev a) := by
  refine Sd.mk1 rfl (fun z => nomatch z) (SE.all ?_ (fun rd sc e h => h))
  intro sc e hc X W E G0 H0 G H ρ σ Q I g
  obtain ⟨x, k1, p1, p2, p3, pos, rfl, hx⟩ : ∃ x k1 p1 p2 p3 pos, e = .Subscript x (.Slice none none (some (.UnaryOp .USub (.Constant (.int 1) k1 p1) p2)) p3) pos ∧ (ck B N a).e true sc x = true :=
    have hc : eRev (ck B N a) false sc e = true := hc
    by
    unfold eRev at hc
    split at hc
    · exact ⟨_, _, _, _, _, _, rfl, hc⟩
    · cases hc
  have g0 : GX (XB B X) W G H σ (okE false X.K G H Q) ((ev (φn B n) B.κ a ρ).bind revP) := g
  refine pe_can' (pe_rev2 pe_can) (Sa.e true sc x hx X W E G0 H0 G H ρ σ _ I (g0.bind.imp fun p _ k G1 H1 v e1 r1 => ?_))
  have I1 := I.grow e1
  cases p with
  | lst ps =>
    obtain ⟨b, vs, rfl, sh, rs⟩ := RepX.lst r1 I1.sub
    refine ⟨_, vs, rfl, .inl ⟨.inl (.inl sh), fun p hp => ?_⟩⟩
    have ex := Ext.new (o := .lst vs.reverse) I1.sub hp
    exact k _ _ _ (e1.trans ex) (.lst (upd_same ..) (rs.reverse.mono ex.gs))
  | tup ps =>
    cases RepX.rep r1 (fun _ z => nomatch z) (fun _ _ z => nomatch z) with
    | tup ht rs =>
        rename_i vs
        refine ⟨_, vs, rfl, .inr ⟨Same.tup I1.sub ht, fun p hp => ?_⟩⟩
        have ex := Ext.new (o := .tup vs.reverse) I1.sub hp
        exact k _ _ _ (e1.trans ex) (.tup (.inl (.inl (upd_same ..))) (rs.reverse.mono ex.gs))
  | _ => exact k.elim
theorem strs_of {K : PySem.W.Frag} {G : Hp} : ∀ {xs : List PV} {ys : List (List Nat)} {vs : List V}, strsP xs = some ys → Reps K G vs xs → vs = (ys.map SX.S).map V.str ∧ ∀ y ∈ ys, ∀ c ∈ y, c < 1114112
  | [], ys, vs, h, r => by
    cases h
    cases r
    exact ⟨rfl, fun y hy => absurd hy List.not_mem_nil⟩
  | .str x :: xs, ys, vs, h, r => by
    have h' : (strsP xs).map (x :: ·) = some ys := h
    cases e : strsP xs with
    | none => rw [e] at h'; cases h'
    | some zs =>
      rw [e] at h'
      cases h'
      cases r with
      | cons r1 rs =>
        obtain ⟨h1, h2⟩ := strs_of e rs
        cases r1 with
        | str _ hc _ =>
          refine ⟨by rw [h1]; rfl, fun y hy => ?_⟩
          rcases List.mem_cons.mp hy with rfl | hy
          · exact hc
          · exact h2 y hy
  | .non :: _, _, _, h, _ => by cases h
  | .bl _ :: _, _, _, h, _ => by cases h
  | .int _ :: _, _, _, h, _ => by cases h
  | .tup _ :: _, _, _, h, _ => by cases h
  | .lst _ :: _, _, _, h, _ => by cases h
  | .scr _ :: _, _, _, h, _ => by cases h
  | .dct _ _ :: _, _, _, h, _ => by cases h
  | .ptp _ :: _, _, _, h, _ => by cases h
theorem join_mem {s : List Nat} {c : Nat} : ∀ {ys : List (List Nat)}, c ∈ TL.joinL s ys → c ∈ s ∨ ∃ y ∈ ys, c ∈ y
  | [], h => by cases h
  | [p], h => .inr ⟨p, List.mem_cons_self .., h⟩
  | p :: q :: r, h => by
    have h' : c ∈ p ++ (s ++ TL.joinL s (q :: r)) := h
    rw [List.mem_append, List.mem_append] at h'
    rcases h' with h' | h' | h'
    · exact .inr ⟨p, List.mem_cons_self .., h'⟩
    · exact .inl h'
    · rcases join_mem h' with h' | ⟨y, hy, hc⟩
      · exact .inl h'
      · exact .inr ⟨y, List.mem_cons_of_mem _ hy, hc⟩
theorem join_len {s : List Nat} : ∀ {ys : List (List Nat)}, (TL.joinL s ys).length ≤ (ys.map (·.length)).sum + ys.length * s.length
  | [] => Nat.zero_le _
  | [p] => by
    show p.length ≤ (p.length + 0) + 1 * s.length
    omega
  | p :: q :: r => by
    have := join_len (s := s) (ys := q :: r)
    show (p ++ (s ++ TL.joinL s (q :: r))).length ≤ (p.length + ((q :: r).map (·.length)).sum) + ((q :: r).length + 1) * s.length
    rw [List.length_append, List.length_append, Nat.succ_mul]
    omega
theorem sd_join {o a : C} (So : Sd B n N o) (Sa : Sd B n N a) : Sd B n N (.mt .join o a) := by
  refine Sd.mk1 rfl (fun z => nomatch z) (SE.all ?_ (fun rd sc e h => h))
  intro sc e hc X W E G0 H0 G H ρ σ Q I g
  obtain ⟨x, ap, y, p, rfl, h1, h2, h3, h4, h5⟩ : ∃ x ap y p, e = .Call (.Attribute x "join" ap) [y] [] p ∧ (ck B N o).e false sc x = true ∧ (ck B N a).e true sc y = true ∧ notStar y = true ∧ plainBase x = true ∧ (ap.endLine == p.line) = true := by
    have hc : eMt .join (ck B N o) (ck B N a) false sc e = true := hc
    unfold eMt at hc
    split at hc
    · simp only [Bool.and_eq_true] at hc
      have e0 := sEq_ok hc.1.1.1.1.1
      subst e0
      exact ⟨_, _, _, _, rfl, hc.1.1.1.1.2, hc.1.1.1.2, hc.1.1.2, hc.1.2, hc.2⟩
    · cases hc
  have g0 : GX (XB B X) W G H σ (okE false X.K G H Q) ((ev (φn B n) B.κ o ρ).bind fun x => (strR x).bind fun x => (ev (φn B n) B.κ a ρ).bind fun y => mtP .join x y) := g
  refine pe_can' (pe_join pe_can pe_can (star_of h3) (plainBase_ok h4) h5) ?_
  refine So.e false sc x h1 X W E G0 H0 G H ρ σ _ I (g0.bind.imp fun p1 _ k G1 H1 v e1 r1 => ?_)
  have I1 := I.grow e1
  cases p1 with
  | str s =>
    have k' : GX (XB B X) W G1 H1 σ (okE false X.K G1 H1 Q) ((ev (φn B n) B.κ a ρ).bind fun y => mtP .join (.str s) y) := GX.move (r := (ev (φn B n) B.κ a ρ).bind fun y => mtP .join (.str s) y) k e1 fun q kq G' H' w e' r' => kq G' H' w (e1.trans e') r'
    cases r1 with
    | str _ hs hl =>
      refine ⟨⟨_, rfl⟩, Sa.e true sc y h2 X W E G0 H0 G1 H1 ρ σ _ I1 (k'.bind.imp fun p2 _ k2 G2 H2 w e2 r2 => ?_)⟩
      cases p2 with
      | lst xs =>
        have k2 : GX (XB B X) W G1 H1 σ (okE false X.K G1 H1 Q) (match strsP xs with
          | some ys => if fits ((ys.map (·.length)).sum + ys.length * s.length) then .ok (.str (TL.joinL s ys)) else .bad
          | none => .bad) := k2
        cases ey : strsP xs with
        | none => rw [ey] at k2; exact k2.elim
        | some ys =>
          rw [ey] at k2
          cases hf : fits ((ys.map (·.length)).sum + ys.length * s.length) with
          | false =>
            simp only [hf] at k2
            exact k2.elim
          | true =>
            simp only [hf, if_true] at k2
            obtain ⟨b, vs, rfl, hb, rr⟩ := RepX.lst r2 (I1.grow e2).sub
            obtain ⟨z1, z2⟩ := strs_of ey rr
            subst z1
            have hz := fits_le hf
            refine ⟨SX.S s, b, ys.map SX.S, rfl, rfl, .inl (.inl (.inl hb)), ?_, ?_⟩
            · rw [SX.lens, List.length_map, SX.S_len]
              exact hz
            · rw [SX.join_S]
              refine k2 G2 H2 _ e2 (.str _ (fun c hc => ?_) (Nat.le_trans join_len hz))
              rcases join_mem hc with hc | ⟨y, hy, hc⟩
              · exact hs c hc
              · exact z2 y hy c hc
      | _ => exact k2.elim
  | _ => exact k.elim
theorem cntP_eq (c : Nat) (x : List Nat) : PySem.Txt.count ⟨x.toArray⟩ ⟨#[c]⟩ = cntP c x := by
  have k : ∀ l : List Nat, PyProof.Rows.cnt c l = cntP c l := fun l => by
    induction l with
    | nil => exact PyProof.Rows.cnt_nil c
    | cons n r ih => rw [PyProof.Rows.cnt_cons, ih]; rfl
  rw [← k]
  exact PyProof.Rows.count_is _ c
theorem sd_count {o a : C} (So : Sd B n N o) (Sa : Sd B n N a) : Sd B n N (.mt .count o a) := by
  refine Sd.mk1 rfl (fun z => nomatch z) (SE.all ?_ (fun rd sc e h => h))
  intro sc e hc X W E G0 H0 G H ρ σ Q I g
  obtain ⟨x, ap, y, p, rfl, h1, h2, h3, h4, h5⟩ : ∃ x ap y p, e = .Call (.Attribute x "count" ap) [y] [] p ∧ (ck B N o).e false sc x = true ∧ (ck B N a).e true sc y = true ∧ notStar y = true ∧ plainBase x = true ∧ (ap.endLine == p.line) = true := by
    have hc : eMt .count (ck B N o) (ck B N a) false sc e = true := hc
    unfold eMt at hc
    split at hc
    · simp only [Bool.and_eq_true] at hc
      have e0 := sEq_ok hc.1.1.1.1.1
      subst e0
      exact ⟨_, _, _, _, rfl, hc.1.1.1.1.2, hc.1.1.1.2, hc.1.1.2, hc.1.2, hc.2⟩
    · cases hc
  have g0 : GX (XB B X) W G H σ (okE false X.K G H Q) ((ev (φn B n) B.κ o ρ).bind fun x => (strR x).bind fun x => (ev (φn B n) B.κ a ρ).bind fun y => mtP .count x y) := g
  refine pe_can' (pe_m1 F.slot_str_count F.type_str_count mt_count pe_can pe_can (star_of h3) (plainBase_ok h4) h5) ?_
  refine So.e false sc x h1 X W E G0 H0 G H ρ σ _ I (g0.bind.imp fun p1 _ k G1 H1 v e1 r1 => ?_)
  have I1 := I.grow e1
  cases p1 with
  | str s =>
    have k' : GX (XB B X) W G1 H1 σ (okE false X.K G1 H1 Q) ((ev (φn B n) B.κ a ρ).bind fun y => mtP .count (.str s) y) := GX.move (r := (ev (φn B n) B.κ a ρ).bind fun y => mtP .count (.str s) y) k e1 fun q kq G' H' w e' r' => kq G' H' w (e1.trans e') r'
    cases r1 with
    | str _ hs hl =>
      refine ⟨⟨_, rfl⟩, Sa.e true sc y h2 X W E G0 H0 G1 H1 ρ σ _ I1 (k'.bind.imp fun p2 _ k2 G2 H2 w e2 r2 => ?_)⟩
      cases p2 with
      | str z =>
        match z, k2, r2 with
        | [], k2, r2 => exact k2.elim
        | [c], k2, r2 =>
          have k2 : GX (XB B X) W G1 H1 σ (okE false X.K G1 H1 Q) (.ok (.int (cntP c s))) := k2
          obtain ⟨rfl, _⟩ := RepX.str r2
          refine ⟨_, _, rfl, rfl, ?_⟩
          have e := cntP_eq c s
          rw [e]
          exact k2 G2 H2 _ e2 (.int _)
        | _ :: _ :: _, k2, r2 => exact k2.elim
      | _ => exact k2.elim
  | _ => exact k.elim
theorem sd_mt (m : Mt) {o a : C} (So : Sd B n N o) (Sa : Sd B n N a) : Sd B n N (.mt m o a) := by
  cases m
  · exact sd_join So Sa
  · exact sd_count So Sa
def trsOf (X : Cx) : List (Option Expr) → List Expr → List (TE × TE)
  | some k :: ks, v :: vs => (tcE X k, tcE X v) :: trsOf X ks vs
  | _, _ => []
theorem intE_ok {i : Int} {k : Expr} (h : intE i k = true) {X : Cx} {H : Hp} {σ : L2.St} {Q : VK} (q : Q (.int i) H) : tcE X k σ H Q := by
  unfold intE at h
  split at h
  · have h := of_decide_eq_true h
    subst h
    refine ckK_ok (p := .int i) (c := .int i) (G := H) (show ckK (.int i) (.int i) = true from decide_eq_true rfl) fun v r => ?_
    cases r
    exact q
  · have h := of_decide_eq_true h
    subst h
    refine pe_can' (pe_un un_neg pe_can) ?_
    rename_i j _ _ _
    refine ckK_ok (p := .int j) (c := .int j) (G := H) (show ckK (.int j) (.int j) = true from decide_eq_true rfl) fun v r => ?_
    cases r
    exact ⟨j, rfl, q⟩
  · cases h
theorem pk_len : ∀ {kvs : List (Int × List Nat)} {ks : List (Option Expr)} {vs : List Expr}, pkB kvs ks vs = true → ks.length = kvs.length ∧ vs.length = kvs.length ∧ ks.all (·.isSome) = true
  | [], [], [], _ => ⟨rfl, rfl, rfl⟩
  | (i, s) :: r, some k :: ks, .Constant c _ _ :: vs, h => by
    have h : (intE i k && ckK (.str s) c && pkB r ks vs) = true := h
    simp only [Bool.and_eq_true] at h
    obtain ⟨a, b, c⟩ := pk_len h.2
    exact ⟨by rw [List.length_cons, List.length_cons, a], by rw [List.length_cons, List.length_cons, b], by rw [List.all_cons, c]; rfl⟩
  | [], _ :: _, _, h => by cases h
  | [], [], _ :: _, h => by cases h
  | _ :: _, [], _, h => by cases h
  | _ :: _, none :: _, _, h => by cases h
  | _ :: _, some _ :: _, [], h => by cases h
theorem pk_pps {X : Cx} {pos : Pos} : ∀ {ks : List (Option Expr)} {vs : List Expr}, ks.length = vs.length → ks.all (·.isSome) = true → PPs X pos ks vs (trsOf X ks vs)
  | [], [], _, _ => pps_nil
  | some k :: ks, v :: vs, h, h2 => pps_cons pe_can pe_can (pk_pps (by simpa using h) (by simpa using h2))
  | none :: _, _, _, h2 => by simp at h2
  | _ :: _, [], h, _ => by simp at h
  | [], _ :: _, h, _ => by simp at h
def kvV (kvs : List (Int × List Nat)) : List (Key × V) := kvs.map fun kv => (.inl kv.1, strV kv.2)
theorem pk_pairs {X : Cx} {σ : L2.St} : ∀ {kvs : List (Int × List Nat)} {ks : List (Option Expr)} {vs : List Expr} {H : Hp} {Q : List (V × V) → Hp → Prop}, pkB kvs ks vs = true → Q ((kvV kvs).map fun kv => (kV kv.1, kv.2)) H → tPairs (trsOf X ks vs) σ H Q
  | [], [], [], H, Q, _, q => q
  | (i, s) :: r, some k :: ks, .Constant c _ _ :: vs, H, Q, h, q => by
    have h : (intE i k && ckK (.str s) c && pkB r ks vs) = true := h
    simp only [Bool.and_eq_true] at h
    refine intE_ok h.1.1 (ckK_ok (p := .str s) (G := H) h.1.2 fun v rv => ?_)
    cases rv
    exact pk_pairs h.2 q
  | [], _ :: _, _, _, _, h, _ => by cases h
  | [], [], _ :: _, _, _, h, _ => by cases h
  | _ :: _, [], _, _, _, h, _ => by cases h
  | _ :: _, none :: _, _, _, _, h, _ => by cases h
  | _ :: _, some _ :: _, [], _, _, h, _ => by cases h
theorem merge_app : ∀ (kvs : List (Int × List Nat)) (acc : List (Key × V)), (kvs.map (·.1)).Nodup → (∀ kv ∈ kvs, valV acc (.inl kv.1) = none) → mergeK acc (kvV kvs) = acc ++ kvV kvs
  | [], acc, _, _ => (List.append_nil _).symm
  | kv :: r, acc, h, h2 => by
    have h' := List.nodup_cons.mp h
    have e := putK_new (strV kv.2) (h2 kv (List.mem_cons_self ..))
    show mergeK (putK acc (.inl kv.1) (strV kv.2)) (kvV r) = _
    rw [e, merge_app r _ h'.2 fun x hx => ?_, List.append_assoc]
    · rfl
    · rw [valV_snoc _ _ _ _ (h2 kv (List.mem_cons_self ..)), if_neg (fun z => ?_)]
      · exact h2 x (List.mem_cons_of_mem _ hx)
      · have z : x.1 = kv.1 := Sum.inl.inj z
        refine h'.1 ?_
        show kv.1 ∈ r.map (·.1)
        rw [← z]
        exact List.mem_map_of_mem hx
theorem val_find (i : Int) : ∀ kvs : List (Int × List Nat), valV (kvV kvs) (.inl i) = (kvs.find? fun kv => decide (kv.1 = i)).map fun kv => strV kv.2
  | [] => rfl
  | kv :: r => by
    rw [List.find?_cons]
    by_cases e : kv.1 = i
    · rw [decide_eq_true e]
      exact valV_pos (by show Sum.inl kv.1 = _; rw [e])
    · rw [decide_eq_false e]
      have : valV (kvV (kv :: r)) (.inl i) = valV (kvV r) (.inl i) := valV_neg (fun z => e (Sum.inl.inj z))
      rw [this]
      exact val_find i r
theorem pk_str : ∀ {kvs : List (Int × List Nat)} {ks : List (Option Expr)} {vs : List Expr} {kv : Int × List Nat}, pkB kvs ks vs = true → kv ∈ kvs → (∀ c ∈ kv.2, c < 1114112) ∧ kv.2.length ≤ sizeLine
  | (i, s) :: r, some k :: ks, .Constant c _ _ :: vs, kv, h, hm => by
    have h : (intE i k && ckK (.str s) c && pkB r ks vs) = true := h
    simp only [Bool.and_eq_true] at h
    rcases List.mem_cons.mp hm with rfl | hm
    · have q := h.1.2
      cases c with
      | str z =>
        have q : (decide (z = ⟨s.toArray⟩) && (s.all fun c => Nat.blt c 1114112) && fits s.length) = true := q
        simp only [Bool.and_eq_true] at q
        exact ⟨fun c hc => Nat.le_of_ble_eq_true (List.all_eq_true.mp q.1.2 c hc), fits_le q.2⟩
      | _ => cases q
    · exact pk_str h.2 hm
  | [], _, _, _, _, hm => by cases hm
  | _ :: _, [], _, _, h, _ => by cases h
  | _ :: _, none :: _, _, _, h, _ => by cases h
  | _ :: _, some _ :: _, [], _, h, _ => by cases h
theorem sd_pick (kvs : List (Int × List Nat)) {a : C} (Sa : Sd B n N a) : Sd B n N (.pick kvs a) := by
  refine Sd.mk1 rfl (fun z => nomatch z) (SE.all ?_ fun _ _ _ h => h)
  intro sc e hc X W E G0 H0 G H ρ σ Q I g
  have hc : ePick kvs (ck B N a) false sc e = true := hc
  unfold ePick at hc
  split at hc
  · rename_i ks vs _ y _ _
    simp only [Bool.and_eq_true, decide_eq_true_eq] at hc
    obtain ⟨⟨⟨⟨⟨h1, h2⟩, h3⟩, h4⟩, h5⟩, h6⟩ := hc
    obtain ⟨l1, l2, l3⟩ := pk_len h1
    have h0 : ks ≠ [] := fun z => by
      subst z
      cases kvs with
      | nil => cases h6
      | cons _ _ => cases l1
    have hk : kvs.length ≤ 15 := Nat.le_of_ble_eq_true h5
    have u1 : X.A.units + 1 < cLine := by have := units65 E.room; omega
    refine pe_can' (pe_dget u1 (pe_disp (pk_pps (by rw [l1, l2]) l3) l3 (by rw [l1, l2]) h0 (by rw [l1]; exact hk)) pe_can (fun ov iv => notSlice_ok h3 ov iv)) ?_
    intro p hp
    refine pk_pairs h1 ⟨upd_same .., kvV kvs, rfl, by unfold kvV; rw [List.length_map]; exact hk, ?_⟩
    have em : mergeK [] (kvV kvs) = kvV kvs := merge_app kvs [] h4 fun _ _ => rfl
    have eu : upd (upd H p (.dK [])) p (.dK (mergeK [] (kvV kvs))) = upd H p (.dK (kvV kvs)) := by
      rw [em]
      funext b
      by_cases hb : b = p
      · subst hb; rw [upd_same, upd_same]
      · rw [upd_ne hb, upd_ne hb, upd_ne hb]
    rw [eu]
    have ex : Ext G H (upd G p (.dK (kvV kvs))) (upd H p (.dK (kvV kvs))) := Ext.new I.sub hp
    have I1 := I.grow ex
    have g0 : GX (XB B X) W G H σ (okE false X.K G H Q) ((ev (φn B n) B.κ a ρ).bind fun x => pickP kvs x) := g
    have g1 := GX.move (r := (ev (φn B n) B.κ a ρ).bind fun x => pickP kvs x) g0 ex fun q kq G' H' w e' r' => kq G' H' w (ex.trans e') r'
    refine Sa.e false sc y h2 X W E G0 H0 _ _ ρ σ _ I1 (g1.bind.imp fun q _ k G2 H2 v e2 r2 => ?_)
    cases q with
    | int i =>
      have r2 : v = .int i := RepX.int (RB.x r2)
      subst r2
      have k : GX (XB B X) W (upd G p (.dK (kvV kvs))) (upd H p (.dK (kvV kvs))) σ (okE false X.K (upd G p (.dK (kvV kvs))) (upd H p (.dK (kvV kvs))) Q) (match kvs.find? fun kv => decide (kv.1 = i) with | some kv => .ok (.str kv.2) | none => .bad) := k
      have vf := val_find i kvs
      cases ef : kvs.find? fun kv => decide (kv.1 = i) with
      | none => rw [ef] at k; exact k.elim
      | some kv =>
        rw [ef] at k vf
        have hd : H2 p = some (.dK (kvV kvs)) := e2.hs _ _ (upd_same ..)
        have dg := DGet.k (k := .inl i) hd
        rw [vf] at dg
        obtain ⟨q1, q2⟩ := pk_str h1 (List.mem_of_find?_eq_some ef)
        exact ⟨p, strV kv.2, rfl, dg, k G2 H2 _ e2 (.str _ q1 q2)⟩
    | _ => exact k.elim
  · cases hc
theorem sd_jk : Sd B n N .jk where
  e := fun rd sc e _ X W _ G0 H0 G H ρ σ Q _ g => False.elim g
  b := fun op sc x r pos _ X W _ G0 H0 G H ρ σ Q _ g => False.elim g
  t := fun sc e _ X W _ G0 H0 G H ρ σ Q _ g => False.elim g
  tb := fun op sc x r pos _ X W _ G0 H0 G H ρ σ Q _ g => False.elim g
  a := fun rd sc es hc => by cases hc
  o := fun sc o _ X W _ G0 H0 G H ρ σ Q _ g => False.elim g
  i := fun rd sc tg e _ X W _ G0 H0 G H ρ σ R _ g => False.elim g
theorem sd_all (c : C) : Sd B n N c := by
  induction c with
  | v i => exact sd_v i
  | rd i => exact sd_rd i
  | k p => exact sd_k p
  | g i => exact sd_g i
  | bin op a b ha hb => exact sd_bin op ha hb
  | neg a ha => exact sd_neg ha
  | nt a ha => exact sd_nt ha
  | cmp op a b ha hb => exact sd_cmp op ha hb
  | chn op op' a b c ha hb hc => exact sd_chn op op' ha hb hc
  | chn3 op op' op'' a b c d ha hb hc hd => exact sd_chn3 op op' op'' ha hb hc hd
  | an a b ha hb => exact sd_an ha hb
  | or a b ha hb => exact sd_or ha hb
  | ife c a b hc ha hb => exact sd_ife hc ha hb
  | tup es h => exact sd_tup h
  | dsp es h => exact sd_dsp h
  | nil => exact sd_nil
  | cons a as ha hs => exact sd_cons ha hs
  | ix a i ha hi => exact sd_ix ha hi
  | sl a lo hi ha hl hh => exact sd_sl ha hl hh
  | nop => exact sd_nop
  | tl a ha => exact sd_tl ha
  | rev a ha => exact sd_rev ha
  | call f es h => exact sd_call f h
  | bi b es h => exact sd_bi b h
  | isi t e h => exact sd_isi t h
  | mt m o e ho he => exact sd_mt m ho he
  | dk kvs => exact sd_dk kvs
  | get2 d k e hd hk he => exact sd_get2 hd hk he
  | sf i f => exact sd_sf i f
  | cfl g f es h => exact sd_cfl g f h
  | lsc vs tg it cn el _ hi hc he => exact sd_lsc vs tg hi hc he
  | unp e h => exact sd_unp h
  | lset e h => exact sd_lset h
  | sset' e h => exact sd_sset h
  | lr1 a h => exact sd_lr1 h
  | lr2 a b ha hb => exact sd_lr2 ha hb
  | pick kvs e he => exact sd_pick kvs he
  | comp vs tg it cn el _ hi hc he => exact sd_comp vs tg hi hc he
  | seq e h => exact sd_seq h
  | rng1 a h => exact sd_rng1 h
  | rng2 a b ha hb => exact sd_rng2 ha hb
  | rng3 a b c ha hb hc => exact sd_rng3 ha hb hc
  | enu e h => exact sd_enu h
  | zip a b ha hb => exact sd_zip ha hb
  | zip3 a b c ha hb hc => exact sd_zip3 ha hb hc
  | jk => exact sd_jk
  | _ => exact sd_none rfl (fun z => nomatch z)
theorem ss_no {c : C} (h : cks B N c = mkS sNo) : SS B n N c ∧ SBk B n N c := ⟨fun sc st hc => (by rw [h] at hc; cases hc), fun sc sts hc => (by rw [h] at hc; cases hc)⟩
theorem sb_no {c : C} {s : Scope → Stmt → Bool} (h : cks B N c = mkS s) : SBk B n N c := fun sc sts hc => by rw [h] at hc; cases hc
theorem sf_all {e : C} (h : frC e = true) : SF B n N e := by
  induction e with
  | ife c a b _ ha hb =>
    have h : (frC a && frC b) = true := h
    rw [Bool.and_eq_true] at h
    exact sf_ife (sd_all c) (ha h.1) (hb h.2)
  | dsp es => exact sf_dsp (sd_all es)
  | comp vs tg it cn el => exact sf_comp vs tg (sd_all it) (sd_all cn) (sd_all el)
  | bin op a b => cases op <;> first | exact sf_bin (sd_all a) (sd_all b) | cases h
  | sl a lo hi => exact sf_sl (sd_all a) (sd_all lo) (sd_all hi)
  | bi b es => cases b <;> first | exact sf_list (sd_all es) | cases h
  | _ => cases h
theorem cons_all {e : C} (vs : List Nat) (tg it cn el : C) (_ : e = .comp vs tg it cn el) : Sd B n N it ∧ Sd B n N cn ∧ Sd B n N el := ⟨sd_all it, sd_all cn, sd_all el⟩
theorem sown_all (i : Nat) (e : C) : SS B n N (.sown i e) := by
  cases hk : frC e || isCallC e with
  | false => exact (ss_no (by show (bif frC e || isCallC e then _ else _) = _; rw [hk]; rfl)).1
  | true =>
    by_cases hc : isCallC e = true
    · cases e with
      | call f es => exact ss_sown_call i f (sd_all es)
      | _ => cases hc
    · have hf : frC e = true := by
        rw [Bool.or_eq_true] at hk
        rcases hk with h | h
        · exact h
        · exact absurd h hc
      exact ss_sown i (by show (bif frC e || isCallC e then _ else _) = _; rw [hk]; rfl) (fun _ => sf_all hf) (fun f es h => hc (by rw [h]; rfl)) cons_all
theorem sref_all (e : C) : SS B n N (.sref e) := by
  cases hk : frC e with
  | false => exact (ss_no (by show (bif frC e then _ else _) = _; rw [hk]; rfl)).1
  | true => exact ss_sref (by show (bif frC e then _ else _) = _; rw [hk]; rfl) (sf_all hk)
theorem sasg_all (tg e : C) : SS B n N (.sasg tg e) := by
  cases tg with
  | tt ts => cases e with
    | tup es => exact ss_sasg_tup (sd_all (.tup es)) (sd_all es)
    | _ => exact ss_sasg_plain (sd_all _) rfl
  | _ => exact ss_sasg_plain (sd_all _) rfl
theorem ss_all (c : C) : SS B n N c ∧ SBk B n N c := by
  induction c with
  | sset i e _ => exact ⟨ss_sset i (sd_all e) cons_all, sb_no rfl⟩
  | sown i e _ => exact ⟨sown_all i e, fun sc sts hc => (by
      have : (cks B N (.sown i e)).b sc sts = false := by
        show (bif frC e || isCallC e then mkS _ else mkS _ : CkS).b sc sts = false
        cases frC e || isCallC e <;> rfl
      rw [this] at hc; cases hc)⟩
  | sref e _ => exact ⟨sref_all e, fun sc sts hc => (by
      have : (cks B N (.sref e)).b sc sts = false := by
        show (bif frC e then mkS _ else mkS _ : CkS).b sc sts = false
        cases frC e <;> rfl
      rw [this] at hc; cases hc)⟩
  | sasg tg e _ _ => exact ⟨sasg_all tg e, fun sc sts hc => (by
      cases tg with
      | tt ts => cases e <;> cases hc
      | _ => cases hc)⟩
  | sapp i e _ => exact ⟨ss_sapp i (sd_all e), sb_no rfl⟩
  | sext i e _ => exact ⟨ss_sext i (sd_all e), sb_no rfl⟩
  | sow0 i j => exact ⟨ss_sow0 i j, sb_no rfl⟩
  | sow2 i k => exact ⟨ss_sow2 i k, sb_no rfl⟩
  | sap2 i ix e _ _ => exact ⟨ss_sap2 i (sd_all ix) (sd_all e), sb_no rfl⟩
  | sex2 i ix e _ _ => exact ⟨ss_sex2 i (sd_all ix) (sd_all e), sb_no rfl⟩
  | sput i ix e _ _ => exact ⟨ss_sput i (sd_all ix) (sd_all e), sb_no rfl⟩
  | saug i op e _ => exact ⟨ss_saug i op (sd_all e), sb_no rfl⟩
  | saux i ix op e _ _ => exact ⟨ss_saux i op (sd_all ix) (sd_all e), sb_no rfl⟩
  | sexp e _ => exact ⟨ss_sexp (sd_all e), sb_no rfl⟩
  | sif c a b _ ha hb => exact ⟨ss_sif (sd_all c) ha.2 hb.2, sb_no rfl⟩
  | sfor tg it body _ _ hb => exact ⟨ss_sfor tg (sd_all it) hb.2, sb_no rfl⟩
  | sfp tg i f a k body _ _ hb => exact ⟨ss_sfp tg i f k (sd_all a) hb.2, sb_no rfl⟩
  | sfd tg i a k body _ _ hb => exact ⟨ss_sfd tg i k (sd_all a) hb.2, sb_no rfl⟩
  | swh c body _ hb => exact ⟨ss_swh (sd_all c) hb.2, sb_no rfl⟩
  | sret e _ => exact ⟨ss_sret (sd_all e), sb_no rfl⟩
  | sreo i => exact ⟨ss_sreo i, sb_no rfl⟩
  | srai c es _ => exact ⟨ss_srai c (sd_all es), (by
      cases h : isNilC es with
      | true => exact sb_no (s := sRai0 B c) (by show (bif isNilC es then _ else _) = _; rw [h]; rfl)
      | false => exact sb_no (s := sRai1 B c (ck B N es)) (by show (bif isNilC es then _ else _) = _; rw [h]; rfl))⟩
  | stry b hs hb _ => exact ⟨ss_stry hs hb.2, sb_no rfl⟩
  | sownd i e _ => exact ⟨(by
      cases hk : frD e with
      | false => exact (ss_no (by show (bif frD e then _ else _) = _; rw [hk]; rfl)).1
      | true => exact ss_sownd i (by show (bif frD e then _ else _) = _; rw [hk]; rfl) (sf_dall hk sd_all)), fun sc sts hc => (by
      have : (cks B N (.sownd i e)).b sc sts = false := by
        show (bif frD e then mkS _ else mkS _ : CkS).b sc sts = false
        cases frD e <;> rfl
      rw [this] at hc; cases hc)⟩
  | sdput i k e _ _ => exact ⟨ss_sdput i (sd_all k) (sd_all e), sb_no rfl⟩
  | spop i ix _ => exact ⟨ss_spop i (sd_all ix), sb_no rfl⟩
  | jk => exact ⟨fun sc st _ X W _ G0 H0 G H ρ σ D _ g => False.elim g, fun sc st _ X W _ G0 H0 G H ρ σ D _ g => False.elim g⟩
  | sbrk => exact ⟨ss_sbrk, sb_no rfl⟩
  | scnt => exact ⟨ss_scnt, sb_no rfl⟩
  | snil => exact ⟨fun sc st hc => (by cases hc), sb_snil⟩
  | scons s ss hs hss => exact ⟨fun sc st hc => (by cases hc), sb_scons (fun _ => hs.1) hss.2⟩
  | _ => exact ss_no rfl
end
end Z
end
section
namespace Z
open PySem PySem.Spec PyProof.Rows L2
/-! ### defs -/
section
variable {K : PySem.W.Frag} {G H : Hp}
theorem start_get {N : List Str} {vs : List V} {ps : List PV} {d : FnD} (hN : N.length = d.ns) (r : Reps K G vs ps) (hl : ps.length = d.np) {i : Nat} {s : Slot} (h : (startS d ps)[i]? = some s) : ∃ o, (start N vs)[i]? = some o ∧ RepSlot K G H H o s ∧ s.o = false := by
  have hv : vs.length = ps.length := r.length
  unfold startS at h
  unfold L2.start
  by_cases hi : i < ps.length
  · rw [List.getElem?_append_left (by rw [List.length_map]; exact hi), List.getElem?_map] at h
    rw [List.getElem?_append_left (by rw [List.length_map]; omega), List.getElem?_map]
    cases e : ps[i]? with
    | none => rw [e] at h; cases h
    | some p =>
      rw [e] at h
      cases h
      obtain ⟨v, h1, h2⟩ := r.get e
      rw [h1]
      exact ⟨some v, rfl, ⟨v, rfl, h2⟩, rfl⟩
  · rw [List.getElem?_append_right (by rw [List.length_map]; omega)] at h
    rw [List.getElem?_append_right (by rw [List.length_map]; omega)]
    rw [List.getElem?_replicate] at h ⊢
    rw [List.length_map] at h ⊢
    split at h
    · cases h
      rw [if_pos (by omega)]
      exact ⟨none, rfl, trivial, rfl⟩
    · cases h
theorem start_no2 {N : List Str} {vs : List V} {ps : List PV} {d : FnD} (hN : N.length = d.ns) (r : Reps K G vs ps) (hl : ps.length = d.np) {i : Nat} {xss : List (List PV)} (h : (startS d ps)[i]? = some (.ow2 xss)) : False := by
  obtain ⟨o, _, ⟨a, bs, _, _, h0, h2, _⟩, _⟩ := start_get (H := fun _ => none) hN r hl h
  rw [h0] at h2; cases h2
theorem start_si {N : List Str} {vs : List V} {ps : List PV} {d : FnD} (hN : N.length = d.ns) (s : Same G H) (r : Reps K G vs ps) (hl : ps.length = d.np) : SI K G H G H (startS d ps) (start N vs) where
  ext := Ext.refl s
  len := by
    have hv : vs.length = ps.length := r.length
    unfold startS L2.start
    rw [List.length_append, List.length_append, List.length_map, List.length_map, List.length_replicate, List.length_replicate]
    omega
  at_ := fun i s h => by
    obtain ⟨o, h1, h2, _⟩ := start_get (H := H) hN r hl h
    exact ⟨o, h1, h2⟩
  dis := fun i j a s t _ h1 _ o1 _ _ _ => by
    obtain ⟨o, _, _, h3⟩ := start_get (H := H) hN r hl h1
    rw [h3] at o1; cases o1
  ds2 := fun i j a c bs s xss _ _ h3 _ _ _ => (start_no2 hN r hl h3).elim
  one := fun i j xss yss h1 _ => (start_no2 hN r hl h1).elim
end
/-- a def of the module and its term -/
def FS (B : Tb) (K : PySem.W.Frag) (mg : Str → Option Value) (x : Str) (d : FnD) : Prop := ∃ (fa : Addr) (fd : FuncData) (ps N : List Str) (nm qual : Str) (params : Arguments) (body : List Stmt) (scope : Scope), mg x = some (.ref fa) ∧ FunD K nm qual params body scope [] [] fa fd ∧
  FnScope N ps scope ∧ Binds K fd ps [] ∧ ps.length = d.np ∧ N.length = d.ns ∧ (cks B N d.body).b scope body = true
/-- a def that is proved by hand -/
def FH (B : Tb) (K : PySem.W.Frag) (mg : Str → Option Value) (x : Str) (f : Nat) (d : FnD) : Prop := ∃ (fa : Addr) (fd : FuncData) (ps : List Str), mg x = some (.ref fa) ∧ PySem.W.keepIn K (.ref fa) = true ∧ Binds K fd ps [] ∧ ps.length = d.np ∧
  ∀ (P : Program) (w : World) (base : Heap) (n : Nat), Wo B P w K mg base n → FnOk P w K mg base (CX P w) (3 * (n + 1) + 5) fa fd ps (spF B K (XIs B K mg) (n + 1) f d.np)
structure WS (B : Tb) (K : PySem.W.Frag) (mg : Str → Option Value) : Prop where
  fns : ∀ f x d, B.fnm f = some x → B.TT f = some d → FS B K mg x d ∨ FH B K mg x f d
  con : ∀ i x p, B.cnm i = some x → B.κ i = some p → ∃ v u, mg x = some u ∧ RelV v u ∧ Rep K (fun _ => none) v p
  blt : ∀ x, x ∈ bltN → mg x = none
  xcl : ∀ c x, B.xnm c = some x → ∃ Ca, mg x = some (.ref Ca) ∧ XC K Ca
  xcx : ∀ c c' x x' Ca Cb, B.xnm c = some x → B.xnm c' = some x' → mg x = some (.ref Ca) → mg x' = some (.ref Cb) → PySem.W.exmOne K (.ref Ca) (.ref Cb) = some (B.cx c c') ∧ PySem.W.kitOne K (.ref Ca) (.ref Cb) = some (B.cx c c')
  xex : ∀ c x Ca, B.xnm c = some x → B.xfl c = none → mg x = some (.ref Ca) → PySem.W.excIn K Ca He.veBase "ValueError.__new__" = true
  xin : ∀ c x fl Ca, B.xnm c = some x → B.xfl c = some fl → mg x = some (.ref Ca) → ∀ (P : Program) (w : World) (base : Heap), XO P w K mg base Ca fl
section
variable {B : Tb} {P : Program} {w : World} {K : PySem.W.Frag} {mg : Str → Option Value} {base : Heap} {n : Nat}
theorem gs_of {XI : Ends1} {G H : Hp} {Q : VK} {E : XK} {o : Out} (h : GF K XI G H (fin o) Q E) : GS K XI (fun cls d _ H => E cls d H) { nx := fun _ H' => Q .non H', rt := Q } G H G o := by
  cases o with
  | nx ρ => exact fun G' H' σ' I _ => h G' H' .non I.ext .non
  | ret r =>
    cases r with
    | shr p => exact fun G' H' v e r => h G' H' v e r
    | own xs => exact fun G' H' a vs e ha ga hh rr => h G' H' a vs e ha ga hh rr
    | obj ns fs => exact fun G' H' a C dx us e ha hl hC hN rr => h G' H' a C dx us e ha hl hC hN rr
  | bk ρ => exact h.elim
  | ct ρ => exact h.elim
  | exc c p ρ => exact fun G' H' σ' cls d I _ x => h G' H' cls d I.ext x
  | bad => exact h
theorem spF_len {XI : Ends1} {f np : Nat} {ps : List Str} (hp : ps.length = np) (vs : List V) (H : Hp) (Q : VK) (E : XK) (h : spF B K XI n f np vs H Q E) : vs.length = ps.length := by
  obtain ⟨G, qs, _, r, hl, _⟩ := h
  rw [r.length, hl, hp]
theorem fn_ok {f : Nat} {d : FnD} (W0 : Wo B P w K mg base n) {fa : Addr} {fd : FuncData} {ps N : List Str} {nm qual : Str} {params : Arguments} {body : List Stmt} {scope : Scope} (F : FunD K nm qual params body scope [] [] fa fd) (S : FnScope N ps scope) (hp : ps.length = d.np) (hN : N.length = d.ns)
    (hd : B.TT f = some d) (hc : (cks B N d.body).b scope body = true) : FnOk P w K mg base (CX P w) (3 * (n + 1) + 5) fa fd ps (spF B K (XIs B K mg) (n + 1) f d.np) := by
  refine FunD.ok (k := 3 * n + 7) F S (spF_len hp) fun cdv A outer s H vs Q E hr h => ⟨_, pss_can, ?_⟩
  obtain ⟨G, qs, hs, r, hl, g⟩ := h
  have e1 : callN B.TT B.κ B.cx B.wf (n + 1) f qs = fin (evs B n d.body (startS d qs)) := by
    show (match B.TT f with
      | some d => if Nat.beq qs.length d.np then fin (evS (callN B.TT B.κ B.cx B.wf n) B.κ B.cx B.wf d.body (startS d qs)) else .bad
      | none => .bad) = _
    rw [hd]
    show (if Nat.beq qs.length d.np then _ else _) = _
    rw [if_pos (by rw [hl]; exact Nat.beq_refl _)]
  rw [e1] at g
  refine (ss_all d.body).2 scope body hc _ (fun cls d _ H => E cls d H) ?_ G H G H (startS d qs) _ _ (start_si hN hs r hl) (gs_of g)
  exact
    { ec := { scope := rfl, nm := rfl, nd := S.nd, calm := rfl, takes := takes_of rfl rfl rfl rfl, room := hr.mono (by omega), wo := W0 }
      tc := { nm := rfl, nd := S.nd, calm := rfl, loc := fun x h => ⟨h, .inl rfl⟩ }
      own := passes_of rfl
      stk := rfl
      frm := rfl
      fn := S.kind }
theorem wo_all (S : WS B K mg) : ∀ n, Wo B P w K mg base n := by
  intro n
  induction n with
  | zero =>
    refine ⟨fun f x d h1 h2 => ?_, S.con, S.blt, S.xcl, S.xcx, S.xex, fun c x fl Ca h1 h2 h3 => S.xin c x fl Ca h1 h2 h3 P w base⟩
    rcases S.fns f x d h1 h2 with ⟨fa, fd, ps, N, nm, qual, params, body, scope, hm, F, Sc, hb, hp, hN, hc⟩ | ⟨fa, fd, ps, hm, kp, hb, hp, _⟩
    · refine ⟨fa, fd, ps, hm, F.kp, hb, hp, spF_len hp, fun A outer s H args us vs Q E _ _ _ _ h => ?_⟩
      obtain ⟨G, qs, _, _, _, g⟩ := h
      exact g.elim
    · refine ⟨fa, fd, ps, hm, kp, hb, hp, spF_len hp, fun A outer s H args us vs Q E _ _ _ _ h => ?_⟩
      obtain ⟨G, qs, _, _, _, g⟩ := h
      exact g.elim
  | succ n ih =>
    refine ⟨fun f x d h1 h2 => ?_, S.con, S.blt, S.xcl, S.xcx, S.xex, fun c x fl Ca h1 h2 h3 => S.xin c x fl Ca h1 h2 h3 P w base⟩
    rcases S.fns f x d h1 h2 with ⟨fa, fd, ps, N, nm, qual, params, body, scope, hm, F, Sc, hb, hp, hN, hc⟩ | ⟨fa, fd, ps, hm, kp, hb, hp, ok⟩
    · exact ⟨fa, fd, ps, hm, F.kp, hb, hp, fn_ok ih F Sc hp hN h2 hc⟩
    · exact ⟨fa, fd, ps, hm, kp, hb, hp, ok P w base n ih⟩
/-- the law's own promise -/
theorem law_sp {f : Nat} {H : Hp} {a : Addr} {ns : List Int} (hS : SqL K H a (ns.map V.int)) (h : callN B.TT B.κ B.cx B.wf n f [.scr ns] = .ok (.shr (.bl true))) : spF B K (XIs B K mg) n f 1 [.ref a] H (fun v _ => v = .bl true) fun _ _ _ => False := by
  refine ⟨H, [.scr ns], Same.refl _, .cons (.scr hS) .nil, rfl, ?_⟩
  rw [h]
  intro G' H' v e r
  cases r
  rfl
end
end Z
end
section
namespace Z
open PySem PySem.Spec PyProof.Rows L2
/-! ### the head: what the top has left, by names -/
/-- a constant of the module -/
def vB (K : PySem.W.Frag) : PV → Value → Bool
  | .non, .none => true
  | .bl b, .bool c => b == c
  | .int i, .int j _ => decide (i = j)
  | .str x, .str y _ => decide (y = ⟨x.toArray⟩) && (x.all fun c => Nat.blt c 1114112) && fits x.length
  | _, _ => false
def tB (K : PySem.W.Frag) : PV → Value → Bool
  | .tup ps, .ref a => (match K.lookup a with
    | some ⟨.type c, _, .seq its _, _⟩ => decide (c = "tuple") && decide (its.size ≤ sizeLine) && tBs ps its.toList
    | _ => false)
  | p, u => vB K p u
where tBs : List PV → List Value → Bool
  | [], [] => true
  | p :: ps, u :: us => vB K p u && tBs ps us
  | _, _ => false
section
variable {K : PySem.W.Frag}
theorem vB_ok {p : PV} {u : Value} (h : vB K p u = true) : ∃ v, RelV v u ∧ Rep K (fun _ => none) v p := by
  unfold vB at h
  split at h
  · exact ⟨.non, rfl, .non⟩
  · have e := eq_of_beq h
    subst e
    exact ⟨.bl _, rfl, .bl _⟩
  · have e := of_decide_eq_true h
    subst e
    exact ⟨.int _, ⟨_, rfl⟩, .int _⟩
  · rename_i x y t
    simp only [Bool.and_eq_true] at h
    obtain ⟨⟨h1, h2⟩, h3⟩ := h
    have e := of_decide_eq_true h1
    subst e
    refine ⟨strV x, ⟨_, rfl⟩, .str x (fun c hc => ?_) (Nat.le_of_ble_eq_true h3)⟩
    exact Nat.le_of_ble_eq_true (List.all_eq_true.mp h2 c hc)
  · cases h
theorem tBs_ok : ∀ {ps : List PV} {us : List Value}, tB.tBs K ps us = true → ∃ vs, Vals vs us ∧ Reps K (fun _ => none) vs ps
  | [], [], _ => ⟨[], .nil, .nil⟩
  | p :: ps, u :: us, h => by
    have h' : (vB K p u && tB.tBs K ps us) = true := h
    rw [Bool.and_eq_true] at h'
    obtain ⟨v, r1, r2⟩ := vB_ok h'.1
    obtain ⟨vs, q1, q2⟩ := tBs_ok h'.2
    exact ⟨v :: vs, .cons r1 q1, .cons r2 q2⟩
  | [], _ :: _, h => by cases h
  | _ :: _, [], h => by cases h
theorem tB_ok {p : PV} {u : Value} (h : tB K p u = true) : ∃ v, RelV v u ∧ Rep K (fun _ => none) v p := by
  unfold tB at h
  split at h
  · rename_i ps a
    split at h
    · rename_i c dd its n sl q
      simp only [Bool.and_eq_true] at h
      obtain ⟨⟨h1, h2⟩, h3⟩ := h
      obtain ⟨vs, r1, r2⟩ := tBs_ok h3
      have e := of_decide_eq_true h1
      subst e
      exact ⟨.ref a, rfl, .tup (.inr ⟨_, its, _, q, rfl, rfl, of_decide_eq_true h2, r1⟩) r2⟩
    · cases h
  · exact vB_ok h
/-- an error class -/
def xcB (K : PySem.W.Frag) (x : Str) : Bool := (He.Fa.glo x).ok K && (PySem.W.keepIn K (.ref (He.ga K x)) && (decide (PySem.W.subIn K (.ref (He.ga K x)) (.type "BaseException") = some true) && decide (PySem.W.typeIn K (.ref (He.ga K x)) = some (.type "type")))) && He.eqO (PySem.W.findIn K (.ref (He.ga K x)) "__getattribute__") (some (some (.builtin "BaseException.__getattribute__"))) && He.eqO (PySem.W.findIn K (.ref (He.ga K x)) "__getattr__") (some none) &&
  PySem.W.hasDictIn K (He.ga K x) && He.eqO (PySem.W.findIn K (.ref (He.ga K x)) "__class__") (some (some (.builtin "object.__class__"))) && He.eqO (PySem.W.specialIn K (.builtin "object.__class__") "__get__") (some (some (.builtin "getset_descriptor.__get__"))) &&
  decide (PySem.W.takesIn K (.builtin "object.__class__") = some true) && decide (PySem.W.mroIn K (He.ga K x) (.type "object") = some true)
theorem xcB_ok {x : Str} (h : xcB K x = true) : (He.Fa.glo x).ok K = true ∧ XC K (He.ga K x) := by
  unfold xcB at h
  simp only [Bool.and_eq_true] at h
  obtain ⟨⟨⟨⟨⟨⟨⟨⟨h0, h1⟩, h2⟩, h3⟩, h4⟩, h5⟩, h6⟩, h7⟩, h8⟩ := h
  obtain ⟨e2, e3, e4⟩ := h1
  have e3 := of_decide_eq_true e3
  have e4 := of_decide_eq_true e4
  exact ⟨h0, e2, e3, e4, He.eqO_ok h2, He.eqO_ok h3, e3, h4, He.eqO_ok h5, He.eqO_ok h6, of_decide_eq_true h7, of_decide_eq_true h8⟩
/-- a class from which an own one's __init__ may be taken -/
def bsB (K : PySem.W.Frag) (x : Str) : Bool := PySem.W.readsIn K (He.ga K x) (.type "type") && He.eqO (PySem.W.specialIn K (.ref (He.ga K x)) "__getattribute__") (some (some (.builtin "type.__getattribute__"))) &&
  (match PySem.W.findCls K (.ref (He.ga K x)) (.type "type") "__init__" with
    | some (.val (.builtin y)) => decide (y = "ValueError.__init__")
    | _ => false)
theorem bsB_ok {x : Str} (h : bsB K x = true) : XB0 K (He.ga K x) := by
  unfold bsB at h
  simp only [Bool.and_eq_true] at h
  refine ⟨h.1.1, He.eqO_ok h.1.2, ?_⟩
  have z := h.2
  split at z
  · rename_i y e
    have e2 := of_decide_eq_true z
    subst e2
    exact e
  · cases z
def oeB (K : PySem.W.Frag) (C : Addr) : Bool := match K.lookup C with
  | some ⟨.type "type", _, .cls cd, sl⟩ => (match cd.mro, sl.toList with
    | .ref C' :: bm, [_, _, _, _, some (.builtin n), _] => C' == C && n == "ValueError.__new__" && !cd.hasDel && cd.hasDict && PySem.HandSPX.refsVE bm
    | _, _ => false)
  | _ => false
theorem oeB_ok {C : Addr} (h : oeB K C = true) : ∃ nm q N bs bm sn sub ab col dd k0 k1 k2 k3 k5, K.lookup C = some (excClassObj nm q C N bs bm true sn sub ab col dd k0 k1 k2 k3 k5 "ValueError.__new__") ∧ PySem.HandSPX.refsVE bm = true := by
  unfold oeB at h
  split at h
  · rename_i dd cd sl ho
    split at h
    · rename_i C' bm k0 k1 k2 k3 n k5 hm hs
      simp only [Bool.and_eq_true, beq_iff_eq, Bool.not_eq_true'] at h
      obtain ⟨⟨⟨⟨rfl, rfl⟩, hdel⟩, hd⟩, hr⟩ := h
      obtain ⟨nm, bs, mro, ns, qn, hd', sn, sub, ab, col, del⟩ := cd
      dsimp only at hm hdel hd
      subst hm hdel hd
      have hsl : sl = #[k0, k1, k2, k3, some (.builtin "ValueError.__new__"), k5] := by
        obtain ⟨l⟩ := sl
        simp only at hs
        rw [hs]
      subst hsl
      exact ⟨nm, qn, ns, bs, bm, sn, sub, ab, col, dd, k0, k1, k2, k3, k5, ho, hr⟩
    · cases h
  · cases h
/-- an error class with a field -/
def oxB (K : PySem.W.Frag) (x fl : Str) : Bool := oeB K (He.ga K x) && He.eqO (PySem.W.findIn K (.ref (He.ga K x)) "__setattr__") (some (some (.builtin "object.__setattr__"))) && He.eqO (PySem.W.findIn K (.ref (He.ga K x)) fl) (some none)
theorem oxB_ok {x fl : Str} (h : oxB K x fl = true) (hx : XC K (He.ga K x)) : OexC K (He.ga K x) ∧ XfC K (He.ga K x) ∧ PySem.W.findIn K (.ref (He.ga K x)) fl = some none := by
  unfold oxB at h
  simp only [Bool.and_eq_true] at h
  exact ⟨⟨oeB_ok h.1.1, He.eqO_ok h.1.2, hx.sub, hx.ty, hx.kp⟩, ⟨hx.is.hg, hx.is.hk, hx.is.hs, hx.is.hd⟩, He.eqO_ok h.2⟩
/-- its __init__ -/
def IniOk (K : PySem.W.Frag) (mg : Str → Option Value) (C : Addr) (fl : Str) : Prop := ∃ (fI : Addr) (fd : FuncData) (ps : List Str), PySem.W.findIn K (.ref C) "__init__" = some (some (.ref fI)) ∧ PySem.W.typeIn K (.ref fI) = some (.type "function") ∧ Binds K fd ps [] ∧ ∀ (P : Program) (w : World) (base : Heap), OexC K C → PySem.W.findIn K (.ref C) fl = some none → FnOk P w K mg base (CX P w) 1 fI fd ps (spI C fl)
def xxB (K : PySem.W.Frag) (x y : Str) (b : Bool) : Bool := decide (PySem.W.exmOne K (.ref (He.ga K x)) (.ref (He.ga K y)) = some b) && decide (PySem.W.kitOne K (.ref (He.ga K x)) (.ref (He.ga K y)) = some b)
end
/-- tables by lists -/
def tbL (Fs : List (Nat × Str × FnD)) (Cs : List (Nat × Str × PV)) (Xs : List (Nat × Str)) (Xf : List (Nat × Str)) (cx : Nat → Nat → Bool) (wf : Nat) : Tb where
  fnm := fun f => (Fs.lookup f).map (·.1)
  cnm := fun f => (Cs.lookup f).map (·.1)
  xnm := fun c => Xs.lookup c
  xfl := fun c => Xf.lookup c
  κ := fun f => (Cs.lookup f).map (·.2)
  cx := cx
  TT := fun f => (Fs.lookup f).map (·.2)
  wf := wf
def moreB (Cs : List (Nat × Str × PV)) (Xs Xf : List (Nat × Str)) (cx : Nat → Nat → Bool) (K : PySem.W.Frag) : Bool :=
  (bltN.all fun x => (He.Fa.free x).ok K) && (Cs.all fun e => match PySem.W.nsIn K mainGlobals e.2.1 with
    | some (some u) => tB K e.2.2 u
    | _ => false) && (Xs.all fun e => xcB K e.2 && (match Xf.lookup e.1 with
    | none => PySem.W.excIn K (He.ga K e.2) He.veBase "ValueError.__new__" && bsB K e.2
    | some fl => oxB K e.2 fl)) && Xs.all fun e => Xs.all fun e' => xxB K e.2 e'.2 (cx e.1 e'.1)
theorem lookup_mem {α : Type} {f : Nat} {a : α} : ∀ {l : List (Nat × α)}, l.lookup f = some a → (f, a) ∈ l
  | [], h => by cases h
  | (g, b) :: l, h => by
    rw [List.lookup_cons] at h
    split at h
    · rename_i e
      have e' := eq_of_beq e
      subst e'
      cases h
      exact List.mem_cons_self ..
    · exact List.mem_cons_of_mem _ (lookup_mem h)
section
variable {Fs : List (Nat × Str × FnD)} {Cs : List (Nat × Str × PV)} {Xs Xf : List (Nat × Str)} {cx : Nat → Nat → Bool} {wf : Nat} {K : PySem.W.Frag} {mg : Str → Option Value} {h : Heap}
theorem ws_of (X : K.In h) (G : h.Ns mainGlobals mg) (hf : ∀ e ∈ Fs, FS (tbL Fs Cs Xs Xf cx wf) K mg e.2.1 e.2.2 ∨ FH (tbL Fs Cs Xs Xf cx wf) K mg e.2.1 e.1 e.2.2) (hx : ∀ e ∈ Xf, ∀ x, Xs.lookup e.1 = some x → IniOk K mg (He.ga K x) e.2) (hm : moreB Cs Xs Xf cx K = true) : WS (tbL Fs Cs Xs Xf cx wf) K mg := by
  unfold moreB at hm
  simp only [Bool.and_eq_true] at hm
  obtain ⟨⟨⟨m1, m2⟩, m3⟩, m4⟩ := hm
  have m3' : ∀ c x, Xs.lookup c = some x → xcB K x = true := fun c x h => by
    have z := List.all_eq_true.mp m3 _ (lookup_mem h)
    rw [Bool.and_eq_true] at z
    exact z.1
  refine ⟨fun f x d h1 h2 => ?_, fun i x p h1 h2 => ?_, fun x hx => ?_, fun c x h1 => ?_, fun c c' x x' Ca Cb h1 h2 h3 h4 => ?_, fun c x Ca h1 h2 h3 => ?_, fun c x fl Ca h1 h2 h3 P w base => ?_⟩
  · have h1' : (Fs.lookup f).map (·.1) = some x := h1
    have h2' : (Fs.lookup f).map (·.2) = some d := h2
    cases e : Fs.lookup f with
    | none => rw [e] at h1'; cases h1'
    | some q =>
      rw [e] at h1' h2'
      cases h1'
      cases h2'
      exact hf _ (lookup_mem e)
  · have h1' : (Cs.lookup i).map (·.1) = some x := h1
    have h2' : (Cs.lookup i).map (·.2) = some p := h2
    cases e : Cs.lookup i with
    | none => rw [e] at h1'; cases h1'
    | some q =>
      rw [e] at h1' h2'
      cases h1'
      cases h2'
      have z := List.all_eq_true.mp m2 _ (lookup_mem e)
      simp only at z
      split at z
      · rename_i u hu
        obtain ⟨v, r1, r2⟩ := tB_ok z
        exact ⟨v, u, PySem.W.mg_of X G hu, r1, r2⟩
      · cases z
  · exact He.free_ok X G (List.all_eq_true.mp m1 x hx)
  · obtain ⟨g, xc⟩ := xcB_ok (m3' _ _ h1)
    exact ⟨_, He.glo_ok X G g, xc⟩
  · obtain ⟨g1, _⟩ := xcB_ok (m3' _ _ h1)
    obtain ⟨g2, _⟩ := xcB_ok (m3' _ _ h2)
    have e1 := h3.symm.trans (He.glo_ok X G g1)
    have e2 := h4.symm.trans (He.glo_ok X G g2)
    cases e1
    cases e2
    have z := List.all_eq_true.mp (List.all_eq_true.mp m4 _ (lookup_mem h1)) _ (lookup_mem h2)
    have z' : (decide _ && decide _) = true := z
    rw [Bool.and_eq_true] at z'
    exact ⟨of_decide_eq_true z'.1, of_decide_eq_true z'.2⟩
  · have z := List.all_eq_true.mp m3 _ (lookup_mem h1)
    rw [Bool.and_eq_true] at z
    obtain ⟨g, xc⟩ := xcB_ok z.1
    have e1 := h3.symm.trans (He.glo_ok X G g)
    cases e1
    have z2 := z.2
    have h2' : Xf.lookup c = none := h2
    simp only [h2', Bool.and_eq_true] at z2
    exact z2.1
  · have z := List.all_eq_true.mp m3 _ (lookup_mem h1)
    rw [Bool.and_eq_true] at z
    obtain ⟨g, xc⟩ := xcB_ok z.1
    have e1 := h3.symm.trans (He.glo_ok X G g)
    cases e1
    have z2 := z.2
    have h2' : Xf.lookup c = some fl := h2
    simp only [h2'] at z2
    obtain ⟨o1, o2, o3⟩ := oxB_ok z2 xc
    obtain ⟨fI, fd, ps, i1, i2, i3, i4⟩ := hx _ (lookup_mem h2') x h1
    exact ⟨o1, o2, o3, fI, fd, ps, i1, i2, i3, i4 P w base o1 o3⟩
theorem more_bs (hm : moreB Cs Xs Xf cx K = true) {c : Nat} {x : Str} (h1 : Xs.lookup c = some x) (h2 : Xf.lookup c = none) : bsB K x = true ∧ (He.Fa.glo x).ok K = true := by
  unfold moreB at hm
  simp only [Bool.and_eq_true] at hm
  obtain ⟨⟨⟨m1, m2⟩, m3⟩, m4⟩ := hm
  have z := List.all_eq_true.mp m3 _ (lookup_mem h1)
  rw [Bool.and_eq_true] at z
  have z2 := z.2
  simp only [h2, Bool.and_eq_true] at z2
  exact ⟨z2.2, (xcB_ok z.1).1⟩
end
/-- the eye on the top -/
def obsZ (m : Nat) (fa : List He.Fa) (fn : List He.DefD) (more : PySem.W.Frag → Bool) (g : Addr → Option Obj) : Bool × He.AlD := (more (He.frG g (He.asD g m ++ [cStatics])), He.obsD fa fn (He.frG g (He.asD g m ++ [cStatics])))
def hookZ (m : Nat) (fa : List He.Fa) (fn : List He.DefD) (more : PySem.W.Frag → Bool) : PySem.W.Hook where
  α := Bool × He.AlD
  obs := fun s => obsZ m fa fn more s.heap.get?
  val := fun _ => (true, He.valD fn)
  says := fun _ h => ∃ K : PySem.W.Frag, K.In h ∧ more K = true ∧ He.SaysD fa fn K
  of := fun _ s e => ⟨_, He.frG_in, congrArg (fun z : Bool × He.AlD => z.1) e, congrArg (fun z : Bool × He.AlD => z.2) e⟩
  keeps := fun _ _ _ q k => by
    obtain ⟨K, hK, c⟩ := q
    exact ⟨K, PySem.W.Frag.In.keeps hK k, c⟩
theorem obsZ_eq {m : Nat} {fa : List He.Fa} {fn : List He.DefD} {more : PySem.W.Frag → Bool} {g : Addr → Option Obj} {s : Shared} (h : ∀ a, g a = s.heap.get? a) : obsZ m fa fn more g = (hookZ m fa fn more).obs s := by
  have e : g = s.heap.get? := funext h
  rw [e]
  rfl
/-- what each way of the world may let out -/
def CXA (P : Program) : CXT := fun o H s E u s' => ∃ w, CX P w o H s E u s'
theorem fn_any {P : Program} {w : World} {K : PySem.W.Frag} {mg : Str → Option Value} {base : Heap} {k : Nat} {f : Addr} {fd : FuncData} {ps : List Str} {sp : Sp} (F : FnOk P w K mg base (CX P w) k f fd ps sp) : FnOk P w K mg base (CXA P) k f fd ps sp :=
  ⟨F.len, fun A outer s H args us vs Q E hr he hb hv hs => codeAny_mono (F.run A outer s H args us vs Q E hr he hb hv hs) fun r s' c => by
    cases r with
    | ok v => cases v <;> exact c
    | error e => exact ⟨w, c⟩⟩
theorem cxa_no {P : Program} (H : Hp) (s : Shared) (e : Value) (s' : Shared) (h : CXA P [] H s (fun _ _ _ => False) e s') : False := by
  obtain ⟨w, a, B, H', cls, d, _, _, _, _, _, _, _, z⟩ := h
  exact z
section
variable {B : Tb} {K : PySem.W.Frag} {mg : Str → Option Value} {h : Heap} {fa : List He.Fa} {fn : List He.DefD}
/-- one def of the text -/
theorem fs_of (X : K.In h) (G : h.Ns mainGlobals mg) (c : He.SaysD fa fn K) {x nm qual : Str} {d : FnD} {ps N : List Str} {params : Arguments} {body : List Stmt} {scope : Scope} (i j : Nat) (hi : fa[i]? = some (.glo x)) (hj : fn[j]? = some ⟨(x, none), nm, qual, params, body, scope, [], []⟩)
    (S : FnScope N ps scope) (hb : ∀ (kV doc pm : Value) (an : Option Addr) (cdv ct : Value) (us : List Value), us.length = ps.length → bindArgs (PySem.W.fnOf nm qual params body scope .none kV doc pm an cdv ct) ⟨us, []⟩ = pure (ps.zip us))
    (hp : ps.length = d.np) (hN : N.length = d.ns) (hc : (cks B N d.body).b scope body = true) : FS B K mg x d := by
  obtain ⟨fd, F⟩ := c.def_ j hj
  exact ⟨_, fd, ps, N, nm, qual, params, body, scope, He.glo_ok X G (c.fact i hi), F, S, F.bindsN hb, hp, hN, hc⟩
/-- the law's own def -/
theorem law_of {P : Program} {w : World} {n f : Nat} {fl : Addr} (X : K.In h) (G : h.Ns mainGlobals mg) (c : He.SaysD fa fn K) {nm qual : Str} {d : FnD} {N : List Str} {params : Arguments} {body : List Stmt} {scope : Scope} (i j : Nat) (hi : fa[i]? = some (.glo ("law" : Str))) (hj : fn[j]? = some ⟨("law", none), nm, qual, params, body, scope, [], []⟩)
    (Sc : FnScope N ["script"] scope) (hb : ∀ (kV doc pm : Value) (an : Option Addr) (cdv ct : Value) (us : List Value), us.length = 1 → bindArgs (PySem.W.fnOf nm qual params body scope .none kV doc pm an cdv ct) ⟨us, []⟩ = pure ([("script" : Str)].zip us))
    (hp : d.np = 1) (hN : N.length = d.ns) (hc : (cks B N d.body).b scope body = true) (S : WS B K mg) (h2 : B.TT f = some d) (hm : mg ("law" : Str) = some (.ref fl)) :
    ∃ fd : FuncData, (∀ (s : Shared) (u : Value), BindsTo s fd ⟨[u], []⟩ [("script", u)]) ∧ ∀ base : Heap, FnOk P w K mg base (CXA P) (3 * (n + 1) + 5) fl fd ["script"] (spF B K (XIs B K mg) (n + 1) f 1) := by
  obtain ⟨fd, F⟩ := c.def_ j hj
  have e := hm.symm.trans (He.glo_ok X G (c.fact i hi))
  cases e
  refine ⟨fd, fun s u => F.bindsA (ps := ["script"]) hb s [u] rfl, fun base => ?_⟩
  have z := fn_any (fn_ok (wo_all (P := P) (w := w) (base := base) S n) F Sc (d := d) (by rw [hp]; rfl) hN h2 hc)
  rw [hp] at z
  exact z
end
end Z
end
section
/-! ### reckoning with the small language -/
namespace Z
open L2 (ixN atI)
/-- told by a proof, not by the machine -/
theorem rf {α : Sort u} {a b : α} (h : a = b) : a = b := h
section
variable {φ : Fns} {κ : Cons} {cx : Nat → Nat → Bool} {wf : Nat} {ρ : List Slot}
@[simp] theorem rb_ok {α β : Type} (a : α) (f : α → Res β) : (Res.ok a).bind f = f a := rf rfl
@[simp] theorem rb_exc {α β : Type} (c : Nat) (p : Option PV) (f : α → Res β) : (Res.exc c p : Res α).bind f = .exc c p := rf rfl
@[simp] theorem rb_bad {α β : Type} (f : α → Res β) : (Res.bad : Res α).bind f = .bad := rf rfl
@[simp] theorem lf_ok {α : Type} (a : α) (f : α → Out) : lift (.ok a) ρ f = f a := rf rfl
@[simp] theorem lf_exc {α : Type} (c : Nat) (p : Option PV) (f : α → Out) : lift (.exc c p : Res α) ρ f = .exc c p ρ := rf rfl
@[simp] theorem lf_bad {α : Type} (f : α → Out) : lift (.bad : Res α) ρ f = .bad := rf rfl
@[simp] theorem fin_ret (r : RV) : fin (.ret r) = .ok r := rf rfl
@[simp] theorem fin_nx : fin (.nx ρ) = .ok (.shr .non) := rf rfl
@[simp] theorem fin_exc (c : Nat) (p : Option PV) : fin (.exc c p ρ) = .exc c p := rf rfl
@[simp] theorem rv_shr (p : PV) : rvR (.shr p) = .ok p := rf rfl
@[simp] theorem rv_own (xs : List PV) : rvR (.own xs) = .ok (.lst xs) := rf rfl
@[simp] theorem lo_lst (xs : List PV) : lstOf (.lst xs) = .ok xs := rf rfl
def getV : Option Slot → Res PV
  | some (.shr p) => .ok p
  | _ => .bad
def getR : Option Slot → Res PV
  | some (.shr p) => .ok p
  | some (.own xs) => .ok (.lst xs)
  | some (.owd ks vs) => .ok (.dct ks vs)
  | _ => .bad
def getD2 : Option Slot → Res (List PV × List PV)
  | some (.owd ks vs) => .ok (ks, vs)
  | _ => .bad
def getO : Option Slot → Res (List PV)
  | some (.own xs) => .ok xs
  | _ => .bad
def getC : Option PV → Res PV
  | some p => .ok p
  | none => .bad
@[simp] theorem getV_shr (p : PV) : getV (some (.shr p)) = .ok p := rf rfl
@[simp] theorem getR_shr (p : PV) : getR (some (.shr p)) = .ok p := rf rfl
@[simp] theorem getR_own (p : List PV) : getR (some (.own p)) = .ok (.lst p) := rf rfl
@[simp] theorem getR_owd (ks vs : List PV) : getR (some (.owd ks vs)) = .ok (.dct ks vs) := rf rfl
@[simp] theorem getD2_owd (ks vs : List PV) : getD2 (some (.owd ks vs)) = .ok (ks, vs) := rf rfl
@[simp] theorem getO_own (p : List PV) : getO (some (.own p)) = .ok p := rf rfl
@[simp] theorem getC_some (p : PV) : getC (some p) = .ok p := rf rfl
@[simp] theorem ev_v (i : Nat) : ev φ κ (.v i) ρ = getV ρ[i]? := by
  show (match ρ[i]? with | some (.shr p) => Res.ok p | _ => .bad) = _
  unfold getV
  rfl
@[simp] theorem ev_rd (i : Nat) : ev φ κ (.rd i) ρ = getR ρ[i]? := by
  show (match ρ[i]? with | some (.shr p) => Res.ok p | some (.own xs) => .ok (.lst xs) | some (.owd ks vs) => .ok (.dct ks vs) | _ => .bad) = _
  unfold getR
  rfl
@[simp] theorem ownAt_eq (i : Nat) : ownAt ρ i = getO ρ[i]? := by
  show (match ρ[i]? with | some (.own xs) => Res.ok xs | _ => .bad) = _
  unfold getO
  rfl
@[simp] theorem ev_k (p : PV) : ev φ κ (.k p) ρ = .ok p := rf rfl
@[simp] theorem ev_g (i : Nat) : ev φ κ (.g i) ρ = getC (κ i) := by
  show (match κ i with | some p => Res.ok p | none => .bad) = _
  unfold getC
  rfl
variable (a b c d e es lo hi tg it cn el s ss body suite : C) (i f cls : Nat)
@[simp] theorem ev_bin (op : Bop) : ev φ κ (.bin op a b) ρ = (ev φ κ a ρ).bind fun x => (ev φ κ b ρ).bind fun y => binP op x y := rf rfl
def negP : PV → Res PV
  | .int i => .ok (.int (-i))
  | _ => .bad
@[simp] theorem negP_int (i : Int) : negP (.int i) = .ok (.int (-i)) := rf rfl
@[simp] theorem ev_neg : ev φ κ (.neg a) ρ = (ev φ κ a ρ).bind negP := by
  show ((ev φ κ a ρ).bind fun x => match x with | .int i => Res.ok (PV.int (-i)) | _ => .bad) = _
  congr 1
@[simp] theorem ev_nt : ev φ κ (.nt a) ρ = (ev φ κ a ρ).bind fun x => (truP x).bind fun t => .ok (.bl (!t)) := rf rfl
@[simp] theorem ev_cmp (op : Cop) : ev φ κ (.cmp op a b) ρ = (ev φ κ a ρ).bind fun x => (ev φ κ b ρ).bind fun y => cmpP op x y := rf rfl
def chnP (r : PV) (k : Unit → Res PV) : Res PV := match r with
  | .bl true => k ()
  | .bl false => .ok (.bl false)
  | _ => .bad
@[simp] theorem chnP_bl (t : Bool) (k : Unit → Res PV) : chnP (.bl t) k = if t then k () else .ok (.bl false) := by cases t <;> rfl
@[simp] theorem ev_chn (op op' : Cop) : ev φ κ (.chn op op' a b c) ρ = (ev φ κ a ρ).bind fun x => (ev φ κ b ρ).bind fun y => (cmpP op x y).bind fun r => chnP r fun _ => (ev φ κ c ρ).bind fun z => cmpP op' y z := by
  show ((ev φ κ a ρ).bind fun x => (ev φ κ b ρ).bind fun y => (cmpP op x y).bind fun r => match r with
    | .bl true => (ev φ κ c ρ).bind fun z => cmpP op' y z
    | .bl false => .ok (.bl false)
    | _ => .bad) = _
  congr 1
@[simp] theorem ev_an : ev φ κ (.an a b) ρ = (ev φ κ a ρ).bind fun x => (truP x).bind fun t => if t then ev φ κ b ρ else .ok x := rf rfl
@[simp] theorem ev_or : ev φ κ (.or a b) ρ = (ev φ κ a ρ).bind fun x => (truP x).bind fun t => if t then .ok x else ev φ κ b ρ := rf rfl
@[simp] theorem ev_ife : ev φ κ (.ife c a b) ρ = (ev φ κ c ρ).bind fun x => (truP x).bind fun t => if t then ev φ κ a ρ else ev φ κ b ρ := rf rfl
@[simp] theorem ev_tup : ev φ κ (.tup es) ρ = (ev φ κ es ρ).bind fun l => (lstOf l).bind fun xs => .ok (.tup xs) := rf rfl
@[simp] theorem ev_dsp : ev φ κ (.dsp es) ρ = (ev φ κ es ρ).bind fun l => (lstOf l).bind fun xs => .ok (.lst xs) := rf rfl
@[simp] theorem ev_nil : ev φ κ .nil ρ = .ok (.lst []) := rf rfl
@[simp] theorem ev_cons : ev φ κ (.cons a b) ρ = (ev φ κ a ρ).bind fun x => (ev φ κ b ρ).bind fun l => (lstOf l).bind fun xs => .ok (.lst (x :: xs)) := rf rfl
@[simp] theorem ev_ix : ev φ κ (.ix a b) ρ = (ev φ κ a ρ).bind fun x => (ev φ κ b ρ).bind fun y => ixP x y := rf rfl
@[simp] theorem ev_sl : ev φ κ (.sl a lo hi) ρ = (ev φ κ a ρ).bind fun x => (partC lo (ev φ κ lo ρ)).bind fun l => (partC hi (ev φ κ hi ρ)).bind fun h => slV x l h := rf rfl
@[simp] theorem part_nop (r : Res PV) : partC .nop r = .ok none := rf rfl
@[simp] theorem part_k (p : PV) (r : Res PV) : partC (.k p) r = r.bind intP := rf rfl
@[simp] theorem part_v (i : Nat) (r : Res PV) : partC (.v i) r = r.bind intP := rf rfl
@[simp] theorem part_bin (op : Bop) (r : Res PV) : partC (.bin op a b) r = r.bind intP := rf rfl
@[simp] theorem part_neg (r : Res PV) : partC (.neg a) r = r.bind intP := rf rfl
@[simp] theorem intP_int (i : Int) : intP (.int i) = .ok (some i) := rf rfl
@[simp] theorem ev_tl : ev φ κ (.tl a) ρ = (ev φ κ a ρ).bind tlP := rf rfl
@[simp] theorem tlP_tup (xs : List PV) : tlP (.tup xs) = .ok (.tup xs.tail.reverse) := rf rfl
@[simp] theorem ev_mt (m : Mt) : ev φ κ (.mt m a b) ρ = (ev φ κ a ρ).bind fun x => (strR x).bind fun x => (ev φ κ b ρ).bind fun y => mtP m x y := rf rfl
@[simp] theorem ev_pick (kvs : List (Int × List Nat)) : ev φ κ (.pick kvs e) ρ = (ev φ κ e ρ).bind fun x => pickP kvs x := rf rfl
@[simp] theorem strR_str (x : List Nat) : strR (.str x) = .ok (.str x) := rf rfl
@[simp] theorem ev_call : ev φ κ (.call f es) ρ = (ev φ κ es ρ).bind fun l => (lstOf l).bind fun xs => (φ f xs).bind rvR := rf rfl
@[simp] theorem ev_bi (t : Bi) : ev φ κ (.bi t es) ρ = (ev φ κ es ρ).bind fun l => (lstOf l).bind fun xs => biP t xs := rf rfl
@[simp] theorem ev_isi (t : Ty) : ev φ κ (.isi t e) ρ = (ev φ κ e ρ).bind fun x => .ok (.bl (isiP t x)) := rf rfl
def stepC (φ : Fns) (κ : Cons) (vs : List Nat) (tg cn el : C) (ρ : List Slot) (x : PV) : Res (Option PV) := (asgP tg x (wipeS ρ vs)).bind fun ρ' => (ev φ κ cn ρ').bind fun c => (truP c).bind fun t => if t then (ev φ κ el ρ').bind fun y => .ok (some y) else .ok none
@[simp] theorem ev_comp (vs : List Nat) : ev φ κ (.comp vs tg it cn el) ρ = (ev φ κ it ρ).bind fun l => (lstOf l).bind fun xs => (compL (stepC φ κ vs tg cn el ρ) xs).bind fun ys => .ok (.lst ys) := rf rfl
@[simp] theorem owdAt_eq (i : Nat) : owdAt ρ i = getD2 ρ[i]? := by
  show (match ρ[i]? with | some (.owd ks vs) => Res.ok (ks, vs) | _ => .bad) = _
  unfold getD2
  rfl
@[simp] theorem dctOf_dct (ks vs : List PV) : dctOf (.dct ks vs) = .ok (ks, vs) := rf rfl
@[simp] theorem dctR_dct (ks vs : List PV) : dctR (.dct ks vs) = .ok (.dct ks vs) := rf rfl
@[simp] theorem ev_dk (kvs : List (PV × PV)) : ev φ κ (.dk kvs) ρ = .ok (.dct (kvs.map fun x => x.1) (kvs.map fun x => x.2)) := rf rfl
@[simp] theorem ev_get2 : ev φ κ (.get2 a b c) ρ = (ev φ κ a ρ).bind fun x => (dctR x).bind fun x => (ev φ κ b ρ).bind fun y => (ev φ κ c ρ).bind fun z => get2P x y z := rf rfl
def getS (f : PySem.Str) : Option Slot → Res PV
  | some (.self _ ns fs) => fldL f ns fs
  | _ => .bad
@[simp] theorem getS_self (x : PySem.Str) (a : Nat) (ns : List PySem.Str) (fs : List PV) : getS x (some (.self a ns fs)) = fldL x ns fs := rf rfl
@[simp] theorem ev_sf (x : PySem.Str) : ev φ κ (.sf i x) ρ = getS x ρ[i]? := by
  show (match ρ[i]? with | some (.self _ ns fs) => fldL x ns fs | _ => Res.bad) = _
  unfold getS
  rfl
@[simp] theorem ev_cfl (x : PySem.Str) : ev φ κ (.cfl f x es) ρ = (ev φ κ es ρ).bind fun l => (lstOf l).bind fun xs => (φ f xs).bind fun r => rvF x r := rf rfl
@[simp] theorem ev_unp : ev φ κ (.unp a) ρ = (ev φ κ a ρ).bind unpP := rf rfl
@[simp] theorem unp_ptp (xs : List PV) : unpP (.ptp xs) = .ok (.tup xs) := rf rfl
@[simp] theorem unp_tup (xs : List PV) : unpP (.tup xs) = .ok (.tup xs) := rf rfl
@[simp] theorem ev_zip3 : ev φ κ (.zip3 a b c) ρ = (ev φ κ a ρ).bind fun x => (ev φ κ b ρ).bind fun y => (ev φ κ c ρ).bind fun z => zip3P x y z := rf rfl
@[simp] theorem ev_lset : ev φ κ (.lset a) ρ = (ev φ κ a ρ).bind lsetP := rf rfl
@[simp] theorem ev_sset' : ev φ κ (.sset' a) ρ = (ev φ κ a ρ).bind ssetP := rf rfl
@[simp] theorem ev_lr1 : ev φ κ (.lr1 a) ρ = (ev φ κ a ρ).bind fun x => rngP (.int 0) x := rf rfl
@[simp] theorem ev_lr2 : ev φ κ (.lr2 a b) ρ = (ev φ κ a ρ).bind fun x => (ev φ κ b ρ).bind fun y => rngP x y := rf rfl
@[simp] theorem ev_lsc (vs : List Nat) : ev φ κ (.lsc vs tg it cn el) ρ = (ev φ κ it ρ).bind fun l => (lstOf l).bind fun xs => (compL (stepC φ κ vs tg cn el ρ) xs).bind fun ys => lsetP (.lst ys) := rf rfl
@[simp] theorem ev_seq : ev φ κ (.seq e) ρ = (ev φ κ e ρ).bind itemsP := rf rfl
@[simp] theorem ev_rng1 : ev φ κ (.rng1 a) ρ = (ev φ κ a ρ).bind fun x => rngP (.int 0) x := rf rfl
@[simp] theorem ev_rng2 : ev φ κ (.rng2 a b) ρ = (ev φ κ a ρ).bind fun x => (ev φ κ b ρ).bind fun y => rngP x y := rf rfl
@[simp] theorem ev_rng3 : ev φ κ (.rng3 a b c) ρ = (ev φ κ a ρ).bind fun x => (ev φ κ b ρ).bind fun y => (ev φ κ c ρ).bind fun z => rng3P x y z := rf rfl
@[simp] theorem ev_enu : ev φ κ (.enu e) ρ = (ev φ κ e ρ).bind enuP := rf rfl
@[simp] theorem ev_zip : ev φ κ (.zip a b) ρ = (ev φ κ a ρ).bind fun x => (ev φ κ b ρ).bind fun y => zipP x y := rf rfl
@[simp] theorem it_tup (xs : List PV) : itemsP (.tup xs) = .ok (.lst xs) := rf rfl
@[simp] theorem it_lst (xs : List PV) : itemsP (.lst xs) = .ok (.lst xs) := rf rfl
@[simp] theorem it_str (x : List Nat) : itemsP (.str x) = .ok (.lst (x.map fun c => .str [c])) := rf rfl
/-! statements -/
@[simp] theorem es_set : evS φ κ cx wf (.sset i e) ρ = lift (ev φ κ e ρ) ρ fun p => .nx (ρ.set i (.shr p)) := rf rfl
def ownR (i : Nat) (ρ : List Slot) : RV → Out
  | .own ys => .nx (ρ.set i (.own ys))
  | _ => .bad
@[simp] theorem ownR_own (ys : List PV) : ownR i ρ (.own ys) = .nx (ρ.set i (.own ys)) := rf rfl
@[simp] theorem es_ownc : evS φ κ cx wf (.sown i (.call f es)) ρ = lift ((ev φ κ es ρ).bind lstOf) ρ fun xs => lift (φ f xs) ρ (ownR i ρ) := by
  show (lift ((ev φ κ es ρ).bind lstOf) ρ fun xs => lift (φ f xs) ρ fun r => match r with
    | .own ys => .nx (ρ.set i (.own ys))
    | _ => .bad) = _
  congr 1
@[simp] theorem es_ownd : evS φ κ cx wf (.sown i (.dsp es)) ρ = lift ((ev φ κ (.dsp es) ρ).bind lstOf) ρ fun xs => .nx (ρ.set i (.own xs)) := rf rfl
@[simp] theorem es_ownl (vs : List Nat) : evS φ κ cx wf (.sown i (.comp vs tg it cn el)) ρ = lift ((ev φ κ (.comp vs tg it cn el) ρ).bind lstOf) ρ fun xs => .nx (ρ.set i (.own xs)) := rf rfl
@[simp] theorem es_ownb (op : Bop) : evS φ κ cx wf (.sown i (.bin op a b)) ρ = lift ((ev φ κ (.bin op a b) ρ).bind lstOf) ρ fun xs => .nx (ρ.set i (.own xs)) := rf rfl
@[simp] theorem es_owns : evS φ κ cx wf (.sown i (.sl a lo hi)) ρ = lift ((ev φ κ (.sl a lo hi) ρ).bind lstOf) ρ fun xs => .nx (ρ.set i (.own xs)) := rf rfl
@[simp] theorem es_owni (t : Bi) : evS φ κ cx wf (.sown i (.bi t es)) ρ = lift ((ev φ κ (.bi t es) ρ).bind lstOf) ρ fun xs => .nx (ρ.set i (.own xs)) := rf rfl
@[simp] theorem es_ownif : evS φ κ cx wf (.sown i (.ife c a b)) ρ = lift ((ev φ κ (.ife c a b) ρ).bind lstOf) ρ fun xs => .nx (ρ.set i (.own xs)) := rf rfl
@[simp] theorem es_sownd : evS φ κ cx wf (.sownd i e) ρ = lift ((ev φ κ e ρ).bind dctOf) ρ fun kv => .nx (ρ.set i (.owd kv.1 kv.2)) := rf rfl
@[simp] theorem es_sdput : evS φ κ cx wf (.sdput i a e) ρ = lift (ev φ κ e ρ) ρ fun p => lift (owdAt ρ i) ρ fun kv => lift (ev φ κ a ρ) ρ fun q => if keyB q && fits (kv.1.length + 1) then .nx (ρ.set i (.owd (kputP kv.1 q) (dputP kv.1 kv.2 q p))) else .bad := rf rfl
@[simp] theorem es_asg : evS φ κ cx wf (.sasg tg e) ρ = lift (ev φ κ e ρ) ρ fun p => lift (asgP tg p ρ) ρ fun ρ' => .nx ρ' := rf rfl
@[simp] theorem es_app : evS φ κ cx wf (.sapp i e) ρ = lift (ownAt ρ i) ρ fun xs => lift (ev φ κ e ρ) ρ fun p => if fits (xs.length + 1) then .nx (ρ.set i (.own (xs ++ [p]))) else .bad := rf rfl
@[simp] theorem es_ext : evS φ κ cx wf (.sext i e) ρ = lift (ownAt ρ i) ρ fun xs => lift ((ev φ κ e ρ).bind lstOf) ρ fun ys => if fits (xs.length + ys.length) then .nx (ρ.set i (.own (xs ++ ys))) else .bad := rf rfl
def putP (i : Nat) (ρ : List Slot) (xs : List PV) (p : PV) : PV → Out
  | .int n => (match ixN xs.length n with | some m => .nx (ρ.set i (.own (xs.set m p))) | none => .bad)
  | _ => .bad
@[simp] theorem es_put : evS φ κ cx wf (.sput i a e) ρ = lift (ev φ κ e ρ) ρ fun p => lift (ownAt ρ i) ρ fun xs => lift (ev φ κ a ρ) ρ (putP i ρ xs p) := by
  show (lift (ev φ κ e ρ) ρ fun p => lift (ownAt ρ i) ρ fun xs => lift (ev φ κ a ρ) ρ fun j => match j with
    | .int n => (match ixN xs.length n with | some m => .nx (ρ.set i (.own (xs.set m p))) | none => .bad)
    | _ => .bad) = _
  congr 1
@[simp] theorem es_aux (op : Bop) : evS φ κ cx wf (.saux i a op e) ρ = lift (ownAt ρ i) ρ fun xs => lift (ev φ κ a ρ) ρ fun j => lift (ixP (.lst xs) j) ρ fun x => lift (ev φ κ e ρ) ρ fun y => lift (augP op x y) ρ fun p => putP i ρ xs p j := by
  show (lift (ownAt ρ i) ρ fun xs => lift (ev φ κ a ρ) ρ fun j => lift (ixP (.lst xs) j) ρ fun x => lift (ev φ κ e ρ) ρ fun y => lift (augP op x y) ρ fun p => match j with
    | .int n => (match ixN xs.length n with | some m => .nx (ρ.set i (.own (xs.set m p))) | none => .bad)
    | _ => .bad) = _
  congr 1
@[simp] theorem es_aug (op : Bop) : evS φ κ cx wf (.saug i op e) ρ = lift (ev φ κ (.v i) ρ) ρ fun x => lift (ev φ κ e ρ) ρ fun y => lift (augP op x y) ρ fun p => .nx (ρ.set i (.shr p)) := rf rfl
@[simp] theorem es_exp : evS φ κ cx wf (.sexp e) ρ = lift (ev φ κ e ρ) ρ fun _ => .nx ρ := rf rfl
@[simp] theorem es_if : evS φ κ cx wf (.sif c a b) ρ = lift ((ev φ κ c ρ).bind truP) ρ fun t => if t then evS φ κ cx wf a ρ else evS φ κ cx wf b ρ := rf rfl
def stepF (φ : Fns) (κ : Cons) (cx : Nat → Nat → Bool) (wf : Nat) (tg body : C) (x : PV) (ρ : List Slot) : Out := lift (asgP tg x ρ) ρ fun ρ'' => evS φ κ cx wf body ρ''
@[simp] theorem es_for : evS φ κ cx wf (.sfor tg it body) ρ = lift ((ev φ κ it ρ).bind lstOf) ρ fun xs => forL (stepF φ κ cx wf tg body) xs ρ := rf rfl
@[simp] theorem es_wh : evS φ κ cx wf (.swh c body) ρ = whL (fun ρ' => (ev φ κ c ρ').bind truP) (fun ρ' => evS φ κ cx wf body ρ') wf ρ := rf rfl
@[simp] theorem es_ret : evS φ κ cx wf (.sret e) ρ = lift (ev φ κ e ρ) ρ fun p => .ret (.shr p) := rf rfl
@[simp] theorem es_reo : evS φ κ cx wf (.sreo i) ρ = lift (ownAt ρ i) ρ fun xs => .ret (.own xs) := rf rfl
@[simp] theorem es_ref : evS φ κ cx wf (.sref e) ρ = lift ((ev φ κ e ρ).bind lstOf) ρ fun xs => .ret (.own xs) := rf rfl
@[simp] theorem es_rai : evS φ κ cx wf (.srai i .nil) ρ = .exc i none ρ := rf rfl
def tryP (cx : Nat → Nat → Bool) (hs : C) : Out → Out
  | .exc c p ρ' => handX cx c p hs ρ'
  | o => o
@[simp] theorem tryP_exc (hs : C) (j : Nat) (p : Option PV) : tryP cx hs (.exc j p ρ) = handX cx j p hs ρ := rf rfl
@[simp] theorem tryP_nx (hs : C) : tryP cx hs (.nx ρ) = .nx ρ := rf rfl
@[simp] theorem tryP_ret (hs : C) (r : RV) : tryP cx hs (.ret r) = .ret r := rf rfl
@[simp] theorem hand_hn (j : Nat) (p : Option PV) : handX cx j p .hn ρ = .exc j p ρ := rf rfl
@[simp] theorem hand_hc (j : Nat) (p : Option PV) (oi : Option Nat) (r : C) : handX cx j p (.hc cls oi s r) ρ = if cx j cls then suiteX cx j p oi s ρ else handX cx j p r ρ := rf rfl
@[simp] theorem suX (j : Nat) (p : Option PV) (oi : Option Nat) : suiteX cx j p oi s ρ = if okI' oi ρ.length then suite0 cx j p oi s ρ else .bad := rf rfl
@[simp] theorem okI_n (m : Nat) : okI' none m = true := rf rfl
@[simp] theorem okI_s (m k : Nat) : okI' (some k) m = Nat.blt k m := rf rfl
@[simp] theorem es_try (hs : C) : evS φ κ cx wf (.stry body hs) ρ = tryP cx hs (evS φ κ cx wf body ρ) := by
  show (match evS φ κ cx wf body ρ with
    | .exc c p ρ' => handX cx c p hs ρ'
    | o => o) = _
  cases evS φ κ cx wf body ρ <;> rfl
def popP (i : Nat) (ρ : List Slot) (xs : List PV) : PV → Out
  | .int n => (match ixN xs.length n with | some m => if smallI n then .nx (ρ.set i (.own (xs.eraseIdx m))) else .bad | none => .bad)
  | _ => .bad
@[simp] theorem es_pop : evS φ κ cx wf (.spop i e) ρ = lift (ownAt ρ i) ρ fun xs => lift (ev φ κ e ρ) ρ (popP i ρ xs) := by
  show (lift (ownAt ρ i) ρ fun xs => lift (ev φ κ e ρ) ρ fun j => match j with
    | .int n => (match ixN xs.length n with | some m => if smallI n then .nx (ρ.set i (.own (xs.eraseIdx m))) else .bad | none => .bad)
    | _ => .bad) = _
  congr 1
def frzP (i : Nat) (ρ : List Slot) : Option Slot → Out
  | some (.own xs) => .nx (ρ.set i (.shr (.lst xs)))
  | some (.owd ks vs) => .nx (ρ.set i (.shr (.dct ks vs)))
  | some (.shr p) => .nx ρ
  | some (.ow2 xss) => .nx (ρ.set i (.shr (.lst (xss.map PV.lst))))
  | _ => .bad
def get2 : Option Slot → Res (List (List PV))
  | some (.ow2 xss) => .ok xss
  | _ => .bad
@[simp] theorem get2_ow2 (xss : List (List PV)) : get2 (some (.ow2 xss)) = .ok xss := rf rfl
@[simp] theorem ow2At_eq (i : Nat) : ow2At ρ i = get2 ρ[i]? := by
  show (match ρ[i]? with | some (.ow2 xs) => Res.ok xs | _ => .bad) = _
  unfold get2
  rfl
theorem es_sfd {v q p : PV} {xs ys : List PV} (h1 : ev φ κ a ρ = .ok v) (h2 : ρ[i]? = some (.own xs)) (h3 : xs.getLast? = some q) (h4 : ixP v q = .ok p) (h5 : ixP p (.int k) = .ok (.tup ys)) : evS φ κ cx wf (.sfd tg i a k body) ρ = forL (stepF φ κ cx wf tg body) ys (ρ.set i (.own xs.dropLast)) := by
  show (lift (ev φ κ a ρ) ρ fun v => lift (ownAt ρ i) ρ fun xs => match xs.getLast? with
    | none => .bad
    | some q => lift ((ixP v q).bind fun p => (ixP p (.int k)).bind tupOf) (ρ.set i (.own xs.dropLast)) fun ys => forL (fun x ρ' => lift (asgP tg x ρ') ρ' fun ρ'' => evS φ κ cx wf body ρ'') ys (ρ.set i (.own xs.dropLast))) = _
  have h2' : ownAt ρ i = .ok xs := by unfold ownAt; rw [h2]
  rw [h1, h2']
  show (match xs.getLast? with
    | none => Out.bad
    | some q => lift ((ixP v q).bind fun p => (ixP p (.int k)).bind tupOf) (ρ.set i (.own xs.dropLast)) fun ys => forL (fun x ρ' => lift (asgP tg x ρ') ρ' fun ρ'' => evS φ κ cx wf body ρ'') ys (ρ.set i (.own xs.dropLast))) = _
  rw [h3]
  show lift ((ixP v q).bind fun p => (ixP p (.int k)).bind tupOf) (ρ.set i (.own xs.dropLast)) _ = _
  rw [h4]
  show lift ((ixP p (.int k)).bind tupOf) (ρ.set i (.own xs.dropLast)) _ = _
  rw [h5]
  rfl
@[simp] theorem frz_ow2 (xss : List (List PV)) : frzP i ρ (some (.ow2 xss)) = .nx (ρ.set i (.shr (.lst (xss.map PV.lst)))) := rf rfl
@[simp] theorem frz_owd (ks vs : List PV) : frzP i ρ (some (.owd ks vs)) = .nx (ρ.set i (.shr (.dct ks vs))) := rf rfl
@[simp] theorem frz_own (xs : List PV) : frzP i ρ (some (.own xs)) = .nx (ρ.set i (.shr (.lst xs))) := rf rfl
@[simp] theorem frz_shr (p : PV) : frzP i ρ (some (.shr p)) = .nx ρ := rf rfl
@[simp] theorem es_frz : evS φ κ cx wf (.sfrz i) ρ = frzP i ρ ρ[i]? := by
  show (match ρ[i]? with
    | some (.own xs) => Out.nx (ρ.set i (.shr (.lst xs)))
    | some (.owd ks vs) => .nx (ρ.set i (.shr (.dct ks vs)))
    | some (.shr p) => .nx ρ
    | some (.ow2 xss) => .nx (ρ.set i (.shr (.lst (xss.map PV.lst))))
    | _ => .bad) = _
  unfold frzP
  rfl
@[simp] theorem es_brk : evS φ κ cx wf .sbrk ρ = .bk ρ := rf rfl
@[simp] theorem es_cnt : evS φ κ cx wf .scnt ρ = .ct ρ := rf rfl
@[simp] theorem es_nil : evS φ κ cx wf .snil ρ = .nx ρ := rf rfl
def seqP (o : Out) (k : List Slot → Out) : Out := match o with
  | .nx ρ' => k ρ'
  | o => o
@[simp] theorem seq_nx (k : List Slot → Out) : seqP (.nx ρ) k = k ρ := rf rfl
@[simp] theorem seq_ret (r : RV) (k : List Slot → Out) : seqP (.ret r) k = .ret r := rf rfl
@[simp] theorem seq_exc (j : Nat) (p : Option PV) (k : List Slot → Out) : seqP (.exc j p ρ) k = .exc j p ρ := rf rfl
@[simp] theorem seq_bk (k : List Slot → Out) : seqP (.bk ρ) k = .bk ρ := rf rfl
@[simp] theorem seq_ct (k : List Slot → Out) : seqP (.ct ρ) k = .ct ρ := rf rfl
@[simp] theorem seq_bad (k : List Slot → Out) : seqP .bad k = .bad := rf rfl
@[simp] theorem seq_ite (b : Bool) (o o' : Out) (k : List Slot → Out) : seqP (if b then o else o') k = if b then seqP o k else seqP o' k := by cases b <;> rfl
@[simp] theorem es_cons : evS φ κ cx wf (.scons s ss) ρ = seqP (evS φ κ cx wf s ρ) fun ρ' => evS φ κ cx wf ss ρ' := by
  show (match evS φ κ cx wf s ρ with
    | .nx ρ' => evS φ κ cx wf ss ρ'
    | o => o) = _
  cases evS φ κ cx wf s ρ <;> rfl
theorem seq_step {ρ' : List Slot} {R : Res RV} (h1 : evS φ κ cx wf s ρ = .nx ρ') (h2 : fin (evS φ κ cx wf ss ρ') = R) : fin (evS φ κ cx wf (.scons s ss) ρ) = R := by
  rw [es_cons, h1]
  exact h2
/-! loops -/
def nextP (o : Out) (k : List Slot → Out) : Out := match o with
  | .nx ρ' => k ρ'
  | .ct ρ' => k ρ'
  | .bk ρ' => .nx ρ'
  | o => o
@[simp] theorem next_nx (k : List Slot → Out) : nextP (.nx ρ) k = k ρ := rf rfl
@[simp] theorem next_ct (k : List Slot → Out) : nextP (.ct ρ) k = k ρ := rf rfl
@[simp] theorem next_bk (k : List Slot → Out) : nextP (.bk ρ) k = .nx ρ := rf rfl
@[simp] theorem next_ret (r : RV) (k : List Slot → Out) : nextP (.ret r) k = .ret r := rf rfl
@[simp] theorem next_exc (j : Nat) (p : Option PV) (k : List Slot → Out) : nextP (.exc j p ρ) k = .exc j p ρ := rf rfl
@[simp] theorem forL_nil (g : PV → List Slot → Out) : forL g [] ρ = .nx ρ := rf rfl
theorem forL_cons (g : PV → List Slot → Out) (x : PV) (xs : List PV) : forL g (x :: xs) ρ = nextP (g x ρ) (forL g xs) := by
  show (match g x ρ with
    | .nx ρ' => forL g xs ρ'
    | .ct ρ' => forL g xs ρ'
    | .bk ρ' => .nx ρ'
    | o => o) = _
  cases g x ρ <;> rfl
theorem compL_fm {g : PV → Res (Option PV)} {m : PV → Option PV} : ∀ {xs : List PV}, (∀ x ∈ xs, g x = .ok (m x)) → compL g xs = .ok (xs.filterMap m)
  | [], _ => rfl
  | x :: xs, h => by
    unfold compL
    rw [h x (List.mem_cons_self ..), List.filterMap_cons, compL_fm fun y hy => h y (List.mem_cons_of_mem _ hy)]
    cases m x <;> rfl
theorem compL_of {α : Type} {g : PV → Res (Option PV)} {em : α → PV} {m : α → PV} {xs : List α} (h : ∀ x ∈ xs, g (em x) = .ok (some (m x))) : compL g (xs.map em) = .ok (xs.map m) := by
  induction xs with
  | nil => rfl
  | cons x xs ih =>
    rw [List.map_cons]
    unfold compL
    rw [h x (List.mem_cons_self ..), ih fun y hy => h y (List.mem_cons_of_mem _ hy)]
    rfl
/-! asking -/
@[simp] theorem asg_tn (p : PV) : asgP (.tn i) p ρ = .ok (ρ.set i (.shr p)) := rf rfl
@[simp] theorem asg_tt (xs : List PV) : asgP (.tt a) (.tup xs) ρ = asgP a (.tup xs) ρ := rf rfl
@[simp] theorem asg_ttl (xs : List PV) : asgP (.tt a) (.lst xs) ρ = asgP a (.tup xs) ρ := rf rfl
@[simp] theorem asg_nil : asgP .nil (.tup []) ρ = .ok ρ := rf rfl
@[simp] theorem asg_cons (x : PV) (xs : List PV) : asgP (.cons a b) (.tup (x :: xs)) ρ = (asgP a x ρ).bind fun ρ' => asgP b (.tup xs) ρ' := rf rfl
@[simp] theorem wipe_nil : wipeS ρ [] = ρ := rf rfl
@[simp] theorem wipe_cons (j : Nat) (r : List Nat) : wipeS ρ (j :: r) = (wipeS ρ r).set j .un := rf rfl
@[simp] theorem tru_bl (t : Bool) : truP (.bl t) = .ok t := rf rfl
@[simp] theorem tru_lst (xs : List PV) : truP (.lst xs) = .ok (!xs.isEmpty) := rf rfl
@[simp] theorem tru_tup (xs : List PV) : truP (.tup xs) = .ok (!xs.isEmpty) := rf rfl
@[simp] theorem tru_int (j : Int) : truP (.int j) = .ok (j != 0) := rf rfl
theorem callN_eq {f : Nat} {TT : Nat → Option FnD} {n : Nat} {ps : List PV} {fd : FnD} (h : TT f = some fd) (hl : ps.length = fd.np) : callN TT κ cx wf (n + 1) f ps = fin (evS (callN TT κ cx wf n) κ cx wf fd.body (startS fd ps)) := by
  show (match TT f with
    | some fd => if Nat.beq ps.length fd.np then fin (evS (callN TT κ cx wf n) κ cx wf fd.body (startS fd ps)) else .bad
    | none => .bad) = _
  rw [h]
  show (if Nat.beq ps.length fd.np = true then _ else _) = _
  rw [if_pos (by rw [hl]; exact Nat.beq_refl _)]
end
mutual
theorem eqP_refl : ∀ (p : PV) (n : Nat), dep p n = true → eqP p p = true
  | .non, _, _ => rfl
  | .bl b, _, _ => beq_self_eq_true b
  | .int i, _, _ => beq_self_eq_true i
  | .str x, _, _ => beq_self_eq_true x
  | .tup xs, n + 1, h => eqL_refl xs n h
  | .lst xs, n + 1, h => eqL_refl xs n h
  | .tup _, 0, h => by cases h
  | .lst _, 0, h => by cases h
  | .scr _, _, h => by cases h
theorem eqL_refl : ∀ (ps : List PV) (n : Nat), depL ps n = true → eqL ps ps = true
  | [], _, _ => rfl
  | p :: ps, n, h => by
    have h' : (dep p n && depL ps n) = true := h
    rw [Bool.and_eq_true] at h'
    show (eqP p p && eqL ps ps) = true
    rw [eqP_refl p n h'.1, eqL_refl ps n h'.2]
    rfl
end
theorem cmp_eq_self {p : PV} (h : dep p 20 = true) : cmpP .eq p p = .ok (.bl true) := by
  show (if (dep p 20 && dep p 20) = true then Res.ok (PV.bl (eqP p p)) else .bad) = _
  rw [h, eqP_refl p 20 h]
  rfl
theorem cmp_ne_self {p : PV} (h : dep p 20 = true) : cmpP .ne p p = .ok (.bl false) := by
  show (if (dep p 20 && dep p 20) = true then Res.ok (PV.bl (!eqP p p)) else .bad) = _
  rw [h, eqP_refl p 20 h]
  rfl
theorem depL_of {ps : List PV} {n : Nat} (h : ∀ p ∈ ps, dep p n = true) : depL ps n = true := by
  induction ps with
  | nil => rfl
  | cons p ps ih =>
    show (dep p n && depL ps n) = true
    rw [h p (List.mem_cons_self ..), ih fun q hq => h q (List.mem_cons_of_mem _ hq)]
    rfl
/-! numbers -/
@[simp] theorem bin_add (a b : Int) : binP .add (.int a) (.int b) = .ok (.int (a + b)) := rf rfl
@[simp] theorem bin_sub (a b : Int) : binP .sub (.int a) (.int b) = .ok (.int (a - b)) := rf rfl
theorem mulOk_r {a b : Int} (h : b.natAbs < 18446744073709551616) : mulOk a b = true := by
  unfold mulOk
  have : Nat.blt b.natAbs 18446744073709551616 = true := Nat.ble_eq_true_of_le h
  rw [this, Bool.or_true, Bool.true_or]
theorem mulOk_l {a b : Int} (h : a.natAbs < 18446744073709551616) : mulOk a b = true := by
  unfold mulOk
  have : Nat.blt a.natAbs 18446744073709551616 = true := Nat.ble_eq_true_of_le h
  rw [this, Bool.true_or, Bool.true_or]
theorem bin_mul_r {a b : Int} (h : b.natAbs < 18446744073709551616) : binP .mul (.int a) (.int b) = .ok (.int (a * b)) := by
  show (if mulOk a b = true then Res.ok (PV.int (a * b)) else .bad) = _
  rw [mulOk_r h]
  rfl
theorem bin_mul_l {a b : Int} (h : a.natAbs < 18446744073709551616) : binP .mul (.int a) (.int b) = .ok (.int (a * b)) := by
  show (if mulOk a b = true then Res.ok (PV.int (a * b)) else .bad) = _
  rw [mulOk_l h]
  rfl
theorem bin_mod {a b : Int} (h : b ≠ 0) : binP .mod (.int a) (.int b) = .ok (.int (a.fmod b)) := by
  show (if decide (b ≠ 0) = true then Res.ok (PV.int (a.fmod b)) else .bad) = _
  rw [decide_eq_true h]
  rfl
theorem bin_fdvL {a b : Int} (h : b ≠ 0) (h2 : b.natAbs.log2 < 9000) : binP .fdv (.int a) (.int b) = .ok (.int (a.fdiv b)) := by
  show (if divOk b = true then Res.ok (PV.int (a.fdiv b)) else .bad) = _
  have : divOk b = true := by
    unfold divOk
    have q : Nat.blt b.natAbs.log2 9000 = true := Nat.ble_eq_true_of_le h2
    rw [decide_eq_true h, q]
    rfl
  rw [this]
  rfl
theorem log2_small {n k : Nat} (h : n < 2 ^ k) (hk : 0 < k) : n.log2 < k := by
  by_cases hn : n = 0
  · subst hn; simpa using hk
  · exact (Nat.log2_lt hn).mpr h
theorem bin_fdv {a b : Int} (h : b ≠ 0) (h2 : b.natAbs < 1073741824) : binP .fdv (.int a) (.int b) = .ok (.int (a.fdiv b)) :=
  bin_fdvL h (Nat.lt_trans (log2_small (k := 30) h2 (by decide)) (by decide))
@[simp] theorem cmp_lt (a b : Int) : cmpP .lt (.int a) (.int b) = .ok (.bl (decide (a < b))) := rf rfl
@[simp] theorem cmp_le (a b : Int) : cmpP .le (.int a) (.int b) = .ok (.bl (decide (a ≤ b))) := rf rfl
@[simp] theorem cmp_gt (a b : Int) : cmpP .gt (.int a) (.int b) = .ok (.bl (decide (b < a))) := rf rfl
@[simp] theorem cmp_ge (a b : Int) : cmpP .ge (.int a) (.int b) = .ok (.bl (decide (b ≤ a))) := rf rfl
@[simp] theorem cmp_eqI (a b : Int) : cmpP .eq (.int a) (.int b) = .ok (.bl (a == b)) := rf rfl
@[simp] theorem cmp_neI (a b : Int) : cmpP .ne (.int a) (.int b) = .ok (.bl (!(a == b))) := rf rfl
@[simp] theorem len_lst (xs : List PV) : biP .len [.lst xs] = .ok (.int xs.length) := rf rfl
@[simp] theorem len_tup (xs : List PV) : biP .len [.tup xs] = .ok (.int xs.length) := rf rfl
@[simp] theorem len_str (xs : List Nat) : biP .len [.str xs] = .ok (.int xs.length) := rf rfl
@[simp] theorem len_scr (xs : List Int) : biP .len [.scr xs] = .ok (.int xs.length) := rf rfl
@[simp] theorem ptuple_lst (xs : List PV) : biP .ptuple [.lst xs] = .ok (.ptp xs) := rf rfl
@[simp] theorem tuple_lst (xs : List PV) : biP .tuple [.lst xs] = .ok (.tup xs) := rf rfl
@[simp] theorem tuple_tup (xs : List PV) : biP .tuple [.tup xs] = .ok (.tup xs) := rf rfl
@[simp] theorem list_lst (xs : List PV) : biP .list [.lst xs] = .ok (.lst xs) := rf rfl
@[simp] theorem int_bl (b : Bool) : biP .int [.bl b] = .ok (.int (if b then 1 else 0)) := rf rfl
theorem fits_of {n : Nat} (h : n ≤ 16777216) : fits n = true := Nat.ble_eq_true_of_le h
theorem rng_of {a b : Int} (h1 : -4611686018427387904 ≤ a) (h2 : a < 4611686018427387904) (h3 : -4611686018427387904 ≤ b) (h4 : b < 4611686018427387904) (h5 : (b - a).toNat ≤ 16777216) : rngP (.int a) (.int b) = .ok (.lst (upL a (b - a).toNat)) := by
  show (if (smallI a && smallI b && fits (b - a).toNat) = true then Res.ok (PV.lst (upL a (b - a).toNat)) else .bad) = _
  have e1 : smallI a = true := by unfold smallI; rw [decide_eq_true (by omega), decide_eq_true (by omega)]; rfl
  have e2 : smallI b = true := by unfold smallI; rw [decide_eq_true (by omega), decide_eq_true (by omega)]; rfl
  rw [e1, e2, fits_of h5]
  rfl
theorem at_nat {α : Type} {xs : List α} {i : Int} {x : α} (h0 : 0 ≤ i) (h : xs[i.toNat]? = some x) : atI xs i = some x := by
  obtain ⟨hl, _⟩ := List.getElem?_eq_some_iff.mp h
  unfold atI ixN
  rw [if_pos h0, if_pos (by omega)]
  exact h
def getI : Option PV → Res PV
  | some p => .ok p
  | none => .bad
@[simp] theorem getI_some (p : PV) : getI (some p) = .ok p := rf rfl
theorem ix_lst (xs : List PV) (i : Int) : ixP (.lst xs) (.int i) = getI (atI xs i) := by
  show (match atI xs i with | some p => Res.ok p | none => .bad) = _
  cases atI xs i <;> rfl
theorem ix_tup (xs : List PV) (i : Int) : ixP (.tup xs) (.int i) = getI (atI xs i) := by
  show (match atI xs i with | some p => Res.ok p | none => .bad) = _
  cases atI xs i <;> rfl
theorem ix_scr (xs : List Int) (i : Int) : ixP (.scr xs) (.int i) = getI ((atI xs i).map PV.int) := by
  show (match atI xs i with | some p => Res.ok (PV.int p) | none => .bad) = _
  cases atI xs i <;> rfl
/-- a list of ints, read at a place -/
theorem ix_ints {r : List Int} {i : Int} (h0 : 0 ≤ i) (h : i.toNat < r.length) : ixP (.lst (r.map PV.int)) (.int i) = .ok (.int (r.getD i.toNat 0)) := by
  rw [ix_lst, at_nat (x := .int (r.getD i.toNat 0)) h0]
  · rfl
  · rw [List.getElem?_map, List.getD_eq_getElem?_getD, List.getElem?_eq_getElem h]
    rfl
end Z
end
section
/-! ### tools for plain laws -/
namespace Z
open L2 (ixN atI)
section
variable {φ : Fns} {κ : Cons} {cx : Nat → Nat → Bool} {wf : Nat} {ρ : List Slot}
theorem whL_step {c : List Slot → Res Bool} {g : List Slot → Out} {n : Nat} {ρ ρ' : List Slot} (h : c ρ = .ok true) (h2 : g ρ = .nx ρ') : whL c g (n + 1) ρ = whL c g n ρ' := by
  show (match c ρ with
    | .ok true => (match g ρ with
      | .nx ρ' => whL c g n ρ'
      | .ct ρ' => whL c g n ρ'
      | .bk ρ' => .nx ρ'
      | o => o)
    | .ok false => .nx ρ
    | .exc c p => .exc c p ρ
    | .bad => .bad) = _
  rw [h, h2]
theorem whL_end {c : List Slot → Res Bool} {g : List Slot → Out} {n : Nat} {ρ : List Slot} (h : c ρ = .ok false) : whL c g (n + 1) ρ = .nx ρ := by
  show (match c ρ with
    | .ok true => (match g ρ with
      | .nx ρ' => whL c g n ρ'
      | .ct ρ' => whL c g n ρ'
      | .bk ρ' => .nx ρ'
      | o => o)
    | .ok false => .nx ρ
    | .exc c p => .exc c p ρ
    | .bad => .bad) = _
  rw [h]
end
theorem ixN_last {n : Nat} (h : 0 < n) : ixN n (-1) = some (n - 1) := by
  unfold ixN
  rw [if_neg (by decide), if_pos (by omega)]
  congr 1
  omega
@[simp] theorem put_int (i : Nat) (ρ : List Slot) (xs : List PV) (p : PV) {n : Int} {m : Nat} (h : ixN xs.length n = some m) : putP i ρ xs p (.int n) = .nx (ρ.set i (.own (xs.set m p))) := by
  show (match ixN xs.length n with | some m => Out.nx (ρ.set i (.own (xs.set m p))) | none => .bad) = _
  rw [h]
theorem put_last (i : Nat) (ρ : List Slot) (xs : List PV) (x p : PV) : putP i ρ (xs ++ [x]) p (.int (-1)) = .nx (ρ.set i (.own (xs ++ [p]))) := by
  rw [put_int i ρ (xs ++ [x]) p (ixN_last (by simp))]
  congr 3
  simp
theorem ix_lst0 (x : PV) (xs : List PV) : ixP (.lst (x :: xs)) (.int 0) = .ok x := by
  rw [ix_lst, at_nat (x := x) (by decide) rfl]
  rfl
theorem mul_str {x : List Nat} {k : Int} (h0 : 0 ≤ k) (h1 : k ≤ 16777216) (h2 : x.length * k.toNat ≤ 16777216) : binP .mul (.str x) (.int k) = .ok (.str (List.replicate k.toNat x).flatten) := by
  show (if (decide (0 ≤ k) && Nat.ble k.toNat 16777216 && fits (x.length * k.toNat)) = true then _ else _) = _
  rw [decide_eq_true h0, fits_of h2, Nat.ble_eq_true_of_le (show k.toNat ≤ 16777216 by omega)]
  rfl
theorem sIx_pos (n d : Nat) {i : Int} (h : 0 ≤ i) : HT.sIx n d (some i) = min i.toNat n := by
  show (if i < 0 then (i + (n : Int)).toNat else min i.toNat n) = _
  rw [if_neg (by omega)]
theorem drop_min {α : Type} (xs : List α) (k : Nat) : xs.drop (min k xs.length) = xs.drop k := by
  by_cases h : k ≤ xs.length
  · rw [Nat.min_eq_left h]
  · rw [Nat.min_eq_right (by omega), List.drop_length, List.drop_eq_nil_of_le (by omega)]
theorem cut_lo {α : Type} (xs : List α) {i : Int} (h : 0 ≤ i) : cutP xs (some i) none = xs.drop i.toNat := by
  unfold cutP
  rw [sIx_pos _ _ h, drop_min]
  show (xs.drop i.toNat).take (xs.length - min i.toNat xs.length) = _
  rw [List.take_of_length_le (by rw [List.length_drop]; omega)]
@[simp] theorem slV_lst (xs : List PV) (l h : Option Int) : slV (.lst xs) l h = .ok (.lst (cutP xs l h)) := rf rfl
@[simp] theorem slV_tup (xs : List PV) (l h : Option Int) : slV (.tup xs) l h = .ok (.tup (cutP xs l h)) := rf rfl
@[simp] theorem slV_str (xs : List Nat) (l h : Option Int) : slV (.str xs) l h = .ok (.str (cutP xs l h)) := rf rfl
theorem ix_str (xs : List Nat) (i : Int) {c : Nat} (h : atI xs i = some c) : ixP (.str xs) (.int i) = .ok (.str [c]) := by
  show (match atI xs i with | some c => Res.ok (PV.str [c]) | none => .bad) = _
  rw [h]
@[simp] theorem aug_int (op : Bop) (a b : Int) : augP op (.int a) (.int b) = binP op (.int a) (.int b) := rf rfl
@[simp] theorem tru_str (xs : List Nat) : truP (.str xs) = .ok (!xs.isEmpty) := rf rfl
@[simp] theorem tru_non : truP .non = .ok false := rf rfl
theorem depL_ints (xs : List Int) (n : Nat) : depL (xs.map PV.int) n = true := depL_of fun p hp => by
  obtain ⟨i, _, rfl⟩ := List.mem_map.mp hp
  cases n <;> rfl
@[simp] theorem enuP_lst (xs : List PV) : enuP (.lst xs) = .ok (.lst (enuL 0 xs)) := rf rfl
@[simp] theorem enuP_tup (xs : List PV) : enuP (.tup xs) = .ok (.lst (enuL 0 xs)) := rf rfl
@[simp] theorem list_tup (xs : List PV) : biP .list [.tup xs] = .ok (.lst xs) := rf rfl
theorem ix_ex {xs : List PV} {v : Int} (h0 : 0 ≤ v) (h : v < xs.length) : ∃ o ∈ xs, ixP (.lst xs) (.int v) = .ok o := by
  have hl : v.toNat < xs.length := by omega
  refine ⟨xs[v.toNat], List.getElem_mem hl, ?_⟩
  rw [ix_lst, at_nat h0 (List.getElem?_eq_getElem hl)]
  rfl
theorem bin_addL {a b : List PV} (h : a.length + b.length ≤ 16777216) : binP .add (.lst a) (.lst b) = .ok (.lst (a ++ b)) := by
  show (if fits (a.length + b.length) = true then _ else _) = _
  rw [fits_of h]
  rfl
theorem bin_addT {a b : List PV} (h : a.length + b.length ≤ 16777216) : binP .add (.tup a) (.tup b) = .ok (.tup (a ++ b)) := by
  show (if fits (a.length + b.length) = true then _ else _) = _
  rw [fits_of h]
  rfl
@[simp] theorem mt_cnt (x : List Nat) (c : Nat) : mtP .count (.str x) (.str [c]) = .ok (.int (cntP c x)) := rf rfl
@[simp] theorem isi_int_non : isiP .int .non = false := rf rfl
@[simp] theorem isi_int_bl (b : Bool) : isiP .int (.bl b) = true := rf rfl
@[simp] theorem isi_int_int (b : Int) : isiP .int (.int b) = true := rf rfl
@[simp] theorem isi_int_str (b : List Nat) : isiP .int (.str b) = false := rf rfl
@[simp] theorem isi_int_tup (b : List PV) : isiP .int (.tup b) = false := rf rfl
@[simp] theorem isi_int_lst (b : List PV) : isiP .int (.lst b) = false := rf rfl
@[simp] theorem isi_int_scr (b : List Int) : isiP .int (.scr b) = false := rf rfl
@[simp] theorem isi_bool_non : isiP .bool .non = false := rf rfl
@[simp] theorem isi_bool_bl (b : Bool) : isiP .bool (.bl b) = true := rf rfl
@[simp] theorem isi_bool_int (b : Int) : isiP .bool (.int b) = false := rf rfl
@[simp] theorem isi_bool_str (b : List Nat) : isiP .bool (.str b) = false := rf rfl
@[simp] theorem isi_bool_tup (b : List PV) : isiP .bool (.tup b) = false := rf rfl
@[simp] theorem isi_bool_lst (b : List PV) : isiP .bool (.lst b) = false := rf rfl
@[simp] theorem isi_bool_scr (b : List Int) : isiP .bool (.scr b) = false := rf rfl
@[simp] theorem isi_str_non : isiP .str .non = false := rf rfl
@[simp] theorem isi_str_bl (b : Bool) : isiP .str (.bl b) = false := rf rfl
@[simp] theorem isi_str_int (b : Int) : isiP .str (.int b) = false := rf rfl
@[simp] theorem isi_str_str (b : List Nat) : isiP .str (.str b) = true := rf rfl
@[simp] theorem isi_str_tup (b : List PV) : isiP .str (.tup b) = false := rf rfl
@[simp] theorem isi_str_lst (b : List PV) : isiP .str (.lst b) = false := rf rfl
@[simp] theorem isi_str_scr (b : List Int) : isiP .str (.scr b) = false := rf rfl
@[simp] theorem isi_tuple_non : isiP .tuple .non = false := rf rfl
@[simp] theorem isi_tuple_bl (b : Bool) : isiP .tuple (.bl b) = false := rf rfl
@[simp] theorem isi_tuple_int (b : Int) : isiP .tuple (.int b) = false := rf rfl
@[simp] theorem isi_tuple_str (b : List Nat) : isiP .tuple (.str b) = false := rf rfl
@[simp] theorem isi_tuple_tup (b : List PV) : isiP .tuple (.tup b) = true := rf rfl
@[simp] theorem isi_tuple_lst (b : List PV) : isiP .tuple (.lst b) = false := rf rfl
@[simp] theorem isi_tuple_scr (b : List Int) : isiP .tuple (.scr b) = false := rf rfl
@[simp] theorem isi_list_non : isiP .list .non = false := rf rfl
@[simp] theorem isi_list_bl (b : Bool) : isiP .list (.bl b) = false := rf rfl
@[simp] theorem isi_list_int (b : Int) : isiP .list (.int b) = false := rf rfl
@[simp] theorem isi_list_str (b : List Nat) : isiP .list (.str b) = false := rf rfl
@[simp] theorem isi_list_tup (b : List PV) : isiP .list (.tup b) = false := rf rfl
@[simp] theorem isi_list_lst (b : List PV) : isiP .list (.lst b) = true := rf rfl
@[simp] theorem isi_list_scr (b : List Int) : isiP .list (.scr b) = true := rf rfl
end Z
end
section
/-! Z: rows of letters (class Row), by hand. -/
namespace Z
open PySem PySem.Spec PyProof.Rows L2
abbrev nsR : List Str := ["cells", "notes"]
structure RowSt (K : PySem.W.Frag) (G H : Hp) (a C dx c m : Addr) (cells notes : List PV) : Prop where
  gh : Same G H
  ia : H a = some (.ins C dx [("cells", .ref c), ("notes", .ref m)])
  ic : ∃ cv, H c = some (.lst cv) ∧ Reps K G cv cells
  im : ∃ nv, H m = some (.lst nv) ∧ Reps K G nv notes
  ga : G a = none
  gm : G m = none
  gc : G c = none
  cm : c ≠ m
structure RowFr (a m : Addr) (G H G' H' : Hp) : Prop where
  gs : Same G G'
  fr : ∀ b o, H b = some o → b ≠ a → b ≠ m → H' b = some o
  nw : ∀ b, G b = none → G' b ≠ none → H b = none
structure RowC (K : PySem.W.Frag) (C : Addr) : Prop where
  cl : Cls K C
  n1 : NoAttr K C "cells"
  n2 : NoAttr K C "notes"
section
variable {K : PySem.W.Frag} {G H G' H' G'' H'' : Hp} {a C dx c m : Addr} {cells notes : List PV}
theorem RowSt.self (s : RowSt K G H a C dx c m cells notes) (r : RowC K C) : RepSelf K G H (some (.ref a)) a nsR [.lst cells, .lst notes] := by
  obtain ⟨cv, h1, r1⟩ := s.ic
  obtain ⟨nv, h2, r2⟩ := s.im
  refine ⟨rfl, C, dx, [.ref c, .ref m], s.ia, rfl, r.cl, fun f hf => ?_, .lst h1 r1 (.lst h2 r2 .nil)⟩
  simp only [List.mem_cons, List.not_mem_nil, or_false] at hf
  rcases hf with rfl | rfl
  · exact r.n1
  · exact r.n2
theorem RowSt.grow (s : RowSt K G H a C dx c m cells notes) (e : Ext G H G' H') : RowSt K G' H' a C dx c m cells notes := by
  obtain ⟨cv, h1, r1⟩ := s.ic
  obtain ⟨nv, h2, r2⟩ := s.im
  exact ⟨e.gh, e.hs _ _ s.ia, ⟨cv, e.hs _ _ h1, r1.mono e.gs⟩, ⟨nv, e.hs _ _ h2, r2.mono e.gs⟩, e.own s.ga s.ia, e.own s.gm h2, e.own s.gc h1, s.cm⟩
theorem RowFr.ext (e : Ext G H G' H') : RowFr a m G H G' H' := ⟨e.gs, fun b o h _ _ => e.hs _ _ h, e.nw⟩
theorem RowFr.trans (x : RowFr a m G H G' H') (y : RowFr a m G' H' G'' H'') (ga : G'' a = none) (gm : G'' m = none) : RowFr a m G H G'' H'' :=
  ⟨x.gs.trans y.gs, fun b o h n1 n2 => y.fr b o (x.fr b o h n1 n2) n1 n2, fun b h1 h2 => by
    by_cases e : G' b = none
    · have z := y.nw b e h2
      cases q : H b with
      | none => rfl
      | some o =>
        by_cases n1 : b = a
        · subst n1; exact absurd ga h2
        · by_cases n2 : b = m
          · subst n2; exact absurd gm h2
          · rw [x.fr b o q n1 n2] at z; cases z
    · exact x.nw b h1 e⟩
theorem RowFr.refl : RowFr a m G H G H := ⟨Same.refl _, fun _ _ h _ _ => h, fun _ h1 h2 => absurd h1 h2⟩
/-- self.cells = .. -/
theorem RowSt.put (s : RowSt K G H a C dx c m cells notes) {c' : Addr} {cv : List V} {cells' : List PV} (h : H c' = some (.lst cv)) (r : Reps K G cv cells') (n : c' ≠ m) (g : G c' = none) : RowSt K G (upd H a (.ins C dx [("cells", .ref c'), ("notes", .ref m)])) a C dx c' m cells' notes := by
  obtain ⟨nv, h2, r2⟩ := s.im
  have na : c' ≠ a := fun z => by subst z; rw [s.ia] at h; cases h
  have nm : m ≠ a := fun z => by subst z; rw [s.ia] at h2; cases h2
  refine ⟨fun b o e => ?_, upd_same, ⟨cv, by rw [upd_ne na]; exact h, r⟩, ⟨nv, by rw [upd_ne nm]; exact h2, r2⟩, s.ga, s.gm, g, n⟩
  rw [upd_ne (ne_of_none e s.ga)]
  exact s.gh _ _ e
/-! a state made anew -/
def plainS : Slot → Bool
  | .un => true
  | .shr _ => true
  | _ => false
theorem SI.fresh {ρ : List Slot} {σ : L2.St} (s : Same G H) (hl : σ.length = ρ.length) (h : ∀ (i : Nat) (t : Slot), ρ[i]? = some t → t.o = false ∧ ∃ o, σ[i]? = some o ∧ RepSlot K G H H o t) : SI K G H G H ρ σ where
  ext := Ext.refl s
  len := hl
  at_ := fun i t e => (h i t e).2
  dis := fun i j b s t _ h1 _ o1 _ _ _ => by rw [(h i s h1).1] at o1; cases o1
  ds2 := fun i j a c bs s xss _ _ h3 _ _ _ => by
    obtain ⟨_, o, _, a, bs, _, _, h0, h2, _⟩ := h j _ h3
    rw [h0] at h2; cases h2
  one := fun i j xss yss h1 _ => by
    obtain ⟨_, o, _, a, bs, _, _, h0, h2, _⟩ := h i _ h1
    rw [h0] at h2; cases h2
/-- the self's slot ahead of plain ones -/
theorem SI.again {ρ : List Slot} {σ : L2.St} {G0 H0 : Hp} {s0 : Slot} {v0 : V} (I : SI K G0 H0 G H (s0 :: ρ) σ) (hp : ρ.all plainS = true) (h0 : σ[0]? = some (some v0)) (gs : Same G G') (gh : Same G' H') {ns : List Str} {fs : List PV} (r : RepSelf K G' H' (some v0) a ns fs) :
    SI K G' H' G' H' (.self a ns fs :: ρ) σ := by
  refine SI.fresh gh (by rw [I.len]; rfl) fun i t e => ?_
  cases i with
  | zero => cases e; exact ⟨rfl, _, h0, r⟩
  | succ i =>
    have e' : (s0 :: ρ)[i + 1]? = some t := e
    obtain ⟨o, h1, h2⟩ := I.at_ (i + 1) t e'
    have hm : t ∈ ρ := List.mem_of_getElem? (by simpa using e)
    have hq := List.all_eq_true.mp hp t hm
    cases t with
    | un => exact ⟨rfl, o, h1, trivial⟩
    | shr p =>
      obtain ⟨v, e1, rr⟩ := h2
      exact ⟨rfl, o, h1, v, e1, rr.mono gs⟩
    | _ => cases hq
end
section
variable {B : Tb} {n : Nat} {N : List Str} {sc : Scope} {X : Cx} {W : WX}
end
/-! ### names -/
def tNames : C := .scons (.sref (.comp [1] (.tn 1) (.seq (.sf 0 "cells")) (.k (.bl true)) (.ix (.v 1) (.k (.int 0))))) .snil
def spNames (K : PySem.W.Frag) (C : Addr) : Sp := fun vs H Q _ => ∃ G a dx c m cells notes row, vs = [.ref a] ∧ RowSt K G H a C dx c m cells notes ∧ rowNames cells = .ok row ∧
  ∀ G' H' l us, Ext G H G' H' → H l = none → G' l = none → H' l = some (.lst us) → Reps K G' us row → Q (.ref l) H'
section
variable {B : Tb} {P : Program} {w : World} {K : PySem.W.Frag} {mg : Str → Option Value} {base : Heap} {n : Nat} {C : Addr} {fa : Addr} {fd : FuncData} {nm qual : Str} {params : Arguments} {body : List Stmt} {scope : Scope}
end
/-! ### put -/
abbrev nPut : List Str := ["self", "rule", "at", "ahead", "here", "behind", "put", "gone", "first", "last", "new", "name"]
def p1 : C := .sasg (.tt (.cons (.tn 3) (.cons (.tn 4) (.cons (.tn 5) (.cons (.tn 6) .nil))))) (.v 1)
def p2 : C := .sset 7 (.sl (.sf 0 "cells") (.v 2) (.bin .add (.v 2) (.bi .len (.cons (.v 4) .nil))))
def p3 : C := .sasg (.tt (.cons (.tn 8) (.cons (.tn 9) .nil))) (.tup (.cons (.ix (.ix (.v 7) (.k (.int 0))) (.k (.int 1))) (.cons (.ix (.ix (.v 7) (.neg (.k (.int 1)))) (.k (.int 2))) .nil)))
def p4 : C := .sset 10 (.comp [11] (.tn 11) (.seq (.v 6)) (.k (.bl true)) (.tup (.cons (.v 11) (.cons (.v 8) (.cons (.v 9) .nil)))))
def p5a : C := .bin .add (.sl (.sf 0 "cells") .nop (.v 2)) (.v 10)
def p5b : C := .sl (.sf 0 "cells") (.bin .add (.v 2) (.bi .len (.cons (.v 4) .nil))) .nop
def p5 : C := .bin .add p5a p5b
def p6 : C := .sret (.bin .add (.v 2) (.bi .len (.cons (.v 10) .nil)))
def ckPut (B : Tb) (sc : Scope) : List Stmt → Bool
  | [s1, s2, s3, s4, .Assign [.Attribute (.Name x _) f _] v _, s6] => (cks B nPut p1).s sc s1 && (cks B nPut p2).s sc s2 && (cks B nPut p3).s sc s3 && (cks B nPut p4).s sc s4 && ckVar nPut sc 0 x && sEq f "cells" && (ck B nPut p5).e false sc v && notComp v && (cks B nPut p6).s sc s6
  | _ => false
def spPut (K : PySem.W.Frag) (C : Addr) : Sp := fun vs H Q _ => ∃ G a dx c m cells notes vr rule at_ cells' at', vs = [.ref a, vr, .int ((at_ : Nat) : Int)] ∧ RowSt K G H a C dx c m cells notes ∧ Rep K G vr rule ∧ rowPut at_ cells rule = .ok (cells', at') ∧ fits cells'.length = true ∧
  ∀ G' H' c', RowFr a m G H G' H' → H c' = none → RowSt K G' H' a C dx c' m cells' notes → Q (.int ((at' : Nat) : Int)) H'
section
variable {φ : Fns} {κ : Cons} {cx : Nat → Nat → Bool} {wf a at_ : Nat} {cells notes here put : List PV} {ahead behind f l : PV}
abbrev rP (a : Addr) (cells notes : List PV) (rule at_ : PV) (r : List Slot) : List Slot := .self a nsR [.lst cells, .lst notes] :: .shr rule :: .shr at_ :: r
end
section
variable {B : Tb} {P : Program} {w : World} {K : PySem.W.Frag} {mg : Str → Option Value} {base : Heap} {n : Nat} {C : Addr} {fa : Addr} {fd : FuncData} {nm qual : Str} {params : Arguments} {body : List Stmt} {scope : Scope}
end
end Z
end
section
/-! Z: Row.run, by hand. -/
namespace Z
open PySem PySem.Spec PyProof.Rows L2
abbrev nRun : List Str := ["self", "feature", "name", "rules", "at", "row", "some", "number", "rule"]
def r1 : C := .sasg (.tt (.cons (.tn 2) (.cons (.tn 3) .nil))) (.v 1)
def r2 : C := .sset 4 (.k (.int 0))
def rt : C := .cmp .lt (.v 4) (.bi .len (.cons (.sf 0 "cells") .nil))
def r5c (g : Nat) : C := .call g (.cons (.v 8) (.cons (.v 5) (.cons (.v 4) .nil)))
def r5 (g : Nat) : C := .sset 6 (.comp [7, 8] (.tt (.cons (.tn 7) (.cons (.tn 8) .nil))) (.enu (.v 3)) (r5c g) (.v 7))
def rcn : C := .nt (.v 6)
def rx : C := .scons (.saug 4 .add (.k (.int 1))) .snil
def rnt : C := .tup (.cons (.v 2) (.cons (.ix (.v 6) (.k (.int 0))) (.cons (.v 4) .nil)))
def rar : C := .cons (.ix (.v 3) (.ix (.v 6) (.k (.int 0)))) (.cons (.v 4) .nil)
def ckRun (B : Tb) (g : Nat) (sc : Scope) : List Stmt → Bool
  | [s1, s2, .While t [.Assign [.Name x1 _] (.Call (.Attribute (.Name x2 _) m1 ap1) [] [] cp1) _, b2, .If tt bx [.Expr (.Call (.Attribute (.Attribute (.Name x3 _) f3 _) m3 ap3) [v3] [] cp3) _, .Assign [.Name x4 _] (.Call (.Attribute (.Name x5 _) m5 ap5) [e5, e6] [] cp5) _] _] [] _] =>
    (cks B nRun r1).s sc s1 && (cks B nRun r2).s sc s2 && (ck B nRun rt).t sc t && (ixB nRun 5 x1 && locB sc x1 && ckVar nRun sc 0 x2 && sEq m1 "names" && (ap1.endLine == cp1.line)) && (cks B nRun (r5 g)).s sc b2 && (ck B nRun rcn).t sc tt && (cks B nRun rx).b sc bx &&
    (ckVar nRun sc 0 x3 && sEq f3 "notes" && sEq m3 "append" && (ck B nRun rnt).e false sc v3 && notStar v3 && (ap3.endLine == cp3.line)) && (ixB nRun 4 x4 && locB sc x4 && ckVar nRun sc 0 x5 && sEq m5 "put" && (ck B nRun rar).a false sc [e5, e6] && (ap5.endLine == cp5.line))
  | _ => false
def spRun (B : Tb) (n g : Nat) (K : PySem.W.Frag) (C : Addr) : Sp := fun vs H Q _ => ∃ G a dx c m cells notes vf name rules cells' notes', vs = [.ref a, vf] ∧ RowSt K G H a C dx c m cells notes ∧ Rep K G vf (.tup [name, .tup rules]) ∧ rowRun (φn B n) g name rules cells.length cells notes 0 = .ok (cells', notes') ∧
  ∀ G' H' c', RowFr a m G H G' H' → (c' = c ∨ H c' = none) → RowSt K G' H' a C dx c' m cells' notes' → Q .non H'
abbrev rR (a : Addr) (cells notes : List PV) (feat name : PV) (rules : List PV) (at_ : Nat) (r : List Slot) : List Slot := .self a nsR [.lst cells, .lst notes] :: .shr feat :: .shr name :: .shr (.tup rules) :: .shr (.int at_) :: r
section
variable {φ : Fns} {κ : Cons} {cx : Nat → Nat → Bool} {wf a at_ g : Nat} {cells notes rules row : List PV} {feat name : PV} {s5 s6 s7 s8 : Slot}
end
theorem mcall_eq {o : Expr} {m : Str} {ap pos : Pos} {args : List Expr} {env : Env} (hb : attributeBase o m env (eval o env) = eval o env) (hf : methodCallForm (args.length + ([] : List Keyword).length) (backTo pos (starEach args env)) (backToKw pos (keywordEach [] env)) = true) (hl : (ap.endLine == pos.line) = true) :
    eval (.Call (.Attribute o m ap) args [] pos) env = (do
      let ov ← eval o env
      standAt ap.atName
      let (f, first) ← holding [ov] (getMethod ov m (do return (← importBound o env).getD true))
      callWith pos f first (backTo pos (starEach args env)) (backToKw pos (keywordEach [] env))) := by
  refine mcall_of hb fun ov => ?_
  unfold methodCall calleeOf methodCallPos
  rw [hf, hl]
  rfl
theorem mcall2 {x m : Str} {p ap pos : Pos} {e e' : Expr} {env : Env} (h1 : notStar e = true) (h2 : notStar e' = true) (hl : (ap.endLine == pos.line) = true) :
    eval (.Call (.Attribute (.Name x p) m ap) [e, e'] [] pos) env = (do
      let ov ← eval (.Name x p) env
      standAt ap.atName
      let (f, first) ← holding [ov] (getMethod ov m (do return (← importBound (.Name x p) env).getD true))
      callWith pos f first (backTo pos (starEach [e, e'] env)) (backToKw pos (keywordEach [] env))) := mcall_eq rfl (by rw [star_of h1, star_of h2]; rfl) hl
section
variable {B : Tb} {P : Program} {w : World} {K : PySem.W.Frag} {mg : Str → Option Value} {base : Heap} {n g : Nat} {C : Addr} {fa : Addr} {fd : FuncData} {nm qual : Str} {params : Arguments} {body : List Stmt} {scope : Scope}
end
end Z
end
section
/-! Z: Row.__init__, shaped_of, by hand. -/
namespace Z
open PySem PySem.Spec PyProof.Rows L2
abbrev nIni : List Str := ["self", "names", "at", "name"]
def i1 : C := .comp [2, 3] (.tt (.cons (.tn 2) (.cons (.tn 3) .nil))) (.enu (.v 1)) (.k (.bl true)) (.tup (.cons (.v 3) (.cons (.v 2) (.cons (.v 2) .nil))))
def ckIni (B : Tb) (sc : Scope) : List Stmt → Bool
  | [.Assign [.Attribute (.Name x _) f _] v _, .Assign [.Attribute (.Name y _) g _] (.List [] _) _] => ckVar nIni sc 0 x && sEq f "cells" && (ck B nIni i1).e false sc v && ckVar nIni sc 0 y && sEq g "notes"
  | _ => false
def spIni (K : PySem.W.Frag) (C : Addr) : Sp := fun vs H Q _ => ∃ G a dx vn names, vs = [.ref a, vn] ∧ Same G H ∧ G a = none ∧ H a = some (.ins C dx []) ∧ Rep K G vn (.lst names) ∧
  ∀ G' H' c m, Same G G' → (∀ b o, H b = some o → b ≠ a → H' b = some o) → (∀ b, G b = none → G' b ≠ none → H b = none) → H c = none → H m = none → RowSt K G' H' a C dx c m (rowStart 0 names) [] → Q .non H'
abbrev nSh : List Str := ["features", "on", "names", "row", "feature"]
def shT : C := .cmp .inn (.ix (.v 4) (.k (.int 0))) (.v 1)
def ckSh (B : Tb) (cn : Str) (sc : Scope) : List Stmt → Bool
  | [.Assign [.Name x1 _] (.Call (.Name x2 _) [e2] [] _) _, .For t i [.If tt [.Expr (.Call (.Attribute (.Name x3 _) m3 ap3) [e3] [] cp3) _] [] _] [] _, .Return (some (.Name x4 _)) _] =>
    (ixB nSh 3 x1 && locB sc x1 && sEq x2 cn && glB sc x2 && (ck B nSh (.cons (.v 2) .nil)).a false sc [e2]) && (ckG nSh sc (.tn 4) t && (ck B nSh (.seq (.v 0))).i false (isTupE t) sc i && notSet i) && (ck B nSh shT).t sc tt &&
    (ckVar nSh sc 3 x3 && sEq m3 "run" && (ck B nSh (.cons (.v 4) .nil)).a false sc [e3] && (ap3.endLine == cp3.line)) && ckVar nSh sc 3 x4
  | _ => false
section
variable {B : Tb} {P : Program} {w : World} {K : PySem.W.Frag} {mg : Str → Option Value} {base : Heap} {n g : Nat} {C : Addr} {fa : Addr} {fd : FuncData} {nm qual : Str} {params : Arguments} {body : List Stmt} {scope : Scope}
/-- a def that makes rows -/
def rowD (np : Nat) (g : Nat) : FnD := ⟨3, np, .sfo 0 [g]⟩
end
end Z
end
section
/-! Z: the class Row in the head. -/
namespace Z
open PySem PySem.Spec PyProof.Rows L2
def clsBody : Stmt → List Stmt
  | .ClassDef (body := b) .. => b
  | _ => []
/-- what binds a def's arguments -/
abbrev BindN (d : He.DefD) (ps : List Str) : Prop := ∀ (kV doc pm : Value) (an : Option Addr) (cdv ct : Value) (us : List Value), us.length = ps.length → bindArgs (PySem.W.fnOf d.name d.qual d.params d.body d.scope .none kV doc pm an cdv ct) ⟨us, []⟩ = pure (ps.zip us)
abbrev rowFa (cn : Str) : List He.Fa := [.glo cn, .cls cn, .noat cn "cells", .noat cn "notes", .meth cn "names", .meth cn "put", .meth cn "run", .mkr cn]
abbrev deM (cn m nm qual : Str) (s : Stmt) : He.DefD := ⟨(cn, some m), nm, qual, defArgs s, defBody s, defScope s, [], []⟩
section
variable {B : Tb} {K : PySem.W.Frag} {mg : Str → Option Value} {h : Heap} {fa : List He.Fa} {fn : List He.DefD}
end
end Z
end
section
/-! Z: error classes with a field in the head. -/
namespace Z
open PySem PySem.Spec PyProof.Rows L2
def ckIni0 (bn fl pn : Str) (sc : Scope) : List Stmt → Bool
  | [.Expr (.Call (.Attribute (.Name x _) m ap) [.Name s0 _, .Constant (.str _) _ _] [] cp) _, .Assign [.Attribute (.Name s1 _) f _] (.Name v _) _] => sEq x bn && sEq m "__init__" && sEq f fl && glB sc x && ckVar ["self", pn] sc 0 s0 && ckVar ["self", pn] sc 0 s1 && ckVar ["self", pn] sc 1 v && (ap.endLine == cp.line)
  | _ => false
theorem ckVar_ok {N : List Str} {sc : Scope} {i : Nat} {x : Str} (h : ckVar N sc i x = true) : N[i]? = some x ∧ Vis sc x ∧ (x == ("__debug__" : Str)) = false ∧ (x == ("__classdict__" : Str)) = false := by
  unfold ckVar at h
  simp only [Bool.and_eq_true, Bool.not_eq_true'] at h
  obtain ⟨⟨⟨z1, z2⟩, z3⟩, z4⟩ := h
  exact ⟨ixB_ok z1, visB_ok z2, z3, z4⟩
section
variable {P : Program} {w : World} {K : PySem.W.Frag} {mg : Str → Option Value} {base : Heap}
theorem fn_xini {C Cb : Addr} {fl bn pn nm qual : Str} {params : Arguments} {body : List Stmt} {scope : Scope} {fa : Addr} {fd : FuncData} (T0 : XB0 K Cb) (hb : mg bn = some (.ref Cb)) (T : OexC K C) (no : PySem.W.findIn K (.ref C) fl = some none)
    (F : FunD K nm qual params body scope [] [] fa fd) (S : FnScope ["self", pn] ["self", pn] scope) (hc : ckIni0 bn fl pn scope body = true) : FnOk P w K mg base (CX P w) 1 fa fd ["self", pn] (spI C fl) := by
  refine FunD.ok (k := 0) F S (fun vs H Q E h => ?_) fun cdv A outer s H vs Q E hr h => ⟨_, pss_can, ?_⟩
  · obtain ⟨a, v, rfl, _⟩ := h
    rfl
  obtain ⟨a, v, rfl, ha, k⟩ := h
  unfold ckIni0 at hc
  split at hc
  · simp only [Bool.and_eq_true] at hc
    obtain ⟨⟨⟨⟨⟨⟨⟨h1, h2⟩, h3⟩, h4⟩, h5⟩, h6⟩, h7⟩, h8⟩ := hc
    have e1 := sEq_ok h1
    have e2 := sEq_ok h2
    have e3 := sEq_ok h3
    subst e1 e2 e3
    obtain ⟨g1, g2, g3⟩ := glB_ok h4
    obtain ⟨a1, a2, a3, a4⟩ := ckVar_ok h5
    obtain ⟨b1, b2, b3, b4⟩ := ckVar_ok h6
    obtain ⟨c1, c2, c3, c4⟩ := ckVar_ok h7
    refine pss_can' (pss_cons (ps_expr (pe_cinit T0 (show scope.names.lookup _ = _ from g1) hb g2 (pa_cons (pe_var (i := 0) a1 a2 a3 a4) (pa_cons pe_str pa_nil)) (mcall2 rfl rfl h8)) rfl) (pss_one (ps_ost (pe_var (i := 0) b1 b2 b3 b4) (pe_var (i := 1) c1 c2 c3 c4)))) ?_
    refine ⟨.ref a, rfl, a, C, [_], rfl, by simp, T, ha, v, rfl, .ref a, rfl, a, C, rfl, T, no, .inl ⟨ha, fun dx hd hne => k dx hd hne⟩⟩
  · cases hc
theorem ini_of {h : Heap} {fa : List He.Fa} {fn : List He.DefD} (X : K.In h) (G : h.Ns mainGlobals mg) (c : He.SaysD fa fn K) {cn bn fl pn qI : Str} {sI : Stmt} (i j : Nat) (hi : fa[i]? = some (.meth cn "__init__")) (hj : fn[j]? = some (deM cn "__init__" "__init__" qI sI))
    (hb : bsB K bn = true ∧ (He.Fa.glo bn).ok K = true) (S : FnScope ["self", pn] ["self", pn] (defScope sI)) (b : BindN (deM cn "__init__" "__init__" qI sI) ["self", pn]) (hc : ckIni0 bn fl pn (defScope sI) (defBody sI) = true) : IniOk K mg (He.ga K cn) fl := by
  have m := He.meth_ok (c.fact i hi)
  obtain ⟨fd, F⟩ := c.def_ j hj
  exact ⟨_, fd, ["self", pn], m.at_, eq_of_beq m.fn, F.bindsN b, fun P w base T no => fn_xini (bsB_ok hb.1) (He.glo_ok X G hb.2) T no F S hc⟩
end
end Z
end
section
namespace Zd
open Z
def d_law_cell : Z.FnD := ⟨2, 2, (.scons (.sif (.cmp .lt (.v 1) (.bi .len (.cons (.v 0) .nil))) (.scons (.sret (.ix (.v 0) (.v 1))) .snil) .snil) (.scons (.sret (.k (.int 0))) .snil))⟩
def law_row_b1 : Z.C := (.scons (.sif (.cmp .lt (.call 9 (.cons (.v 0) (.cons (.v 1) .nil))) (.bin .pow (.k (.int 10)) (.k (.int 18)))) (.scons (.sset 2 (.bin .mod (.bin .add (.bin .add (.bin .add (.bin .mul (.v 2) (.k (.int 48271))) (.bin .mul (.k (.int 131)) (.v 4))) (.k (.int 7))) (.call 9 (.cons (.v 0) (.cons (.bin .mod (.bin .add (.bin .add (.v 1) (.k (.int 1))) (.v 4)) (.k (.int 20))) .nil)))) (.k (.int 2147483647)))) (.scons (.sapp 3 (.bin .mod (.bin .fdv (.v 2) (.k (.int 11))) (.k (.int 1000)))) .snil)) (.scons (.sapp 3 (.bin .mod (.v 2) (.k (.int 1000)))) (.scons (.sset 2 (.bin .fdv (.v 2) (.k (.int 1000)))) .snil))) .snil)
def d_law_row : Z.FnD := ⟨2, 5, (.scons (.sset 2 (.call 9 (.cons (.v 0) (.cons (.v 1) .nil)))) (.scons (.sown 3 (.dsp .nil)) (.scons (.sfor (.tn 4) (.rng1 (.k (.int 60))) law_row_b1) (.scons (.sreo 3) .snil))))⟩
end Zd
namespace Zp
open Z
section
variable {TT : Nat → Option FnD} {κ : Cons} {cx : Nat → Nat → Bool} {wf : Nat}
/-- the script's cell -/
def cellI (ns : List Int) (k : Int) : Int := if k < ns.length then ns.getD k.toNat 0 else 0
theorem cell_ok (h9 : TT 9 = some Zd.d_law_cell) {n : Nat} {ns : List Int} {k : Int} (hk : 0 ≤ k) : callN TT κ cx wf (n + 1) 9 [.scr ns, .int k] = .ok (.shr (.int (cellI ns k))) := by
  rw [callN_eq h9 rfl]
  unfold Zd.d_law_cell startS cellI
  by_cases h : k < ns.length
  · have e : L2.atI ns k = some (ns.getD k.toNat 0) := at_nat hk (by
      rw [List.getD_eq_getElem?_getD, List.getElem?_eq_getElem (by omega)]; rfl)
    simp [h, ix_scr, e]
  · simp [h]
/-- a row of sixty numbers from 0 to 999 -/
structure IsRow (r : List Int) : Prop where
  len : r.length = 60
  rng : ∀ x ∈ r, 0 ≤ x ∧ x < 1000
theorem pow18 : binP .pow (.int 10) (.int 18) = .ok (.int 1000000000000000000) := rfl
theorem fmod_rng (a : Int) {b : Int} (h : 0 < b) : 0 ≤ a.fmod b ∧ a.fmod b < b := ⟨Int.fmod_nonneg_of_pos _ h, Int.fmod_lt_of_pos _ h⟩
theorem row_ok (h9 : TT 9 = some Zd.d_law_cell) (h11 : TT 11 = some Zd.d_law_row) {n : Nat} {ns : List Int} {at_ : Int} (ha : 0 ≤ at_) : ∃ r, IsRow r ∧ callN TT κ cx wf (n + 2) 11 [.scr ns, .int at_] = .ok (.own (r.map PV.int)) := by
  have step : ∀ (k : Nat) (t cell : Int) (r : List Int) (sl : Slot), 0 ≤ t → r.length + k ≤ 60 → (∀ x ∈ r, 0 ≤ x ∧ x < 1000) → ∃ (cell' : Int) (r' : List Int) (sl' : Slot), r'.length = r.length + k ∧ (∀ x ∈ r', 0 ≤ x ∧ x < 1000) ∧
      forL (stepF (callN TT κ cx wf (n + 1)) κ cx wf (.tn 4) Zd.law_row_b1) (upL t k) [.shr (.scr ns), .shr (.int at_), .shr (.int cell), .own (r.map PV.int), sl] = .nx [.shr (.scr ns), .shr (.int at_), .shr (.int cell'), .own (r'.map PV.int), sl'] := by
    intro k
    induction k with
    | zero => exact fun t cell r sl _ _ hr => ⟨cell, r, sl, rfl, hr, rfl⟩
    | succ k ih =>
      intro t cell r sl ht hl hr
      have hf : fits (r.length + 1) = true := fits_of (by omega)
      have hm : (0 : Int) ≤ (at_ + 1 + t).fmod 20 := (fmod_rng _ (by decide)).1
      have e : ∃ c v, (0 ≤ v ∧ v < 1000) ∧ stepF (callN TT κ cx wf (n + 1)) κ cx wf (.tn 4) Zd.law_row_b1 (.int t) [.shr (.scr ns), .shr (.int at_), .shr (.int cell), .own (r.map PV.int), sl] = .nx [.shr (.scr ns), .shr (.int at_), .shr (.int c), .own (r.map PV.int ++ [.int v]), .shr (.int t)] := by
        by_cases hc : cellI ns at_ < 1000000000000000000
        · refine ⟨(cell * 48271 + 131 * t + 7 + cellI ns ((at_ + 1 + t).fmod 20)).fmod 2147483647, (((cell * 48271 + 131 * t + 7 + cellI ns ((at_ + 1 + t).fmod 20)).fmod 2147483647).fdiv 11).fmod 1000, fmod_rng _ (by decide), ?_⟩
          simp [Zd.law_row_b1, stepF, cell_ok h9 ha, cell_ok h9 hm, pow18, hc, bin_mul_r, bin_mul_l, bin_mod, bin_fdv, hf]
        · refine ⟨cell.fdiv 1000, cell.fmod 1000, fmod_rng _ (by decide), ?_⟩
          simp [Zd.law_row_b1, stepF, cell_ok h9 ha, pow18, hc, bin_mod, bin_fdv, hf]
      obtain ⟨c, v, hv, e⟩ := e
      obtain ⟨c', r', sl', e1, e2, e3⟩ := ih (t + 1) c (r ++ [v]) (.shr (.int t)) (by omega) (by rw [List.length_append, List.length_singleton]; omega) (fun x hx => by
        rw [List.mem_append] at hx
        rcases hx with hx | hx
        · exact hr x hx
        · rw [List.mem_singleton] at hx; subst hx; exact hv)
      refine ⟨c', r', sl', by rw [e1, List.length_append, List.length_singleton]; omega, e2, ?_⟩
      show forL _ (.int t :: upL (t + 1) k) _ = _
      rw [forL_cons, e, next_nx, ← e3, List.map_append]
      rfl
  obtain ⟨c, r, sl, e1, e2, e3⟩ := step 60 0 (cellI ns at_) [] .un (by decide) (by simp) (fun x hx => by cases hx)
  refine ⟨r, ⟨by rw [e1]; rfl, e2⟩, ?_⟩
  rw [callN_eq h11 rfl]
  unfold Zd.d_law_row startS
  have er : rngP (.int 0) (.int 60) = .ok (.lst (upL 0 60)) := rng_of (by decide) (by decide) (by decide) (by decide) (by decide)
  simp only [List.map_nil] at e3
  simp [cell_ok h9 ha, er, e3]
end
end Zp
end
section
namespace Zd
open Z
def d_is_within : Z.FnD := ⟨3, 3, (.scons (.sret (.an (.isi .int (.v 0)) (.an (.nt (.isi .bool (.v 0))) (.chn .le .le (.v 1) (.v 0) (.v 2))))) .snil)⟩
def d_is_point : Z.FnD := ⟨1, 1, (.scons (.sif (.or (.nt (.isi .tuple (.v 0))) (.or (.cmp .ne (.bi .len (.cons (.v 0) .nil)) (.k (.int 3))) (.nt (.call 0 (.cons (.ix (.v 0) (.k (.int 2))) (.cons (.k (.int 0)) (.cons (.k (.int 1)) .nil))))))) (.scons (.sret (.k (.bl false))) .snil) .snil) (.scons (.sret (.an (.call 0 (.cons (.ix (.v 0) (.k (.int 0))) (.cons (.neg (.g 0)) (.cons (.g 0) .nil)))) (.call 0 (.cons (.ix (.v 0) (.k (.int 1))) (.cons (.neg (.g 0)) (.cons (.g 0) .nil)))))) .snil))⟩
def d_is_contour : Z.FnD := ⟨1, 2, (.scons (.sif (.or (.nt (.isi .tuple (.v 0))) (.nt (.chn .le .le (.k (.int 3)) (.bi .len (.cons (.v 0) .nil)) (.g 1)))) (.scons (.sret (.k (.bl false))) .snil) .snil) (.scons (.sret (.nt (.comp [1] (.tn 1) (.seq (.v 0)) (.nt (.call 1 (.cons (.v 1) .nil))) (.v 1)))) .snil))⟩
def d_is_shape : Z.FnD := ⟨1, 2, (.scons (.sif (.or (.nt (.isi .tuple (.v 0))) (.cmp .gt (.bi .len (.cons (.v 0) .nil)) (.g 2))) (.scons (.sret (.k (.bl false))) .snil) .snil) (.scons (.sret (.nt (.comp [1] (.tn 1) (.seq (.v 0)) (.nt (.call 2 (.cons (.v 1) .nil))) (.v 1)))) .snil))⟩
def d_look : Z.FnD := ⟨1, 1, (.scons (.sif (.nt (.call 3 (.cons (.v 0) .nil))) (.scons (.srai 1 .nil) .snil) .snil) .snil)⟩
def d_moved_of : Z.FnD := ⟨3, 7, (.scons (.sret (.bi .tuple (.cons (.comp [3] (.tn 3) (.seq (.v 0)) (.k (.bl true)) (.bi .tuple (.cons (.comp [4, 5, 6] (.tt (.cons (.tn 4) (.cons (.tn 5) (.cons (.tn 6) .nil)))) (.seq (.v 3)) (.k (.bl true)) (.tup (.cons (.bin .add (.v 4) (.v 1)) (.cons (.bin .add (.v 5) (.v 2)) (.cons (.v 6) .nil))))) .nil))) .nil))) .snil)⟩
def d_moved : Z.FnD := ⟨3, 4, (.scons (.sexp (.call 4 (.cons (.v 0) .nil))) (.scons (.sif (.or (.nt (.call 0 (.cons (.v 1) (.cons (.neg (.g 0)) (.cons (.g 0) .nil))))) (.nt (.call 0 (.cons (.v 2) (.cons (.neg (.g 0)) (.cons (.g 0) .nil)))))) (.scons (.srai 2 .nil) .snil) .snil) (.scons (.sset 3 (.call 5 (.cons (.v 0) (.cons (.v 1) (.cons (.v 2) .nil))))) (.scons (.sif (.nt (.call 3 (.cons (.v 3) .nil))) (.scons (.srai 2 .nil) .snil) .snil) (.scons (.sret (.v 3)) .snil)))))⟩
def d_turned : Z.FnD := ⟨1, 2, (.scons (.sexp (.call 4 (.cons (.v 0) .nil))) (.scons (.sret (.bi .tuple (.cons (.comp [1] (.tn 1) (.seq (.v 0)) (.k (.bl true)) (.bin .add (.sl (.v 1) .nop (.k (.int 1))) (.tl (.v 1)))) .nil))) .snil))⟩
def d_mirrored : Z.FnD := ⟨1, 5, (.scons (.sexp (.call 4 (.cons (.v 0) .nil))) (.scons (.sret (.bi .tuple (.cons (.comp [1] (.tn 1) (.seq (.v 0)) (.k (.bl true)) (.bi .tuple (.cons (.comp [2, 3, 4] (.tt (.cons (.tn 2) (.cons (.tn 3) (.cons (.tn 4) .nil)))) (.seq (.v 1)) (.k (.bl true)) (.tup (.cons (.neg (.v 2)) (.cons (.v 3) (.cons (.v 4) .nil))))) .nil))) .nil))) .snil))⟩
end Zd
namespace Zp
open Z
abbrev Pt := Int × Int × Int
def ptP (p : Pt) : PV := .tup [.int p.1, .int p.2.1, .int p.2.2]
def coP (c : List Pt) : PV := .tup (c.map ptP)
def shP (s : List (List Pt)) : PV := .tup (s.map coP)
def inB (i lo hi : Int) : Bool := decide (lo ≤ i) && decide (i ≤ hi)
def okPt (p : Pt) : Bool := inB p.2.2 0 1 && (inB p.1 (-2000) 2000 && inB p.2.1 (-2000) 2000)
def okCo (c : List Pt) : Bool := inB c.length 3 20 && c.all okPt
def okSh (s : List (List Pt)) : Bool := decide (s.length ≤ 8) && s.all okCo
/-- is it a whole number within bounds? -/
def withinP : PV → Int → Int → Bool
  | .int i, lo, hi => inB i lo hi
  | _, _, _ => false
theorem compL_filter {α : Type} {g : PV → Res (Option PV)} {em : α → PV} {p : α → Bool} {xs : List α} (h : ∀ x ∈ xs, g (em x) = .ok (if p x then some (em x) else none)) : compL g (xs.map em) = .ok ((xs.filter p).map em) := by
  induction xs with
  | nil => rfl
  | cons x xs ih =>
    rw [List.map_cons]
    unfold compL
    rw [h x (List.mem_cons_self ..), ih fun y hy => h y (List.mem_cons_of_mem _ hy), List.filter_cons]
    cases p x <;> rfl
theorem filter_none {α : Type} {p : α → Bool} {xs : List α} : (xs.filter fun x => !p x).isEmpty = xs.all p := by
  induction xs with
  | nil => rfl
  | cons x xs ih =>
    rw [List.filter_cons, List.all_cons]
    cases e : p x
    · simp
    · simpa using ih
/-- the tables that these defs ask -/
structure HS0 (TT : Nat → Option FnD) (κ : Cons) : Prop where
  h0 : TT 0 = some Zd.d_is_within
  h1 : TT 1 = some Zd.d_is_point
  h2 : TT 2 = some Zd.d_is_contour
  h3 : TT 3 = some Zd.d_is_shape
  k0 : κ 0 = some (.int 2000)
  k1 : κ 1 = some (.int 20)
  k2 : κ 2 = some (.int 8)
structure HS (TT : Nat → Option FnD) (κ : Cons) : Prop where
  h0 : TT 0 = some Zd.d_is_within
  h1 : TT 1 = some Zd.d_is_point
  h2 : TT 2 = some Zd.d_is_contour
  h3 : TT 3 = some Zd.d_is_shape
  h4 : TT 4 = some Zd.d_look
  k0 : κ 0 = some (.int 2000)
  k1 : κ 1 = some (.int 20)
  k2 : κ 2 = some (.int 8)
section
variable {TT : Nat → Option FnD} {κ : Cons} {cx : Nat → Nat → Bool} {wf : Nat} {n : Nat}
theorem within_ok (h0 : TT 0 = some Zd.d_is_within) (p : PV) (lo hi : Int) : callN TT κ cx wf (n + 1) 0 [p, .int lo, .int hi] = .ok (.shr (.bl (withinP p lo hi))) := by
  rw [callN_eq h0 rfl]
  unfold Zd.d_is_within startS
  cases p <;> simp [isiP, withinP, inB]
  rename_i i
  by_cases h : lo ≤ i <;> simp [h]
section
variable (T : HS0 TT κ)
include T
theorem point_ok0 (p : Pt) : callN TT κ cx wf (n + 2) 1 [ptP p] = .ok (.shr (.bl (okPt p))) := by
  rw [callN_eq T.h1 rfl]
  obtain ⟨x, y, o⟩ := p
  have i0 : ixP (.tup [.int x, .int y, .int o]) (.int 0) = .ok (.int x) := rfl
  have i1 : ixP (.tup [.int x, .int y, .int o]) (.int 1) = .ok (.int y) := rfl
  have i2 : ixP (.tup [.int x, .int y, .int o]) (.int 2) = .ok (.int o) := rfl
  unfold Zd.d_is_point startS ptP okPt
  cases h : inB o 0 1 <;> simp [isiP, within_ok T.h0, withinP, T.k0, i0, i1, i2, h]
  cases h2 : inB x (-2000) 2000 <;> simp [h2]
theorem contour_ok0 (c : List Pt) : callN TT κ cx wf (n + 3) 2 [coP c] = .ok (.shr (.bl (okCo c))) := by
  rw [callN_eq T.h2 rfl]
  unfold Zd.d_is_contour startS coP okCo
  have e : ∀ ρ, compL (stepC (callN TT κ cx wf (n + 2)) κ [1] (.tn 1) (.nt (.call 1 (.cons (.v 1) .nil))) (.v 1) [.shr ρ, .un]) (c.map ptP) = .ok ((c.filter fun x => !okPt x).map ptP) := fun ρ => by
    refine compL_filter fun x _ => ?_
    cases h : okPt x <;> simp [stepC, point_ok0 T, h]
  cases h1 : decide (3 ≤ (c.length : Int)) <;> cases h2 : decide ((c.length : Int) ≤ 20) <;> simp [isiP, T.k1, h1, h2, inB, e, filter_none]
  all_goals simp_all
theorem shape_ok0 (s : List (List Pt)) : callN TT κ cx wf (n + 4) 3 [shP s] = .ok (.shr (.bl (okSh s))) := by
  rw [callN_eq T.h3 rfl]
  unfold Zd.d_is_shape startS shP okSh
  have e : ∀ ρ, compL (stepC (callN TT κ cx wf (n + 3)) κ [1] (.tn 1) (.nt (.call 2 (.cons (.v 1) .nil))) (.v 1) [.shr ρ, .un]) (s.map coP) = .ok ((s.filter fun x => !okCo x).map coP) := fun ρ => by
    refine compL_filter fun x _ => ?_
    cases h : okCo x <;> simp [stepC, contour_ok0 T, h]
  by_cases h1 : s.length ≤ 8
  · have h1' : ¬ (8 : Int) < s.length := by omega
    simp [isiP, T.k2, h1, h1', e, filter_none]
  · have h1' : (8 : Int) < s.length := by omega
    simp [isiP, T.k2, h1, h1', e, filter_none]
end
theorem HS.z (T : HS TT κ) : HS0 TT κ := ⟨T.h0, T.h1, T.h2, T.h3, T.k0, T.k1, T.k2⟩
variable (T : HS TT κ)
include T
end
/-! moved, turned, mirrored -/
def mvPt (a u : Int) (p : Pt) : Pt := (p.1 + a, p.2.1 + u, p.2.2)
def mvSh (a u : Int) (s : List (List Pt)) : List (List Pt) := s.map fun c => c.map (mvPt a u)
def miSh (s : List (List Pt)) : List (List Pt) := s.map fun c => c.map fun p => (-p.1, p.2.1, p.2.2)
def tuSh (s : List (List Pt)) : List (List Pt) := s.map fun c => c.take 1 ++ c.tail.reverse
section
variable {TT : Nat → Option FnD} {κ : Cons} {cx : Nat → Nat → Bool} {wf : Nat} {n : Nat}
theorem moved_of_ok (h5 : TT 5 = some Zd.d_moved_of) (s : List (List Pt)) (a u : Int) : callN TT κ cx wf (n + 1) 5 [shP s, .int a, .int u] = .ok (.shr (shP (mvSh a u s))) := by
  rw [callN_eq h5 rfl]
  have e : ∀ (φ : Fns) (ρ : PV) (c : List Pt), compL (stepC φ κ [4, 5, 6] (.tt (.cons (.tn 4) (.cons (.tn 5) (.cons (.tn 6) .nil)))) (.k (.bl true)) (.tup (.cons (.bin .add (.v 4) (.v 1)) (.cons (.bin .add (.v 5) (.v 2)) (.cons (.v 6) .nil)))) [.shr ρ, .shr (.int a), .shr (.int u), .shr (coP c), .un, .un, .un]) (c.map ptP) = .ok (c.map fun x => ptP (mvPt a u x)) := fun φ ρ c => by
    refine compL_of fun x _ => ?_
    obtain ⟨x, y, o⟩ := x
    simp [stepC, ptP, mvPt]
  unfold Zd.d_moved_of startS
  simp only [shP, mvSh]
  have e2 : ∀ (φ : Fns) (ρ : PV), compL (stepC φ κ [3] (.tn 3) (.k (.bl true)) (.bi .tuple (.cons (.comp [4, 5, 6] (.tt (.cons (.tn 4) (.cons (.tn 5) (.cons (.tn 6) .nil)))) (.seq (.v 3)) (.k (.bl true)) (.tup (.cons (.bin .add (.v 4) (.v 1)) (.cons (.bin .add (.v 5) (.v 2)) (.cons (.v 6) .nil))))) .nil)) [.shr ρ, .shr (.int a), .shr (.int u), .un, .un, .un, .un]) (s.map coP) = .ok (s.map fun c => coP (c.map (mvPt a u))) := fun φ ρ => by
    refine compL_of fun c _ => ?_
    have e' := e φ ρ c
    have i : itemsP (coP c) = .ok (.lst (c.map ptP)) := rfl
    simp [stepC, i, e']
    simp [coP]
  simp [e2]
end
end Zp
end
section
namespace Zd
open Z
def d_law_whole : Z.FnD := ⟨1, 1, (.scons (.sret (.an (.isi .int (.v 0)) (.nt (.isi .bool (.v 0))))) .snil)⟩
def d_law_in : Z.FnD := ⟨3, 3, (.scons (.sret (.an (.call 10 (.cons (.v 0) .nil)) (.chn .le .le (.v 1) (.v 0) (.v 2)))) .snil)⟩
def law_contour_b1 : Z.C := (.scons (.sset 5 (.bin .add (.bin .add (.v 1) (.k (.int 1))) (.bin .mul (.k (.int 3)) (.v 4)))) (.scons (.sset 6 (.bin .sub (.bin .mod (.bin .mul (.ix (.v 0) (.bin .mod (.v 5) (.k (.int 60)))) (.k (.int 13))) (.bin .add (.bin .mul (.k (.int 2)) (.v 2)) (.k (.int 1)))) (.v 2))) (.scons (.sset 7 (.bin .sub (.bin .mod (.bin .mul (.ix (.v 0) (.bin .mod (.bin .add (.v 5) (.k (.int 1))) (.k (.int 60)))) (.k (.int 17))) (.bin .add (.bin .mul (.k (.int 2)) (.v 2)) (.k (.int 1)))) (.v 2))) (.scons (.sapp 3 (.tup (.cons (.bin .mul (.k (.int 4)) (.v 6)) (.cons (.bin .mul (.k (.int 4)) (.v 7)) (.cons (.bi .int (.cons (.cmp .gt (.bin .mod (.ix (.v 0) (.bin .mod (.bin .add (.v 5) (.k (.int 2))) (.k (.int 60)))) (.k (.int 3))) (.k (.int 0))) .nil)) .nil))))) .snil))))
def d_law_contour : Z.FnD := ⟨3, 8, (.scons (.sown 3 (.dsp .nil)) (.scons (.sfor (.tn 4) (.rng1 (.bin .add (.k (.int 3)) (.bin .mod (.ix (.v 0) (.bin .mod (.v 1) (.k (.int 60)))) (.k (.int 4))))) law_contour_b1) (.scons (.sret (.bi .tuple (.cons (.rd 3) .nil))) .snil)))⟩
def d_law_shape : Z.FnD := ⟨2, 5, (.scons (.sset 2 (.call 11 (.cons (.v 0) (.cons (.v 1) .nil)))) (.scons (.sset 3 (.ix (.dsp (.cons (.k (.int 5)) (.cons (.k (.int 20)) (.cons (.k (.int 120)) (.cons (.k (.int 400)) .nil))))) (.bin .mod (.ix (.v 2) (.k (.int 59))) (.k (.int 4))))) (.scons (.sret (.bi .tuple (.cons (.comp [4] (.tn 4) (.rng1 (.ix (.dsp (.cons (.k (.int 1)) (.cons (.k (.int 1)) (.cons (.k (.int 2)) (.cons (.k (.int 1)) (.cons (.k (.int 2)) (.cons (.k (.int 0)) (.cons (.k (.int 1)) .nil)))))))) (.bin .mod (.ix (.v 2) (.k (.int 58))) (.k (.int 7))))) (.k (.bl true)) (.call 13 (.cons (.v 2) (.cons (.bin .mul (.k (.int 20)) (.v 4)) (.cons (.v 3) .nil))))) .nil))) .snil)))⟩
def law_is_shape_b1 : Z.C := (.scons (.sif (.or (.nt (.isi .tuple (.v 2))) (.or (.cmp .ne (.bi .len (.cons (.v 2) .nil)) (.k (.int 3))) (.nt (.call 12 (.cons (.ix (.v 2) (.k (.int 2))) (.cons (.k (.int 0)) (.cons (.k (.int 1)) .nil))))))) (.scons (.sret (.k (.bl false))) .snil) .snil) (.scons (.sif (.or (.nt (.call 12 (.cons (.ix (.v 2) (.k (.int 0))) (.cons (.neg (.k (.int 2000))) (.cons (.k (.int 2000)) .nil))))) (.nt (.call 12 (.cons (.ix (.v 2) (.k (.int 1))) (.cons (.neg (.k (.int 2000))) (.cons (.k (.int 2000)) .nil)))))) (.scons (.sret (.k (.bl false))) .snil) .snil) .snil))
def law_is_shape_b2 : Z.C := (.scons (.sif (.or (.nt (.isi .tuple (.v 1))) (.nt (.chn .le .le (.k (.int 3)) (.bi .len (.cons (.v 1) .nil)) (.k (.int 20))))) (.scons (.sret (.k (.bl false))) .snil) .snil) (.scons (.sfor (.tn 2) (.seq (.v 1)) law_is_shape_b1) .snil))
def d_law_is_shape : Z.FnD := ⟨1, 3, (.scons (.sif (.or (.nt (.isi .tuple (.v 0))) (.cmp .gt (.bi .len (.cons (.v 0) .nil)) (.k (.int 8)))) (.scons (.sret (.k (.bl false))) .snil) .snil) (.scons (.sfor (.tn 1) (.seq (.v 0)) law_is_shape_b2) (.scons (.sret (.k (.bl true))) .snil)))⟩
end Zd
namespace Zp
open Z
structure HLs (TT : Nat → Option FnD) : Prop where
  h9 : TT 9 = some Zd.d_law_cell
  h11 : TT 11 = some Zd.d_law_row
  h13 : TT 13 = some Zd.d_law_contour
  h14 : TT 14 = some Zd.d_law_shape
structure HL (TT : Nat → Option FnD) : Prop where
  h9 : TT 9 = some Zd.d_law_cell
  h10 : TT 10 = some Zd.d_law_whole
  h11 : TT 11 = some Zd.d_law_row
  h12 : TT 12 = some Zd.d_law_in
  h13 : TT 13 = some Zd.d_law_contour
  h14 : TT 14 = some Zd.d_law_shape
  h15 : TT 15 = some Zd.d_law_is_shape
structure HLi (TT : Nat → Option FnD) : Prop where
  h10 : TT 10 = some Zd.d_law_whole
  h12 : TT 12 = some Zd.d_law_in
  h15 : TT 15 = some Zd.d_law_is_shape
theorem HL.i {TT : Nat → Option FnD} (L : HL TT) : HLi TT := ⟨L.h10, L.h12, L.h15⟩
theorem getD_rng {r : List Int} (h : IsRow r) (i : Nat) : 0 ≤ r.getD i 0 ∧ r.getD i 0 < 1000 := by
  by_cases hi : i < r.length
  · have e : r.getD i 0 = r[i] := by rw [List.getD_eq_getElem?_getD, List.getElem?_eq_getElem hi]; rfl
    rw [e]
    exact h.rng _ (List.getElem_mem hi)
  · rw [List.getD_eq_getElem?_getD, List.getElem?_eq_none (by omega)]
    exact ⟨by decide, by decide⟩
/-- a row at a place -/
theorem row_ix {r : List Int} (h : IsRow r) {i : Int} (h0 : 0 ≤ i) (h1 : i < 60) : ixP (.lst (r.map PV.int)) (.int i) = .ok (.int (r.getD i.toNat 0)) := ix_ints h0 (by rw [h.len]; omega)
theorem row_at {r : List Int} (h : IsRow r) {i : Int} (h0 : 0 ≤ i) (h1 : i < 60) : ∃ v, 0 ≤ v ∧ v < 1000 ∧ ixP (.lst (r.map PV.int)) (.int i) = .ok (.int v) := ⟨_, (getD_rng h _).1, (getD_rng h _).2, row_ix h h0 h1⟩
theorem row_mod {r : List Int} (h : IsRow r) (i : Int) : ∃ v, 0 ≤ v ∧ v < 1000 ∧ ixP (.lst (r.map PV.int)) (.int (i.fmod 60)) = .ok (.int v) := row_at h (fmod_rng _ (by decide)).1 (fmod_rng _ (by decide)).2
section
variable {TT : Nat → Option FnD} {κ : Cons} {cx : Nat → Nat → Bool} {wf : Nat} {n : Nat} (L : HLi TT)
include L
end
theorem HL.s {TT : Nat → Option FnD} (L : HL TT) : HLs TT := ⟨L.h9, L.h11, L.h13, L.h14⟩
section
variable {TT : Nat → Option FnD} {κ : Cons} {cx : Nat → Nat → Bool} {wf : Nat} {n : Nat} (L : HLs TT)
include L
/-- a contour of the law's own -/
def GoodPt (w : Int) (p : Pt) : Prop := -(4 * w) ≤ p.1 ∧ p.1 ≤ 4 * w ∧ -(4 * w) ≤ p.2.1 ∧ p.2.1 ≤ 4 * w ∧ (p.2.2 = 0 ∨ p.2.2 = 1)
def GoodCo (w : Int) (c : List Pt) : Prop := 3 ≤ c.length ∧ c.length ≤ 6 ∧ ∀ p ∈ c, GoodPt w p
omit L in
theorem lcontour0 (h13 : TT 13 = some Zd.d_law_contour) {r : List Int} (hr : IsRow r) {a w : Int} (ha : 0 ≤ a) (hw : 0 < w) (hw2 : w ≤ 1000) : ∃ c, GoodCo w c ∧ callN TT κ cx wf (n + 1) 13 [.lst (r.map PV.int), .int a, .int w] = .ok (.shr (coP c)) := by
  have step : ∀ (k : Nat) (t : Int) (c : List Pt) (s1 s2 s3 s4 : Slot), 0 ≤ t → c.length + k ≤ 6 → (∀ p ∈ c, GoodPt w p) → ∃ (c' : List Pt) (s1' s2' s3' s4' : Slot), c'.length = c.length + k ∧ (∀ p ∈ c', GoodPt w p) ∧
      forL (stepF (callN TT κ cx wf n) κ cx wf (.tn 4) Zd.law_contour_b1) (upL t k) [.shr (.lst (r.map PV.int)), .shr (.int a), .shr (.int w), .own (c.map ptP), s1, s2, s3, s4] = .nx [.shr (.lst (r.map PV.int)), .shr (.int a), .shr (.int w), .own (c'.map ptP), s1', s2', s3', s4'] := by
    intro k
    induction k with
    | zero => exact fun t c s1 s2 s3 s4 _ _ hc => ⟨c, s1, s2, s3, s4, rfl, hc, rfl⟩
    | succ k ih =>
      intro t c s1 s2 s3 s4 ht hl hc
      have hf : fits (c.length + 1) = true := fits_of (by omega)
      obtain ⟨v1, _, _, q1⟩ := row_mod hr (a + 1 + 3 * t)
      obtain ⟨v2, _, _, q2⟩ := row_mod hr (a + 1 + 3 * t + 1)
      obtain ⟨v3, _, _, q3⟩ := row_mod hr (a + 1 + 3 * t + 2)
      have w0 : 2 * w + 1 ≠ 0 := by omega
      have x1 := fmod_rng (v1 * 13) (b := 2 * w + 1) (by omega)
      have y1 := fmod_rng (v2 * 17) (b := 2 * w + 1) (by omega)
      have e : stepF (callN TT κ cx wf n) κ cx wf (.tn 4) Zd.law_contour_b1 (.int t) [.shr (.lst (r.map PV.int)), .shr (.int a), .shr (.int w), .own (c.map ptP), s1, s2, s3, s4] =
          .nx [.shr (.lst (r.map PV.int)), .shr (.int a), .shr (.int w), .own (c.map ptP ++ [ptP (4 * ((v1 * 13).fmod (2 * w + 1) - w), 4 * ((v2 * 17).fmod (2 * w + 1) - w), if 0 < v3.fmod 3 then 1 else 0)]), .shr (.int t), .shr (.int (a + 1 + 3 * t)), .shr (.int ((v1 * 13).fmod (2 * w + 1) - w)), .shr (.int ((v2 * 17).fmod (2 * w + 1) - w))] := by
        simp [Zd.law_contour_b1, stepF, bin_mul_r, bin_mul_l, bin_mod, q1, q2, q3, w0, hf, ptP]
      have hp : GoodPt w (4 * ((v1 * 13).fmod (2 * w + 1) - w), 4 * ((v2 * 17).fmod (2 * w + 1) - w), if 0 < v3.fmod 3 then 1 else 0) := by
        refine ⟨?_, ?_, ?_, ?_, ?_⟩
        · show -(4 * w) ≤ 4 * ((v1 * 13).fmod (2 * w + 1) - w); omega
        · show 4 * ((v1 * 13).fmod (2 * w + 1) - w) ≤ 4 * w; omega
        · show -(4 * w) ≤ 4 * ((v2 * 17).fmod (2 * w + 1) - w); omega
        · show 4 * ((v2 * 17).fmod (2 * w + 1) - w) ≤ 4 * w; omega
        · show (if 0 < v3.fmod 3 then (1 : Int) else 0) = 0 ∨ (if 0 < v3.fmod 3 then (1 : Int) else 0) = 1
          split
          · exact .inr rfl
          · exact .inl rfl
      obtain ⟨c', z1, z2, z3, z4, e1, e2, e3⟩ := ih (t + 1) (c ++ [(4 * ((v1 * 13).fmod (2 * w + 1) - w), 4 * ((v2 * 17).fmod (2 * w + 1) - w), if 0 < v3.fmod 3 then 1 else 0)]) (.shr (.int t)) (.shr (.int (a + 1 + 3 * t))) (.shr (.int ((v1 * 13).fmod (2 * w + 1) - w))) (.shr (.int ((v2 * 17).fmod (2 * w + 1) - w))) (by omega) (by rw [List.length_append, List.length_singleton]; omega) (fun x hx => by
        rw [List.mem_append] at hx
        rcases hx with hx | hx
        · exact hc x hx
        · rw [List.mem_singleton] at hx; subst hx; exact hp)
      refine ⟨c', z1, z2, z3, z4, by rw [e1, List.length_append, List.length_singleton]; omega, e2, ?_⟩
      show forL _ (.int t :: upL (t + 1) k) _ = _
      rw [forL_cons, e, next_nx, ← e3, List.map_append]
      rfl
  obtain ⟨v0, _, _, q0⟩ := row_mod hr a
  have k0 := fmod_rng v0 (b := 4) (by decide)
  obtain ⟨c, s1, s2, s3, s4, e1, e2, e3⟩ := step (3 + v0.fmod 4 - 0).toNat 0 [] .un .un .un .un (by decide) (by rw [List.length_nil]; omega) (fun x hx => by cases hx)
  rw [List.length_nil] at e1
  refine ⟨c, ⟨by omega, by omega, e2⟩, ?_⟩
  rw [callN_eq h13 rfl]
  unfold Zd.d_law_contour startS
  have er : rngP (.int 0) (.int (3 + v0.fmod 4)) = .ok (.lst (upL 0 (3 + v0.fmod 4 - 0).toNat)) := rng_of (by omega) (by omega) (by omega) (by omega) (by omega)
  rw [List.map_nil] at e3
  simp only [Int.sub_zero] at e3 er
  simp [bin_mod, q0, er, e3, coP]
/-- a shape of the law's own: at most two contours -/
def GoodSh (s : List (List Pt)) : Prop := s.length ≤ 2 ∧ ∀ c ∈ s, GoodCo 400 c
omit L in
theorem GoodCo.mono {w w' : Int} {c : List Pt} (h : GoodCo w c) (hw : w ≤ w') : GoodCo w' c := ⟨h.1, h.2.1, fun p hp => by
  obtain ⟨h1, h2, h3, h4, h5⟩ := h.2.2 p hp
  exact ⟨by omega, by omega, by omega, by omega, h5⟩⟩
end
section
variable {TT : Nat → Option FnD} {κ : Cons} {cx : Nat → Nat → Bool} {wf : Nat} {n : Nat} (L : HL TT)
include L
omit L in
theorem GoodSh.ok {s : List (List Pt)} (h : GoodSh s) : okSh s = true := by
  unfold okSh
  rw [Bool.and_eq_true]
  refine ⟨decide_eq_true (by have := h.1; omega), List.all_eq_true.mpr fun c hc => ?_⟩
  obtain ⟨h1, h2, h3⟩ := h.2 c hc
  unfold okCo inB
  simp only [Bool.and_eq_true, decide_eq_true_eq]
  refine ⟨⟨by omega, by omega⟩, List.all_eq_true.mpr fun p hp => ?_⟩
  obtain ⟨g1, g2, g3, g4, g5⟩ := h3 p hp
  unfold okPt inB
  simp only [Bool.and_eq_true, decide_eq_true_eq]
  omega
end
mutual
/-- no tuple without a dict of its own in it -/
def np : PV → Bool
  | .ptp _ => false
  | .tup xs => npL xs
  | _ => true
def npL : List PV → Bool
  | [] => true
  | x :: xs => np x && npL xs
end
mutual
theorem dep_np : ∀ (p : PV) (n : Nat), dep p n = true → np p = true
  | .tup xs, 0, h => by cases h
  | .tup xs, n + 1, h => depL_np xs n h
  | .lst xs, _, _ => rfl
  | .non, _, _ => rfl
  | .bl _, _, _ => rfl
  | .int _, _, _ => rfl
  | .str _, _, _ => rfl
  | .scr _, _, _ => rfl
  | .dct _ _, _, _ => rfl
  | .ptp _, n, h => by cases n <;> cases h
theorem depL_np : ∀ (xs : List PV) (n : Nat), depL xs n = true → npL xs = true
  | [], _, _ => rfl
  | x :: xs, n, h => by
    have h : (dep x n && depL xs n) = true := h
    rw [Bool.and_eq_true] at h
    show (np x && npL xs) = true
    rw [dep_np x n h.1, depL_np xs n h.2]
    rfl
end
end Zp
end
section
/-! shapes, whatever the thing is -/
namespace Zp
open Z
def isPtV : PV → Bool
  | .tup [x, y, o] => withinP o 0 1 && (withinP x (-2000) 2000 && withinP y (-2000) 2000)
  | _ => false
def isCoV : PV → Bool
  | .tup ps => inB ps.length 3 20 && ps.all isPtV
  | _ => false
def isShV : PV → Bool
  | .tup cs => decide (cs.length ≤ 8) && cs.all isCoV
  | _ => false
section
variable {TT : Nat → Option FnD} {κ : Cons} {cx : Nat → Nat → Bool} {wf : Nat} {n : Nat} (T : HS0 TT κ)
include T
end
section
variable {TT : Nat → Option FnD} {κ : Cons} {cx : Nat → Nat → Bool} {wf : Nat} {n : Nat} (L : HLi TT)
include L
end
end Zp
end
section
/-! fractions -/
namespace Zd
open Z
def common_b1 : Z.C := (.scons (.sasg (.tt (.cons (.tn 0) (.cons (.tn 1) .nil))) (.tup (.cons (.v 1) (.cons (.bin .mod (.v 0) (.v 1)) .nil)))) .snil)
def d_common : Z.FnD := ⟨2, 2, (.scons (.swh (.cmp .ne (.v 1) (.k (.int 0))) common_b1) (.scons (.sret (.bi .abs (.cons (.v 0) .nil))) .snil))⟩
def d_least : Z.FnD := ⟨2, 3, (.scons (.sset 2 (.call 25 (.cons (.v 0) (.cons (.v 1) .nil)))) (.scons (.sif (.cmp .lt (.v 1) (.k (.int 0))) (.scons (.sset 2 (.neg (.v 2))) .snil) .snil) (.scons (.sret (.tup (.cons (.bin .fdv (.v 0) (.v 2)) (.cons (.bin .fdv (.v 1) (.v 2)) .nil)))) .snil)))⟩
def d_whole : Z.FnD := ⟨1, 1, (.scons (.sret (.tup (.cons (.v 0) (.cons (.k (.int 1)) .nil)))) .snil)⟩
def d_plus : Z.FnD := ⟨2, 2, (.scons (.sret (.call 26 (.cons (.bin .add (.bin .mul (.ix (.v 0) (.k (.int 0))) (.ix (.v 1) (.k (.int 1)))) (.bin .mul (.ix (.v 1) (.k (.int 0))) (.ix (.v 0) (.k (.int 1))))) (.cons (.bin .mul (.ix (.v 0) (.k (.int 1))) (.ix (.v 1) (.k (.int 1)))) .nil)))) .snil)⟩
def d_minus : Z.FnD := ⟨2, 2, (.scons (.sret (.call 26 (.cons (.bin .sub (.bin .mul (.ix (.v 0) (.k (.int 0))) (.ix (.v 1) (.k (.int 1)))) (.bin .mul (.ix (.v 1) (.k (.int 0))) (.ix (.v 0) (.k (.int 1))))) (.cons (.bin .mul (.ix (.v 0) (.k (.int 1))) (.ix (.v 1) (.k (.int 1)))) .nil)))) .snil)⟩
def d_times : Z.FnD := ⟨2, 2, (.scons (.sret (.call 26 (.cons (.bin .mul (.ix (.v 0) (.k (.int 0))) (.ix (.v 1) (.k (.int 0)))) (.cons (.bin .mul (.ix (.v 0) (.k (.int 1))) (.ix (.v 1) (.k (.int 1)))) .nil)))) .snil)⟩
def d_quotient : Z.FnD := ⟨2, 2, (.scons (.sret (.call 26 (.cons (.bin .mul (.ix (.v 0) (.k (.int 0))) (.ix (.v 1) (.k (.int 1)))) (.cons (.bin .mul (.ix (.v 0) (.k (.int 1))) (.ix (.v 1) (.k (.int 0)))) .nil)))) .snil)⟩
def d_is_less : Z.FnD := ⟨2, 2, (.scons (.sret (.cmp .lt (.bin .mul (.ix (.v 0) (.k (.int 0))) (.ix (.v 1) (.k (.int 1)))) (.bin .mul (.ix (.v 1) (.k (.int 0))) (.ix (.v 0) (.k (.int 1)))))) .snil)⟩
def lesser_b1 : Z.C := (.scons (.sif (.call 32 (.cons (.v 2) (.cons (.v 1) .nil))) (.scons (.sset 1 (.v 2)) .snil) .snil) .snil)
def d_lesser : Z.FnD := ⟨1, 3, (.scons (.sset 1 (.ix (.v 0) (.k (.int 0)))) (.scons (.sfor (.tn 2) (.seq (.sl (.v 0) (.k (.int 1)) .nop)) lesser_b1) (.scons (.sret (.v 1)) .snil)))⟩
def greater_b1 : Z.C := (.scons (.sif (.call 32 (.cons (.v 1) (.cons (.v 2) .nil))) (.scons (.sset 1 (.v 2)) .snil) .snil) .snil)
def d_greater : Z.FnD := ⟨1, 3, (.scons (.sset 1 (.ix (.v 0) (.k (.int 0)))) (.scons (.sfor (.tn 2) (.seq (.sl (.v 0) (.k (.int 1)) .nop)) greater_b1) (.scons (.sret (.v 1)) .snil)))⟩
def d_sign_of : Z.FnD := ⟨1, 1, (.scons (.sret (.bin .sub (.bi .int (.cons (.cmp .gt (.ix (.v 0) (.k (.int 0))) (.k (.int 0))) .nil)) (.bi .int (.cons (.cmp .lt (.ix (.v 0) (.k (.int 0))) (.k (.int 0))) .nil)))) .snil)⟩
def d_floored : Z.FnD := ⟨1, 1, (.scons (.sret (.bin .fdv (.ix (.v 0) (.k (.int 0))) (.ix (.v 0) (.k (.int 1))))) .snil)⟩
def d_rounded : Z.FnD := ⟨1, 1, (.scons (.sret (.bin .fdv (.bin .add (.bin .mul (.k (.int 2)) (.ix (.v 0) (.k (.int 0)))) (.ix (.v 0) (.k (.int 1)))) (.bin .mul (.k (.int 2)) (.ix (.v 0) (.k (.int 1)))))) .snil)⟩
def d_is_fraction : Z.FnD := ⟨1, 1, (.scons (.sif (.or (.nt (.isi .tuple (.v 0))) (.or (.cmp .ne (.bi .len (.cons (.v 0) .nil)) (.k (.int 2))) (.or (.nt (.isi .int (.ix (.v 0) (.k (.int 0))))) (.isi .bool (.ix (.v 0) (.k (.int 0))))))) (.scons (.sret (.k (.bl false))) .snil) .snil) (.scons (.sif (.or (.nt (.isi .int (.ix (.v 0) (.k (.int 1))))) (.or (.isi .bool (.ix (.v 0) (.k (.int 1)))) (.cmp .lt (.ix (.v 0) (.k (.int 1))) (.k (.int 1))))) (.scons (.sret (.k (.bl false))) .snil) .snil) (.scons (.sret (.cmp .eq (.call 25 (.cons (.ix (.v 0) (.k (.int 0))) (.cons (.ix (.v 0) (.k (.int 1))) .nil))) (.k (.int 1)))) .snil)))⟩
end Zd
namespace Zp
open Z
/-- a fraction -/
def frP (q : Rat) : PV := .tup [.int q.num, .int (q.den : Int)]
/-- how wide -/
def Sz (k : Nat) (q : Rat) : Prop := q.num.natAbs < 2 ^ k ∧ q.den < 2 ^ k
theorem Sz.mono {k m : Nat} {q : Rat} (h : Sz k q) (hm : k ≤ m) : Sz m q := ⟨Nat.lt_of_lt_of_le h.1 (Nat.pow_le_pow_right (by decide) hm), Nat.lt_of_lt_of_le h.2 (Nat.pow_le_pow_right (by decide) hm)⟩
/-! the greatest common divisor -/
theorem fmod_abs (a : Int) {b : Int} (h : b ≠ 0) : (a.fmod b).natAbs < b.natAbs ∧ (0 < b → 0 ≤ a.fmod b) ∧ (b < 0 → a.fmod b ≤ 0) := by
  rcases Int.lt_or_gt_of_ne h with hb | hb
  · have h1 := Int.fmod_nonneg_of_pos (-a) (b := -b) (by omega)
    have h2 := Int.fmod_lt_of_pos (-a) (b := -b) (by omega)
    rw [Int.neg_fmod_neg] at h1 h2
    exact ⟨by omega, fun _ => by omega, fun _ => by omega⟩
  · have h1 := Int.fmod_nonneg_of_pos a hb
    have h2 := Int.fmod_lt_of_pos a hb
    exact ⟨by omega, fun _ => by omega, fun _ => by omega⟩
theorem fmod_two {a b : Int} {k : Nat} (hb : b ≠ 0) (h : b.natAbs < 2 ^ (k + 1)) (hr : 2 ^ k ≤ (a.fmod b).natAbs) : (b.fmod (a.fmod b)).natAbs < 2 ^ k := by
  have f := fmod_abs a hb
  generalize a.fmod b = r at hr f
  have p2 : 2 ^ (k + 1) = 2 * 2 ^ k := by rw [Nat.pow_succ, Nat.mul_comm]
  have p0 : 0 < 2 ^ k := Nat.pow_pos (by decide)
  rw [p2] at h
  generalize 2 ^ k = w at *
  rcases Int.lt_or_gt_of_ne hb with hn | hp
  · have := f.2.2 hn
    have e : b.fmod r = -((-b).fmod (-r)) := by rw [Int.neg_fmod_neg, Int.neg_neg]
    have e2 : (-b).fmod (-r) = (-b) - (-r) := by
      have : -b = (-b - -r) + (-r) := by omega
      rw [this, Int.add_fmod_right, Int.fmod_eq_of_lt (by omega) (by omega)]
      omega
    rw [e, e2]
    omega
  · have := f.2.1 hp
    have e2 : b.fmod r = b - r := by
      have : b = (b - r) + r := by omega
      rw [this, Int.add_fmod_right, Int.fmod_eq_of_lt (by omega) (by omega)]
      omega
    rw [e2]
    omega
theorem gcd_fmod (a b : Int) : Int.gcd b (a.fmod b) = Int.gcd a b := by
  apply Nat.dvd_antisymm
  · refine Int.dvd_gcd ?_ (Int.gcd_dvd_left b (a.fmod b))
    have h1 := Int.gcd_dvd_left b (a.fmod b)
    have h2 := Int.gcd_dvd_right b (a.fmod b)
    have := Int.dvd_add h2 (Int.dvd_mul_of_dvd_left (c := a.fdiv b) h1)
    rwa [Int.fmod_add_mul_fdiv] at this
  · refine Int.dvd_gcd (Int.gcd_dvd_right a b) ?_
    have h1 := Int.gcd_dvd_left a b
    have h2 := Int.gcd_dvd_right a b
    rw [Int.fmod_def]
    exact Int.dvd_sub h1 (Int.dvd_mul_of_dvd_left h2)
section
variable {TT : Nat → Option FnD} {κ : Cons} {cx : Nat → Nat → Bool} {wf : Nat} {n : Nat}
theorem gcd_loop (φ : Fns) : ∀ (k fuel : Nat) (a b : Int), b.natAbs < 2 ^ k → 2 * k + 1 ≤ fuel → ∃ g : Int, g.natAbs = Int.gcd a b ∧
    whL (fun ρ' => (ev φ κ (.cmp .ne (.v 1) (.k (.int 0))) ρ').bind truP) (fun ρ' => evS φ κ cx wf (.scons (.sasg (.tt (.cons (.tn 0) (.cons (.tn 1) .nil))) (.tup (.cons (.v 1) (.cons (.bin .mod (.v 0) (.v 1)) .nil)))) .snil) ρ') fuel [.shr (.int a), .shr (.int b)] = .nx [.shr (.int g), .shr (.int 0)] := by
  have stop : ∀ (fuel : Nat) (a : Int), 1 ≤ fuel → ∃ g : Int, g.natAbs = Int.gcd a 0 ∧ whL (fun ρ' => (ev φ κ (.cmp .ne (.v 1) (.k (.int 0))) ρ').bind truP) (fun ρ' => evS φ κ cx wf (.scons (.sasg (.tt (.cons (.tn 0) (.cons (.tn 1) .nil))) (.tup (.cons (.v 1) (.cons (.bin .mod (.v 0) (.v 1)) .nil)))) .snil) ρ') fuel [.shr (.int a), .shr (.int 0)] = .nx [.shr (.int g), .shr (.int 0)] := fun fuel a hf => by
    obtain ⟨f, rfl⟩ : ∃ f, fuel = f + 1 := ⟨fuel - 1, by omega⟩
    exact ⟨a, by simp, whL_end (by simp)⟩
  have step : ∀ (fuel : Nat) (a b : Int), b ≠ 0 → whL (fun ρ' => (ev φ κ (.cmp .ne (.v 1) (.k (.int 0))) ρ').bind truP) (fun ρ' => evS φ κ cx wf (.scons (.sasg (.tt (.cons (.tn 0) (.cons (.tn 1) .nil))) (.tup (.cons (.v 1) (.cons (.bin .mod (.v 0) (.v 1)) .nil)))) .snil) ρ') (fuel + 1) [.shr (.int a), .shr (.int b)] =
      whL (fun ρ' => (ev φ κ (.cmp .ne (.v 1) (.k (.int 0))) ρ').bind truP) (fun ρ' => evS φ κ cx wf (.scons (.sasg (.tt (.cons (.tn 0) (.cons (.tn 1) .nil))) (.tup (.cons (.v 1) (.cons (.bin .mod (.v 0) (.v 1)) .nil)))) .snil) ρ') fuel [.shr (.int b), .shr (.int (a.fmod b))] := fun fuel a b hb =>
    whL_step (by simp [hb]) (by simp [bin_mod hb])
  intro k
  induction k with
  | zero =>
    intro fuel a b hb hf
    have : b = 0 := by simpa using hb
    subst this
    exact stop fuel a (by omega)
  | succ k ih =>
    intro fuel a b hb hf
    by_cases h0 : b = 0
    · subst h0; exact stop fuel a (by omega)
    · obtain ⟨f, rfl⟩ : ∃ f, fuel = f + 1 := ⟨fuel - 1, by omega⟩
      rw [step f a b h0, ← gcd_fmod a b]
      by_cases hr : (a.fmod b).natAbs < 2 ^ k
      · exact ih f b (a.fmod b) hr (by omega)
      · have hr : 2 ^ k ≤ (a.fmod b).natAbs := by omega
        have p0 : 0 < 2 ^ k := Nat.pow_pos (by decide)
        have hr0 : a.fmod b ≠ 0 := by intro e; rw [e] at hr; simp at hr
        obtain ⟨f, rfl⟩ : ∃ f', f = f' + 1 := ⟨f - 1, by omega⟩
        rw [step f b (a.fmod b) hr0, ← gcd_fmod b (a.fmod b)]
        exact ih f (a.fmod b) (b.fmod (a.fmod b)) (fmod_two h0 hb hr) (by omega)
theorem common_ok {i : Nat} (h : TT i = some Zd.d_common) (hw : 100000 ≤ wf) {a b : Int} {k : Nat} (hk : k ≤ 40000) (hb : b.natAbs < 2 ^ k) : callN TT κ cx wf (n + 1) i [.int a, .int b] = .ok (.shr (.int (Int.gcd a b))) := by
  rw [callN_eq h rfl]
  unfold Zd.d_common startS
  obtain ⟨g, hg, e⟩ := gcd_loop (κ := κ) (cx := cx) (wf := wf) (callN TT κ cx wf n) k wf a b hb (by omega)
  have ab : biP .abs [.int g] = .ok (.int (Int.gcd a b)) := by
    show Res.ok (PV.int (if g < 0 then -g else g)) = _
    rw [← hg]
    congr 2
    split <;> omega
  refine seq_step _ _ (ρ' := [.shr (.int g), .shr (.int 0)]) ?_ ?_
  · rw [es_wh]; exact e
  · simp [ab]
/-- a number that goes into another one -/
theorem fdiv_neg_dvd {a g : Int} (h : g ∣ a) (hg : g ≠ 0) : a.fdiv (-g) = -(a / g) := by
  obtain ⟨c, rfl⟩ := h
  rw [Int.mul_ediv_cancel_left _ hg]
  have : g * c = (-c) * (-g) := by rw [Int.neg_mul_neg, Int.mul_comm]
  rw [this, Int.mul_fdiv_cancel _ (by omega)]
theorem least_ok {i j : Nat} (hi : TT i = some Zd.d_common) (hj : TT j = some ⟨2, 3, (.scons (.sset 2 (.call i (.cons (.v 0) (.cons (.v 1) .nil)))) (.scons (.sif (.cmp .lt (.v 1) (.k (.int 0))) (.scons (.sset 2 (.neg (.v 2))) .snil) .snil) (.scons (.sret (.tup (.cons (.bin .fdv (.v 0) (.v 2)) (.cons (.bin .fdv (.v 1) (.v 2)) .nil)))) .snil)))⟩) (hw : 100000 ≤ wf) {t b : Int} {k : Nat} (hk : k ≤ 8999) (h0 : b ≠ 0) (hb : b.natAbs < 2 ^ k) :
    callN TT κ cx wf (n + 2) j [.int t, .int b] = .ok (.shr (frP (Rat.divInt t b))) := by
  have hc := common_ok (κ := κ) (cx := cx) (n := n) hi hw (a := t) (by omega) hb
  rw [callN_eq hj rfl]
  unfold startS
  have g0 : (Int.gcd t b : Int) ≠ 0 := by
    have := Int.gcd_pos_of_ne_zero_right t h0
    omega
  have gl : (Int.gcd t b) ≤ b.natAbs := Int.gcd_le_natAbs_right t h0
  have lg : (Int.gcd t b).log2 < 9000 := by
    have := log2_small (n := Int.gcd t b) (k := k + 1) (Nat.lt_of_le_of_lt gl (Nat.lt_of_lt_of_le hb (Nat.pow_le_pow_right (by decide) (by omega)))) (by omega)
    omega
  have d1 := Int.gcd_dvd_left t b
  have d2 := Int.gcd_dvd_right t b
  have nn : 0 ≤ (Int.gcd t b : Int) := by omega
  unfold frP
  rw [Rat.num_divInt, Rat.den_divInt, if_neg h0]
  have gc : b.gcd t = t.gcd b := Int.gcd_comm b t
  rw [gc]
  rcases Int.lt_or_gt_of_ne h0 with hn | hp
  · have f1 : t.fdiv (-(Int.gcd t b : Int)) = b.sign * t / (Int.gcd t b : Int) := by
      rw [fdiv_neg_dvd d1 g0, Int.sign_eq_neg_one_of_neg hn, Int.neg_one_mul, Int.neg_ediv_of_dvd d1]
    have f2 : b.fdiv (-(Int.gcd t b : Int)) = ((b.natAbs / Int.gcd t b : Nat) : Int) := by
      rw [fdiv_neg_dvd d2 g0, ← Int.neg_ediv_of_dvd d2, Int.natCast_ediv]
      congr 1
      omega
    have b1 : ∀ x : Int, binP .fdv (.int x) (.int (-(Int.gcd t b : Int))) = .ok (.int (x.fdiv (-(Int.gcd t b : Int)))) := fun x => bin_fdvL (by omega) (by rw [Int.natAbs_neg]; exact lg)
    simp [hc, hn, b1, f1, f2]
  · have f1 : t.fdiv (Int.gcd t b : Int) = b.sign * t / (Int.gcd t b : Int) := by
      rw [Int.fdiv_eq_ediv_of_nonneg _ nn, Int.sign_eq_one_of_pos hp, Int.one_mul]
    have f2 : b.fdiv (Int.gcd t b : Int) = ((b.natAbs / Int.gcd t b : Nat) : Int) := by
      rw [Int.fdiv_eq_ediv_of_nonneg _ nn, Int.natCast_ediv]
      congr 1
      omega
    have b1 : ∀ x : Int, binP .fdv (.int x) (.int (Int.gcd t b : Int)) = .ok (.int (x.fdiv (Int.gcd t b : Int))) := fun x => bin_fdvL g0 lg
    have hp' : ¬ b < 0 := by omega
    simp [hc, hp', b1, f1, f2]
end
end Zp
end
section
namespace Zp
open Z
theorem divInt_sz {t b : Int} {m : Nat} (h0 : b ≠ 0) (ht : t.natAbs < 2 ^ m) (hb : b.natAbs < 2 ^ m) : Sz m (Rat.divInt t b) := by
  refine ⟨?_, ?_⟩
  · rw [Rat.num_divInt]
    have d : (b.gcd t : Int) ∣ b.sign * t := Int.dvd_mul_of_dvd_right (Int.gcd_dvd_right b t)
    rw [Int.natAbs_ediv_of_dvd d]
    refine Nat.lt_of_le_of_lt (Nat.div_le_self _ _) ?_
    rw [Int.natAbs_mul, Int.natAbs_sign_of_ne_zero h0, Nat.one_mul]
    exact ht
  · rw [Rat.den_divInt, if_neg h0]
    exact Nat.lt_of_le_of_lt (Nat.div_le_self _ _) hb
theorem two_mul_lt {a b k m : Nat} (ha : a < 2 ^ k) (hb : b < 2 ^ m) : a * b < 2 ^ (k + m) := by
  rw [Nat.pow_add]
  exact Nat.mul_lt_mul_of_lt_of_lt ha hb
theorem mul_abs {a b : Int} {k m : Nat} (ha : a.natAbs < 2 ^ k) (hb : b.natAbs < 2 ^ m) : (a * b).natAbs < 2 ^ (k + m) := by
  rw [Int.natAbs_mul]
  exact two_mul_lt ha hb
theorem add_abs {a b : Int} {k : Nat} (ha : a.natAbs < 2 ^ k) (hb : b.natAbs < 2 ^ k) : (a + b).natAbs < 2 ^ (k + 1) := by
  rw [Nat.pow_succ]
  have := Int.natAbs_add_le a b
  omega
theorem sub_abs {a b : Int} {k : Nat} (ha : a.natAbs < 2 ^ k) (hb : b.natAbs < 2 ^ k) : (a - b).natAbs < 2 ^ (k + 1) := by
  have := add_abs ha (b := -b) (by rw [Int.natAbs_neg]; exact hb)
  rwa [← Int.sub_eq_add_neg] at this
theorem bin_mulW {a b : Int} {k m : Nat} (ha : a.natAbs < 2 ^ k) (hb : b.natAbs < 2 ^ m) (h : k + m < 900000) : binP .mul (.int a) (.int b) = .ok (.int (a * b)) := by
  show (if mulOk a b = true then Res.ok (PV.int (a * b)) else .bad) = _
  have : mulOk a b = true := by
    unfold mulOk
    have h1 := log2_small (k := k + 1) (Nat.lt_of_lt_of_le ha (Nat.pow_le_pow_right (by decide) (Nat.le_succ _))) (by omega)
    have h2 := log2_small (k := m + 1) (Nat.lt_of_lt_of_le hb (Nat.pow_le_pow_right (by decide) (Nat.le_succ _))) (by omega)
    have : Nat.blt (a.natAbs.log2 + b.natAbs.log2) 1000000 = true := Nat.ble_eq_true_of_le (by omega)
    rw [this, Bool.or_true]
  rw [this]
  rfl
/-! the operations on fractions as on rational numbers -/
theorem add_eq (x y : Rat) : Rat.divInt (x.num * y.den + y.num * x.den) ((x.den : Int) * y.den) = x + y := by
  have := Rat.divInt_add_divInt x.num y.num (d₁ := x.den) (d₂ := y.den) (by have := x.den_nz; omega) (by have := y.den_nz; omega)
  rw [Rat.num_divInt_den, Rat.num_divInt_den] at this
  exact this.symm
theorem sub_eq (x y : Rat) : Rat.divInt (x.num * y.den - y.num * x.den) ((x.den : Int) * y.den) = x - y := by
  have := Rat.divInt_sub_divInt x.num y.num (d₁ := x.den) (d₂ := y.den) (by have := x.den_nz; omega) (by have := y.den_nz; omega)
  rw [Rat.num_divInt_den, Rat.num_divInt_den] at this
  exact this.symm
theorem mul_eq (x y : Rat) : Rat.divInt (x.num * y.num) ((x.den : Int) * y.den) = x * y := by
  have := Rat.divInt_mul_divInt x.num y.num (d₁ := x.den) (d₂ := y.den)
  rw [Rat.num_divInt_den, Rat.num_divInt_den] at this
  exact this.symm
theorem den_abs (x : Rat) : ((x.den : Int)).natAbs = x.den := Int.natAbs_natCast _
theorem den_ne (x : Rat) : (x.den : Int) ≠ 0 := by have := x.den_nz; omega
section
variable {k : Nat} {x y : Rat}
theorem Sz.add (hx : Sz k x) (hy : Sz k y) : Sz (2 * k + 1) (x + y) := by
  rw [← add_eq]
  refine divInt_sz (Int.mul_ne_zero (den_ne x) (den_ne y)) ?_ ?_
  · have e : 2 * k + 1 = k + k + 1 := by omega
    rw [e]
    exact add_abs (mul_abs hx.1 (by rw [den_abs]; exact hy.2)) (mul_abs hy.1 (by rw [den_abs]; exact hx.2))
  · have := mul_abs (a := x.den) (b := y.den) (k := k) (m := k) (by rw [den_abs]; exact hx.2) (by rw [den_abs]; exact hy.2)
    exact Nat.lt_of_lt_of_le this (Nat.pow_le_pow_right (by decide) (by omega))
theorem Sz.sub (hx : Sz k x) (hy : Sz k y) : Sz (2 * k + 1) (x - y) := by
  rw [← sub_eq]
  refine divInt_sz (Int.mul_ne_zero (den_ne x) (den_ne y)) ?_ ?_
  · have e : 2 * k + 1 = k + k + 1 := by omega
    rw [e]
    exact sub_abs (mul_abs hx.1 (by rw [den_abs]; exact hy.2)) (mul_abs hy.1 (by rw [den_abs]; exact hx.2))
  · have := mul_abs (a := x.den) (b := y.den) (k := k) (m := k) (by rw [den_abs]; exact hx.2) (by rw [den_abs]; exact hy.2)
    exact Nat.lt_of_lt_of_le this (Nat.pow_le_pow_right (by decide) (by omega))
theorem Sz.mul (hx : Sz k x) (hy : Sz k y) : Sz (2 * k) (x * y) := by
  rw [← mul_eq]
  have e : 2 * k = k + k := by omega
  rw [e]
  exact divInt_sz (Int.mul_ne_zero (den_ne x) (den_ne y)) (mul_abs hx.1 hy.1) (mul_abs (by rw [den_abs]; exact hx.2) (by rw [den_abs]; exact hy.2))
theorem Sz.neg (hx : Sz k x) : Sz k (-x) := ⟨by rw [Rat.neg_num, Int.natAbs_neg]; exact hx.1, by rw [Rat.neg_den]; exact hx.2⟩
theorem Sz.int {i : Int} (h : i.natAbs < 2 ^ k) (hk : 0 < k) : Sz k (i : Rat) := ⟨h, Nat.one_lt_two_pow (by omega)⟩
end
theorem fr_int (i : Int) : frP (i : Rat) = .tup [.int i, .int 1] := rfl
theorem ixf0 (q : Rat) : ixP (frP q) (.int 0) = .ok (.int q.num) := rfl
theorem ixf1 (q : Rat) : ixP (frP q) (.int 1) = .ok (.int (q.den : Int)) := rfl
/-- -1, 0 or 1 -/
def sgn (q : Rat) : Int := (if 0 < q then 1 else 0) - (if q < 0 then 1 else 0)
theorem num_pos_iff (q : Rat) : 0 < q.num ↔ 0 < q := by
  rw [Rat.lt_iff]
  simp
theorem num_neg_iff (q : Rat) : q.num < 0 ↔ q < 0 := by
  rw [Rat.lt_iff]
  simp
def lsT (j : Nat) : FnD := ⟨2, 3, (.scons (.sset 2 (.call j (.cons (.v 0) (.cons (.v 1) .nil)))) (.scons (.sif (.cmp .lt (.v 1) (.k (.int 0))) (.scons (.sset 2 (.neg (.v 2))) .snil) .snil) (.scons (.sret (.tup (.cons (.bin .fdv (.v 0) (.v 2)) (.cons (.bin .fdv (.v 1) (.v 2)) .nil)))) .snil)))⟩
def plT (j : Nat) : FnD := ⟨2, 2, (.scons (.sret (.call j (.cons (.bin .add (.bin .mul (.ix (.v 0) (.k (.int 0))) (.ix (.v 1) (.k (.int 1)))) (.bin .mul (.ix (.v 1) (.k (.int 0))) (.ix (.v 0) (.k (.int 1))))) (.cons (.bin .mul (.ix (.v 0) (.k (.int 1))) (.ix (.v 1) (.k (.int 1)))) .nil)))) .snil)⟩
def miT (j : Nat) : FnD := ⟨2, 2, (.scons (.sret (.call j (.cons (.bin .sub (.bin .mul (.ix (.v 0) (.k (.int 0))) (.ix (.v 1) (.k (.int 1)))) (.bin .mul (.ix (.v 1) (.k (.int 0))) (.ix (.v 0) (.k (.int 1))))) (.cons (.bin .mul (.ix (.v 0) (.k (.int 1))) (.ix (.v 1) (.k (.int 1)))) .nil)))) .snil)⟩
def tiT (j : Nat) : FnD := ⟨2, 2, (.scons (.sret (.call j (.cons (.bin .mul (.ix (.v 0) (.k (.int 0))) (.ix (.v 1) (.k (.int 0)))) (.cons (.bin .mul (.ix (.v 0) (.k (.int 1))) (.ix (.v 1) (.k (.int 1)))) .nil)))) .snil)⟩
def quT (j : Nat) : FnD := ⟨2, 2, (.scons (.sret (.call j (.cons (.bin .mul (.ix (.v 0) (.k (.int 0))) (.ix (.v 1) (.k (.int 1)))) (.cons (.bin .mul (.ix (.v 0) (.k (.int 1))) (.ix (.v 1) (.k (.int 0)))) .nil)))) .snil)⟩
section
variable (TT : Nat → Option FnD) (κ : Cons) (cx : Nat → Nat → Bool) (wf : Nat)
/-- least terms, by the def j -/
def LsAt (j : Nat) : Prop := ∀ (n : Nat) (t b : Int) (k : Nat), k ≤ 8999 → b ≠ 0 → b.natAbs < 2 ^ k → callN TT κ cx wf (n + 2) j [.int t, .int b] = .ok (.shr (frP (Rat.divInt t b)))
end
section
variable {TT : Nat → Option FnD} {κ : Cons} {cx : Nat → Nat → Bool} {wf : Nat} {n : Nat}
theorem lsAt {i j : Nat} (hi : TT i = some Zd.d_common) (hj : TT j = some (lsT i)) (hw : 100000 ≤ wf) : LsAt TT κ cx wf j := fun n t b k hk h0 hb => least_ok hi hj hw hk h0 hb
variable {i j k : Nat} {x y : Rat} (L : LsAt TT κ cx wf j)
include L
theorem plT_ok (h : TT i = some (plT j)) (hk : k ≤ 4000) (hx : Sz k x) (hy : Sz k y) : callN TT κ cx wf (n + 3) i [frP x, frP y] = .ok (.shr (frP (x + y))) := by
  rw [callN_eq h rfl]
  have dx := hx.2; have dy := hy.2
  rw [← den_abs x] at dx; rw [← den_abs y] at dy
  have m1 := bin_mulW (k := k) (m := k) hx.1 dy (by omega)
  have m2 := bin_mulW (k := k) (m := k) hy.1 dx (by omega)
  have m3 := bin_mulW (k := k) (m := k) dx dy (by omega)
  have l := L n (x.num * y.den + y.num * x.den) ((x.den : Int) * y.den) (k + k) (by omega) (Int.mul_ne_zero (den_ne x) (den_ne y)) (mul_abs dx dy)
  rw [add_eq] at l
  simp [plT, startS, ixf0, ixf1, m1, m2, m3, l]
theorem tiT_ok (h : TT i = some (tiT j)) (hk : k ≤ 4000) (hx : Sz k x) (hy : Sz k y) : callN TT κ cx wf (n + 3) i [frP x, frP y] = .ok (.shr (frP (x * y))) := by
  rw [callN_eq h rfl]
  have dx := hx.2; have dy := hy.2
  rw [← den_abs x] at dx; rw [← den_abs y] at dy
  have m1 := bin_mulW (k := k) (m := k) hx.1 hy.1 (by omega)
  have m3 := bin_mulW (k := k) (m := k) dx dy (by omega)
  have l := L n (x.num * y.num) ((x.den : Int) * y.den) (k + k) (by omega) (Int.mul_ne_zero (den_ne x) (den_ne y)) (mul_abs dx dy)
  rw [mul_eq] at l
  simp [tiT, startS, ixf0, ixf1, m1, m3, l]
end
section
variable {TT : Nat → Option FnD} {κ : Cons} {cx : Nat → Nat → Bool} {wf : Nat} {n : Nat} {i k : Nat} {x y : Rat}
theorem less_ok (h : TT i = some Zd.d_is_less) (hk : k ≤ 400000) (hx : Sz k x) (hy : Sz k y) : callN TT κ cx wf (n + 1) i [frP x, frP y] = .ok (.shr (.bl (decide (x < y)))) := by
  rw [callN_eq h rfl]
  have dx := hx.2; have dy := hy.2
  rw [← den_abs x] at dx; rw [← den_abs y] at dy
  have m1 := bin_mulW (k := k) (m := k) hx.1 dy (by omega)
  have m2 := bin_mulW (k := k) (m := k) hy.1 dx (by omega)
  have e : decide (x.num * y.den < y.num * x.den) = decide (x < y) := by
    congr 1
    exact propext (Rat.lt_iff x y).symm
  simp [Zd.d_is_less, startS, ixf0, ixf1, m1, m2, e]
theorem sign_ok (h : TT i = some Zd.d_sign_of) : callN TT κ cx wf (n + 1) i [frP x] = .ok (.shr (.int (sgn x))) := by
  rw [callN_eq h rfl]
  have e1 : decide (0 < x.num) = decide (0 < x) := by congr 1; exact propext (num_pos_iff x)
  have e2 : decide (x.num < 0) = decide (x < 0) := by congr 1; exact propext (num_neg_iff x)
  simp [Zd.d_sign_of, startS, ixf0, e1, e2, sgn]
theorem whole_fr (h : TT i = some Zd.d_whole) (a : Int) : callN TT κ cx wf (n + 1) i [.int a] = .ok (.shr (frP (a : Rat))) := by
  rw [callN_eq h rfl]
  simp [Zd.d_whole, startS, fr_int]
/-- the nearest whole number -/
def near (q : Rat) : Int := (2 * q.num + q.den) / (2 * q.den)
def lesR (x : Rat) (xs : List Rat) : Rat := xs.foldl (fun m x => if x < m then x else m) x
def grtR (x : Rat) (xs : List Rat) : Rat := xs.foldl (fun m x => if m < x then x else m) x
end
/-- the defs of fractions -/
structure HQ (TT : Nat → Option FnD) (wf : Nat) : Prop where
  w : 100000 ≤ wf
  h25 : TT 25 = some Zd.d_common
  h26 : TT 26 = some Zd.d_least
  h27 : TT 27 = some Zd.d_whole
  h28 : TT 28 = some Zd.d_plus
  h29 : TT 29 = some Zd.d_minus
  h30 : TT 30 = some Zd.d_times
  h31 : TT 31 = some Zd.d_quotient
  h32 : TT 32 = some Zd.d_is_less
  h33 : TT 33 = some Zd.d_lesser
  h34 : TT 34 = some Zd.d_greater
  h35 : TT 35 = some Zd.d_sign_of
section
variable {TT : Nat → Option FnD} {κ : Cons} {cx : Nat → Nat → Bool} {wf : Nat} {n : Nat} {k : Nat} {x y : Rat} (Q : HQ TT wf)
include Q
theorem HQ.ls : LsAt TT κ cx wf 26 := lsAt Q.h25 Q.h26 Q.w
theorem HQ.wh (a : Int) : callN TT κ cx wf (n + 1) 27 [.int a] = .ok (.shr (frP (a : Rat))) := whole_fr Q.h27 a
theorem HQ.pl (hk : k ≤ 4000) (hx : Sz k x) (hy : Sz k y) : callN TT κ cx wf (n + 3) 28 [frP x, frP y] = .ok (.shr (frP (x + y))) := plT_ok Q.ls Q.h28 hk hx hy
theorem HQ.ti (hk : k ≤ 4000) (hx : Sz k x) (hy : Sz k y) : callN TT κ cx wf (n + 3) 30 [frP x, frP y] = .ok (.shr (frP (x * y))) := tiT_ok Q.ls Q.h30 hk hx hy
theorem HQ.le (hk : k ≤ 400000) (hx : Sz k x) (hy : Sz k y) : callN TT κ cx wf (n + 1) 32 [frP x, frP y] = .ok (.shr (.bl (decide (x < y)))) := less_ok Q.h32 hk hx hy
theorem HQ.sg : callN TT κ cx wf (n + 1) 35 [frP x] = .ok (.shr (.int (sgn x))) := sign_ok Q.h35
end
/-- those that middles need -/
structure HQ0 (TT : Nat → Option FnD) (wf : Nat) : Prop where
  w : 100000 ≤ wf
  h25 : TT 25 = some Zd.d_common
  h26 : TT 26 = some Zd.d_least
  h27 : TT 27 = some Zd.d_whole
  h28 : TT 28 = some Zd.d_plus
  h31 : TT 31 = some Zd.d_quotient
theorem HQ.z {TT : Nat → Option FnD} {wf : Nat} (Q : HQ TT wf) : HQ0 TT wf := ⟨Q.w, Q.h25, Q.h26, Q.h27, Q.h28, Q.h31⟩
section
variable {TT : Nat → Option FnD} {κ : Cons} {cx : Nat → Nat → Bool} {wf : Nat} {n : Nat} {k : Nat} {x y : Rat} (Q : HQ0 TT wf)
include Q
theorem HQ0.ls : LsAt TT κ cx wf 26 := lsAt Q.h25 Q.h26 Q.w
theorem HQ0.wh (a : Int) : callN TT κ cx wf (n + 1) 27 [.int a] = .ok (.shr (frP (a : Rat))) := whole_fr Q.h27 a
theorem HQ0.pl (hk : k ≤ 4000) (hx : Sz k x) (hy : Sz k y) : callN TT κ cx wf (n + 3) 28 [frP x, frP y] = .ok (.shr (frP (x + y))) := plT_ok Q.ls Q.h28 hk hx hy
end
end Zp
end
section
/-! places, middles, segments -/
namespace Zd
open Z
def with_middles_b1 : Z.C := (.scons (.sapp 1 (.tup (.cons (.v 3) (.cons (.v 4) .nil)))) (.scons (.sasg (.tt (.cons (.tn 5) (.cons (.tn 6) .nil))) (.ix (.v 0) (.bin .mod (.bin .add (.v 2) (.k (.int 1))) (.bi .len (.cons (.v 0) .nil))))) (.scons (.sif (.an (.nt (.v 4)) (.nt (.v 6))) (.scons (.sset 7 (.comp [8] (.tn 8) (.seq (.tup (.cons (.k (.int 0)) (.cons (.k (.int 1)) .nil)))) (.k (.bl true)) (.call 31 (.cons (.call 28 (.cons (.ix (.v 3) (.v 8)) (.cons (.ix (.v 5) (.v 8)) .nil))) (.cons (.call 27 (.cons (.k (.int 2)) .nil)) .nil))))) (.scons (.sapp 1 (.tup (.cons (.bi .tuple (.cons (.v 7) .nil)) (.cons (.k (.bl true)) .nil)))) .snil)) .snil) .snil)))
def d_with_middles : Z.FnD := ⟨1, 9, (.scons (.sown 1 (.dsp .nil)) (.scons (.sfor (.tt (.cons (.tn 2) (.cons (.tt (.cons (.tn 3) (.cons (.tn 4) .nil))) .nil))) (.enu (.v 0)) with_middles_b1) (.scons (.sreo 1) .snil)))⟩
def d_places_of : Z.FnD := ⟨1, 4, (.scons (.sret (.call 39 (.cons (.comp [1, 2, 3] (.tt (.cons (.tn 1) (.cons (.tn 2) (.cons (.tn 3) .nil)))) (.seq (.v 0)) (.k (.bl true)) (.tup (.cons (.tup (.cons (.call 27 (.cons (.v 1) .nil)) (.cons (.call 27 (.cons (.v 2) .nil)) .nil))) (.cons (.cmp .eq (.v 3) (.k (.int 1))) .nil)))) .nil))) .snil)⟩
def segments_of_b1 : Z.C := (.scons (.sif (.ix (.ix (.v 2) (.bin .add (.v 4) (.k (.int 1)))) (.k (.int 1))) (.scons (.sapp 3 (.tup (.cons (.ix (.ix (.v 2) (.v 4)) (.k (.int 0))) (.cons (.ix (.ix (.v 2) (.bin .add (.v 4) (.k (.int 1)))) (.k (.int 0))) .nil)))) (.scons (.saug 4 .add (.k (.int 1))) .snil)) (.scons (.sapp 3 (.tup (.cons (.ix (.ix (.v 2) (.v 4)) (.k (.int 0))) (.cons (.ix (.ix (.v 2) (.bin .add (.v 4) (.k (.int 1)))) (.k (.int 0))) (.cons (.ix (.ix (.v 2) (.bin .add (.v 4) (.k (.int 2)))) (.k (.int 0))) .nil))))) (.scons (.saug 4 .add (.k (.int 2))) .snil))) .snil)
def d_segments_of : Z.FnD := ⟨1, 7, (.scons (.sset 1 (.ix (.comp [4, 5, 6] (.tt (.cons (.tn 4) (.cons (.tt (.cons (.tn 5) (.cons (.tn 6) .nil))) .nil))) (.enu (.v 0)) (.v 6) (.v 4)) (.k (.int 0)))) (.scons (.sset 2 (.bin .add (.sl (.v 0) (.v 1) .nop) (.sl (.v 0) .nop (.bin .add (.v 1) (.k (.int 1)))))) (.scons (.sown 3 (.dsp .nil)) (.scons (.sset 4 (.k (.int 0))) (.scons (.swh (.cmp .lt (.bin .add (.v 4) (.k (.int 1))) (.bi .len (.cons (.v 2) .nil))) segments_of_b1) (.scons (.sreo 3) .snil))))))⟩
def d_all_segments : Z.FnD := ⟨1, 2, (.scons (.sref (.comp [1] (.tn 1) (.seq (.v 0)) (.k (.bl true)) (.call 41 (.cons (.call 40 (.cons (.v 1) .nil)) .nil)))) .snil)⟩
end Zd
namespace Zp
open Z
abbrev Pq := Rat × Rat
abbrev Pl := Pq × Bool
def plP (p : Pq) : PV := .tup [frP p.1, frP p.2]
def rwP (r : Pl) : PV := .tup [plP r.1, .bl r.2]
def mid2 (a b : Pq) : Pq := ((a.1 + b.1) / 2, (a.2 + b.2) / 2)
def blk (a b : Pl) : List Pl := if a.2 || b.2 then [a] else [a, (mid2 a.1 b.1, true)]
def wm (z : Pl) : List Pl → List Pl
  | [] => []
  | a :: l => blk a (l.headD z) ++ wm z l
def withMid : List Pl → List Pl
  | [] => []
  | a :: l => wm a (a :: l)
inductive Seg where
  | ln (a b : Pq) | bd (a o b : Pq)
def sgP : Seg → PV
  | .ln a b => .tup [plP a, plP b]
  | .bd a o b => .tup [plP a, plP o, plP b]
def segs : List Pl → List Seg
  | a :: b :: r => if b.2 then .ln a.1 b.1 :: segs (b :: r) else match r with
    | c :: r' => .bd a.1 b.1 c.1 :: segs (c :: r')
    | [] => []
  | _ => []
def adj : List Pl → Prop
  | a :: b :: r => (a.2 = true ∨ b.2 = true) ∧ adj (b :: r)
  | _ => True
/-- the row from a place on, to it again -/
def rot (p : List Pl) (f : Nat) : List Pl := p.drop f ++ p.take (f + 1)
def lastOn (l : List Pl) : Prop := ∃ r a, l = r ++ [a] ∧ a.2 = true
/-- the first place that is on -/
def firstOn : List Pl → Nat
  | [] => 0
  | a :: r => if a.2 then 0 else firstOn r + 1
/-- all segments of places -/
def segsOf (p : List Pl) : List Seg := segs (rot p (firstOn p))
end Zp
end
section
namespace Zp
open Z
structure HG (TT : Nat → Option FnD) : Prop where
  h39 : TT 39 = some Zd.d_with_middles
  h40 : TT 40 = some Zd.d_places_of
  h41 : TT 41 = some Zd.d_segments_of
  h42 : TT 42 = some Zd.d_all_segments
def SzP (k : Nat) (p : Pq) : Prop := Sz k p.1 ∧ Sz k p.2
theorem SzP.mono {k m : Nat} {p : Pq} (h : SzP k p) (hm : k ≤ m) : SzP m p := ⟨h.1.mono hm, h.2.mono hm⟩
theorem Sz.two {k : Nat} (hk : 2 ≤ k) : Sz k (2 : Rat) := ⟨Nat.lt_of_lt_of_le (show 2 < 2 ^ 2 by decide) (Nat.pow_le_pow_right (by decide) hk), Nat.lt_of_lt_of_le (show 1 < 2 ^ 2 by decide) (Nat.pow_le_pow_right (by decide) hk)⟩
section
variable {TT : Nat → Option FnD} {κ : Cons} {cx : Nat → Nat → Bool} {wf : Nat} {n : Nat} (Q : HQ0 TT wf) (G : HG TT)
include Q G
end
end Zp
end
section
namespace Zp
open Z
section
variable {TT : Nat → Option FnD} {κ : Cons} {cx : Nat → Nat → Bool} {wf : Nat} {n : Nat} (Q : HQ0 TT wf) (G : HG TT)
include Q G
/-- places of a contour -/
def plOf (c : List Pt) : List Pl := c.map fun p => (((p.1 : Rat), (p.2.1 : Rat)), p.2.2 == 1)
/-- the segments of a contour -/
def coSegs (c : List Pt) : List Seg := segsOf (withMid (plOf c))
end
end Zp
end
section
/-! where a segment is, where it turns back -/
namespace Zd
open Z
def d_value_at : Z.FnD := ⟨3, 8, (.scons (.sset 3 (.ix (.ix (.v 0) (.k (.int 0))) (.v 1))) (.scons (.sif (.cmp .eq (.bi .len (.cons (.v 0) .nil)) (.k (.int 2))) (.scons (.sret (.call 28 (.cons (.v 3) (.cons (.call 30 (.cons (.v 2) (.cons (.call 29 (.cons (.ix (.ix (.v 0) (.k (.int 1))) (.v 1)) (.cons (.v 3) .nil))) .nil))) .nil)))) .snil) .snil) (.scons (.sasg (.tt (.cons (.tn 4) (.cons (.tn 5) .nil))) (.tup (.cons (.ix (.ix (.v 0) (.k (.int 1))) (.v 1)) (.cons (.ix (.ix (.v 0) (.k (.int 2))) (.v 1)) .nil)))) (.scons (.sset 6 (.call 29 (.cons (.call 27 (.cons (.k (.int 1)) .nil)) (.cons (.v 2) .nil)))) (.scons (.sset 7 (.call 28 (.cons (.call 30 (.cons (.call 30 (.cons (.v 6) (.cons (.v 6) .nil))) (.cons (.v 3) .nil))) (.cons (.call 30 (.cons (.call 30 (.cons (.v 2) (.cons (.v 2) .nil))) (.cons (.v 5) .nil))) .nil)))) (.scons (.sret (.call 28 (.cons (.v 7) (.cons (.call 30 (.cons (.call 30 (.cons (.call 27 (.cons (.k (.int 2)) .nil)) (.cons (.call 30 (.cons (.v 2) (.cons (.v 6) .nil))) .nil))) (.cons (.v 4) .nil))) .nil)))) .snil))))))⟩
def d_turn_time : Z.FnD := ⟨2, 8, (.scons (.sif (.cmp .eq (.bi .len (.cons (.v 0) .nil)) (.k (.int 2))) (.scons (.sret (.k .non)) .snil) .snil) (.scons (.sasg (.tt (.cons (.tn 2) (.cons (.tn 3) (.cons (.tn 4) .nil)))) (.comp [7] (.tn 7) (.seq (.v 0)) (.k (.bl true)) (.ix (.v 7) (.v 1)))) (.scons (.sset 5 (.call 28 (.cons (.call 29 (.cons (.v 2) (.cons (.call 30 (.cons (.call 27 (.cons (.k (.int 2)) .nil)) (.cons (.v 3) .nil))) .nil))) (.cons (.v 4) .nil)))) (.scons (.sif (.cmp .eq (.call 35 (.cons (.v 5) .nil)) (.k (.int 0))) (.scons (.sret (.k .non)) .snil) .snil) (.scons (.sset 6 (.call 31 (.cons (.call 29 (.cons (.v 2) (.cons (.v 3) .nil))) (.cons (.v 5) .nil)))) (.scons (.sret (.ife (.an (.call 32 (.cons (.call 27 (.cons (.k (.int 0)) .nil)) (.cons (.v 6) .nil))) (.call 32 (.cons (.v 6) (.cons (.call 27 (.cons (.k (.int 1)) .nil)) .nil)))) (.v 6) (.k .non))) .snil))))))⟩
def d_pieces : Z.FnD := ⟨1, 2, (.scons (.sset 1 (.call 51 (.cons (.v 0) (.cons (.k (.int 1)) .nil)))) (.scons (.sret (.ife (.cmp .isn (.v 1) (.k .non)) (.dsp (.cons (.call 27 (.cons (.k (.int 0)) .nil)) (.cons (.call 27 (.cons (.k (.int 1)) .nil)) .nil))) (.dsp (.cons (.call 27 (.cons (.k (.int 0)) .nil)) (.cons (.v 1) (.cons (.call 27 (.cons (.k (.int 1)) .nil)) .nil)))))) .snil))⟩
def d_flat_hit : Z.FnD := ⟨2, 6, (.scons (.sown 2 (.dsp (.cons (.ix (.ix (.v 0) (.k (.int 0))) (.k (.int 0))) (.cons (.ix (.ix (.v 0) (.neg (.k (.int 1)))) (.k (.int 0))) .nil)))) (.scons (.sset 3 (.call 51 (.cons (.v 0) (.cons (.k (.int 0)) .nil)))) (.scons (.sif (.cmp .nisn (.v 3) (.k .non)) (.scons (.sapp 2 (.call 50 (.cons (.v 0) (.cons (.k (.int 0)) (.cons (.v 3) .nil))))) .snil) .snil) (.scons (.sfrz 2) (.scons (.sasg (.tt (.cons (.tn 4) (.cons (.tn 5) .nil))) (.tup (.cons (.call 33 (.cons (.v 2) .nil)) (.cons (.call 34 (.cons (.v 2) .nil)) .nil)))) (.scons (.sret (.an (.cmp .eq (.ix (.ix (.v 0) (.k (.int 0))) (.k (.int 1))) (.ix (.v 1) (.k (.int 1)))) (.an (.nt (.call 32 (.cons (.ix (.v 1) (.k (.int 0))) (.cons (.v 4) .nil)))) (.nt (.call 32 (.cons (.v 5) (.cons (.ix (.v 1) (.k (.int 0))) .nil))))))) .snil))))))⟩
def d_is_flat : Z.FnD := ⟨1, 2, (.scons (.sret (.nt (.comp [1] (.tn 1) (.seq (.v 0)) (.cmp .ne (.ix (.v 1) (.k (.int 1))) (.ix (.ix (.v 0) (.k (.int 0))) (.k (.int 1)))) (.v 1)))) .snil)⟩
end Zd
namespace Zp
open Z
structure HV (TT : Nat → Option FnD) : Prop where
  h50 : TT 50 = some Zd.d_value_at
  h51 : TT 51 = some Zd.d_turn_time
structure HW (TT : Nat → Option FnD) : Prop where
  h56 : TT 56 = some Zd.d_pieces
  h59 : TT 59 = some Zd.d_flat_hit
  h60 : TT 60 = some Zd.d_is_flat
def axI (a : Bool) : Int := if a then 1 else 0
def ax (a : Bool) (p : Pq) : Rat := if a then p.2 else p.1
def SzS (k : Nat) : Seg → Prop
  | .ln a b => SzP k a ∧ SzP k b
  | .bd a o b => SzP k a ∧ SzP k o ∧ SzP k b
theorem SzP.ax {k : Nat} {p : Pq} (h : SzP k p) (a : Bool) : Sz k (ax a p) := by cases a; exact h.1; exact h.2
def valAt : Seg → Bool → Rat → Rat
  | .ln p q, a, t => ax a p + t * (ax a q - ax a p)
  | .bd p o q, a, t => ((1 - t) * (1 - t) * ax a p + t * t * ax a q) + 2 * (t * (1 - t)) * ax a o
def turnT : Seg → Bool → Option Rat
  | .ln _ _, _ => none
  | .bd p o q, a => let b := (ax a p - 2 * ax a o) + ax a q
    if b = 0 then none else let t := (ax a p - ax a o) / b
      if 0 < t ∧ t < 1 then some t else none
def optP : Option Rat → PV
  | none => .non
  | some t => frP t
theorem Sz.one {k : Nat} (hk : 1 ≤ k) : Sz k (1 : Rat) := ⟨Nat.lt_of_lt_of_le (show 1 < 2 ^ 1 by decide) (Nat.pow_le_pow_right (by decide) hk), Nat.lt_of_lt_of_le (show 1 < 2 ^ 1 by decide) (Nat.pow_le_pow_right (by decide) hk)⟩
theorem Sz.zero {k : Nat} (hk : 1 ≤ k) : Sz k (0 : Rat) := ⟨Nat.pow_pos (by decide), Nat.lt_of_lt_of_le (show 1 < 2 ^ 1 by decide) (Nat.pow_le_pow_right (by decide) hk)⟩
section
variable {TT : Nat → Option FnD} {κ : Cons} {cx : Nat → Nat → Bool} {wf : Nat} {n : Nat} (Q : HQ TT wf) (V : HV TT)
include Q V
end
end Zp
end
section
/-! how often lines go past -/
namespace Zd
open Z
def d_root_sign : Z.FnD := ⟨3, 5, (.scons (.sif (.or (.cmp .eq (.call 35 (.cons (.v 1) .nil)) (.k (.int 0))) (.cmp .eq (.call 35 (.cons (.v 2) .nil)) (.k (.int 0)))) (.scons (.sret (.call 35 (.cons (.v 0) .nil))) .snil) .snil) (.scons (.sif (.or (.cmp .eq (.call 35 (.cons (.v 0) .nil)) (.k (.int 0))) (.cmp .eq (.call 35 (.cons (.v 0) .nil)) (.call 35 (.cons (.v 1) .nil)))) (.scons (.sret (.call 35 (.cons (.v 1) .nil))) .snil) .snil) (.scons (.sset 3 (.call 30 (.cons (.v 0) (.cons (.v 0) .nil)))) (.scons (.sset 4 (.call 30 (.cons (.call 30 (.cons (.v 1) (.cons (.v 1) .nil))) (.cons (.v 2) .nil)))) (.scons (.sif (.cmp .eq (.v 3) (.v 4)) (.scons (.sret (.k (.int 0))) .snil) .snil) (.scons (.sret (.ife (.call 32 (.cons (.v 4) (.cons (.v 3) .nil))) (.call 35 (.cons (.v 0) .nil)) (.call 35 (.cons (.v 1) .nil)))) .snil))))))⟩
def d_side_of : Z.FnD := ⟨4, 18, (.scons (.sasg (.tt (.cons (.tn 4) (.cons (.tn 5) .nil))) (.v 3)) (.scons (.sif (.cmp .eq (.bi .len (.cons (.v 0) .nil)) (.k (.int 2))) (.scons (.sset 6 (.call 29 (.cons (.ix (.ix (.v 0) (.k (.int 1))) (.k (.int 1))) (.cons (.ix (.ix (.v 0) (.k (.int 0))) (.k (.int 1))) .nil)))) (.scons (.sset 7 (.call 31 (.cons (.call 29 (.cons (.v 5) (.cons (.ix (.ix (.v 0) (.k (.int 0))) (.k (.int 1))) .nil))) (.cons (.v 6) .nil)))) (.scons (.sret (.call 35 (.cons (.call 29 (.cons (.call 50 (.cons (.v 0) (.cons (.k (.int 0)) (.cons (.v 7) .nil)))) (.cons (.v 4) .nil))) .nil))) .snil))) .snil) (.scons (.sasg (.tt (.cons (.tn 8) (.cons (.tn 9) (.cons (.tn 10) .nil)))) (.comp [17] (.tn 17) (.seq (.v 0)) (.k (.bl true)) (.ix (.v 17) (.k (.int 1))))) (.scons (.sset 11 (.call 28 (.cons (.call 29 (.cons (.v 8) (.cons (.call 30 (.cons (.call 27 (.cons (.k (.int 2)) .nil)) (.cons (.v 9) .nil))) .nil))) (.cons (.v 10) .nil)))) (.scons (.sset 12 (.call 30 (.cons (.call 27 (.cons (.k (.int 2)) .nil)) (.cons (.call 29 (.cons (.v 9) (.cons (.v 8) .nil))) .nil)))) (.scons (.sset 13 (.call 29 (.cons (.v 8) (.cons (.v 5) .nil)))) (.scons (.sif (.cmp .eq (.call 35 (.cons (.v 11) .nil)) (.k (.int 0))) (.scons (.sret (.call 35 (.cons (.call 29 (.cons (.call 50 (.cons (.v 0) (.cons (.k (.int 0)) (.cons (.call 31 (.cons (.call 30 (.cons (.call 27 (.cons (.neg (.k (.int 1))) .nil)) (.cons (.v 13) .nil))) (.cons (.v 12) .nil))) .nil)))) (.cons (.v 4) .nil))) .nil))) .snil) .snil) (.scons (.sset 14 (.call 29 (.cons (.call 30 (.cons (.v 12) (.cons (.v 12) .nil))) (.cons (.call 30 (.cons (.call 27 (.cons (.k (.int 4)) .nil)) (.cons (.call 30 (.cons (.v 11) (.cons (.v 13) .nil))) .nil))) .nil)))) (.scons (.sset 15 (.call 32 (.cons (.call 50 (.cons (.v 0) (.cons (.k (.int 1)) (.cons (.v 1) .nil)))) (.cons (.call 50 (.cons (.v 0) (.cons (.k (.int 1)) (.cons (.v 2) .nil)))) .nil)))) (.scons (.sset 16 (.call 27 (.cons (.ife (.v 15) (.k (.int 1)) (.neg (.k (.int 1)))) .nil))) (.scons (.sret (.call 57 (.cons (.v 0) (.cons (.v 4) (.cons (.v 11) (.cons (.v 12) (.cons (.v 14) (.cons (.v 16) .nil)))))))) .snil)))))))))))⟩
def d_bend_side : Z.FnD := ⟨6, 17, (.scons (.sset 6 (.call 31 (.cons (.call 30 (.cons (.call 27 (.cons (.neg (.k (.int 1))) .nil)) (.cons (.v 3) .nil))) (.cons (.call 30 (.cons (.call 27 (.cons (.k (.int 2)) .nil)) (.cons (.v 2) .nil))) .nil)))) (.scons (.sset 7 (.call 31 (.cons (.v 5) (.cons (.call 30 (.cons (.call 27 (.cons (.k (.int 2)) .nil)) (.cons (.v 2) .nil))) .nil)))) (.scons (.sasg (.tt (.cons (.tn 8) (.cons (.tn 9) (.cons (.tn 10) .nil)))) (.comp [16] (.tn 16) (.seq (.v 0)) (.k (.bl true)) (.ix (.v 16) (.k (.int 0))))) (.scons (.sset 11 (.call 28 (.cons (.call 29 (.cons (.v 8) (.cons (.call 30 (.cons (.call 27 (.cons (.k (.int 2)) .nil)) (.cons (.v 9) .nil))) .nil))) (.cons (.v 10) .nil)))) (.scons (.sset 12 (.call 30 (.cons (.call 27 (.cons (.k (.int 2)) .nil)) (.cons (.call 29 (.cons (.v 9) (.cons (.v 8) .nil))) .nil)))) (.scons (.sset 13 (.call 28 (.cons (.call 30 (.cons (.v 6) (.cons (.v 6) .nil))) (.cons (.call 30 (.cons (.call 30 (.cons (.v 7) (.cons (.v 7) .nil))) (.cons (.v 4) .nil))) .nil)))) (.scons (.sset 14 (.call 28 (.cons (.call 28 (.cons (.call 30 (.cons (.v 11) (.cons (.v 13) .nil))) (.cons (.call 30 (.cons (.v 12) (.cons (.v 6) .nil))) .nil))) (.cons (.call 29 (.cons (.v 8) (.cons (.v 1) .nil))) .nil)))) (.scons (.sset 15 (.call 28 (.cons (.call 30 (.cons (.call 30 (.cons (.call 27 (.cons (.k (.int 2)) .nil)) (.cons (.v 11) .nil))) (.cons (.call 30 (.cons (.v 6) (.cons (.v 7) .nil))) .nil))) (.cons (.call 30 (.cons (.v 12) (.cons (.v 7) .nil))) .nil)))) (.scons (.sret (.call 55 (.cons (.v 14) (.cons (.v 15) (.cons (.v 4) .nil))))) .snil)))))))))⟩
def gone_past_b1 : Z.C := (.scons (.sasg (.tt (.cons (.tn 6) (.cons (.tn 7) .nil))) (.tup (.cons (.call 50 (.cons (.v 0) (.cons (.k (.int 1)) (.cons (.v 4) .nil)))) (.cons (.call 50 (.cons (.v 0) (.cons (.k (.int 1)) (.cons (.v 5) .nil)))) .nil)))) (.scons (.sset 8 (.call 32 (.cons (.v 6) (.cons (.v 7) .nil)))) (.scons (.sif (.nt (.v 8)) (.scons (.sasg (.tt (.cons (.tn 6) (.cons (.tn 7) .nil))) (.tup (.cons (.v 7) (.cons (.v 6) .nil)))) .snil) .snil) (.scons (.sif (.an (.nt (.call 32 (.cons (.ix (.v 1) (.k (.int 1))) (.cons (.v 6) .nil)))) (.nt (.call 32 (.cons (.v 7) (.cons (.ix (.v 1) (.k (.int 1))) .nil))))) (.scons (.sset 9 (.call 58 (.cons (.v 0) (.cons (.v 4) (.cons (.v 5) (.cons (.v 1) .nil)))))) (.scons (.sif (.cmp .eq (.v 9) (.k (.int 0))) (.scons (.sret (.k .non)) .snil) .snil) (.scons (.sif (.an (.cmp .gt (.v 9) (.k (.int 0))) (.cmp .ne (.ix (.v 1) (.k (.int 1))) (.v 7))) (.scons (.saug 2 .add (.ife (.v 8) (.k (.int 1)) (.neg (.k (.int 1))))) .snil) .snil) .snil))) .snil) .snil))))
def d_gone_past : Z.FnD := ⟨2, 10, (.scons (.sif (.call 60 (.cons (.v 0) .nil)) (.scons (.sret (.ife (.call 59 (.cons (.v 0) (.cons (.v 1) .nil))) (.k .non) (.k (.int 0)))) .snil) .snil) (.scons (.sset 2 (.k (.int 0))) (.scons (.sset 3 (.call 56 (.cons (.v 0) .nil))) (.scons (.sfor (.tt (.cons (.tn 4) (.cons (.tn 5) .nil))) (.zip (.v 3) (.sl (.v 3) (.k (.int 1)) .nop)) gone_past_b1) (.scons (.sret (.v 2)) .snil)))))⟩
def winding_of_b1 : Z.C := (.scons (.sset 5 (.call 61 (.cons (.v 4) (.cons (.v 1) .nil)))) (.scons (.sif (.cmp .isn (.v 5) (.k .non)) (.scons (.sret (.k .non)) .snil) .snil) (.scons (.saug 2 .add (.v 5)) .snil)))
def winding_of_b2 : Z.C := (.scons (.sfor (.tn 4) (.seq (.v 3)) winding_of_b1) .snil)
def d_winding_of : Z.FnD := ⟨2, 6, (.scons (.sset 2 (.k (.int 0))) (.scons (.sfor (.tn 3) (.seq (.v 0)) winding_of_b2) (.scons (.sret (.v 2)) .snil)))⟩
def d_look_place : Z.FnD := ⟨1, 2, (.scons (.sif (.or (.nt (.isi .tuple (.v 0))) (.or (.cmp .ne (.bi .len (.cons (.v 0) .nil)) (.k (.int 2))) (.comp [1] (.tn 1) (.seq (.v 0)) (.nt (.call 38 (.cons (.v 1) .nil))) (.v 1)))) (.scons (.srai 5 .nil) .snil) .snil) .snil)⟩
def d_winding : Z.FnD := ⟨2, 2, (.scons (.sexp (.call 4 (.cons (.v 0) .nil))) (.scons (.sexp (.call 63 (.cons (.v 1) .nil))) (.scons (.sret (.call 62 (.cons (.call 42 (.cons (.v 0) .nil)) (.cons (.v 1) .nil)))) .snil)))⟩
end Zd
namespace Zp
open Z
structure HX (TT : Nat → Option FnD) : Prop where
  h55 : TT 55 = some Zd.d_root_sign
  h57 : TT 57 = some Zd.d_bend_side
  h58 : TT 58 = some Zd.d_side_of
  h61 : TT 61 = some Zd.d_gone_past
  h62 : TT 62 = some Zd.d_winding_of
/-- a line, a place: how often it goes up past it on its right -/
def goneLn (a b P : Pq) : Option Int :=
  if a.2 = b.2 then (if a.2 = P.2 ∧ ¬ P.1 < lesR a.1 [b.1] ∧ ¬ grtR a.1 [b.1] < P.1 then none else some 0)
  else if a.2 < b.2 then (if ¬ P.2 < a.2 ∧ ¬ b.2 < P.2 then (
      let s := sgn (a.1 + (P.2 - a.2) / (b.2 - a.2) * (b.1 - a.1) - P.1)
      if s = 0 then none else if 0 < s ∧ P.2 ≠ b.2 then some 1 else some 0) else some 0)
  else (if ¬ P.2 < b.2 ∧ ¬ a.2 < P.2 then (
      let s := sgn (a.1 + (P.2 - a.2) / (b.2 - a.2) * (b.1 - a.1) - P.1)
      if s = 0 then none else if 0 < s ∧ P.2 ≠ a.2 then some (-1) else some 0) else some 0)
def oiP : Option Int → PV
  | none => .non
  | some i => .int i
def gs4 : C := (.sif (.an (.nt (.call 32 (.cons (.ix (.v 1) (.k (.int 1))) (.cons (.v 6) .nil)))) (.nt (.call 32 (.cons (.v 7) (.cons (.ix (.v 1) (.k (.int 1))) .nil))))) (.scons (.sset 9 (.call 58 (.cons (.v 0) (.cons (.v 4) (.cons (.v 5) (.cons (.v 1) .nil)))))) (.scons (.sif (.cmp .eq (.v 9) (.k (.int 0))) (.scons (.sret (.k .non)) .snil) .snil) (.scons (.sif (.an (.cmp .gt (.v 9) (.k (.int 0))) (.cmp .ne (.ix (.v 1) (.k (.int 1))) (.v 7))) (.scons (.saug 2 .add (.ife (.v 8) (.k (.int 1)) (.neg (.k (.int 1))))) .snil) .snil) .snil))) .snil)
section
variable {TT : Nat → Option FnD} {κ : Cons} {cx : Nat → Nat → Bool} {wf : Nat} {n : Nat} (Q : HQ TT wf) (V : HV TT) (W : HW TT) (X : HX TT)
include Q V W X
end
end Zp
end
section
/-! windings: sums that stop -/
namespace Zp
open Z
def sumG {α : Type} (gn : α → Option Int) (xs : List α) : Int := (xs.map fun x => (gn x).getD 0).sum
def wS {α : Type} (gn : α → Option Int) (xs : List α) : Option Int := if xs.any fun x => (gn x).isNone then none else some (sumG gn xs)
def pr {α : Type} : List α → List (α × α)
  | a :: b :: r => (a, b) :: pr (b :: r)
  | _ => []
section
variable {TT : Nat → Option FnD} {κ : Cons} {cx : Nat → Nat → Bool} {wf : Nat} {n : Nat} (X : HX TT)
include X
end
/-! all points on -/
def AllOn (c : List Pt) : Prop := ∀ p ∈ c, p.2.2 = 1
def segLn : List Pq → List Seg
  | a :: b :: r => .ln a b :: segLn (b :: r)
  | _ => []
def ptq (p : Pt) : Pq := ((p.1 : Rat), (p.2.1 : Rat))
end Zp
end
section
/-! the law's own segments -/
namespace Zd
open Z
def law_common_b1 : Z.C := (.scons (.sasg (.tt (.cons (.tn 0) (.cons (.tn 1) .nil))) (.tup (.cons (.v 1) (.cons (.bin .mod (.v 0) (.v 1)) .nil)))) .snil)
def d_law_common : Z.FnD := ⟨2, 2, (.scons (.swh (.cmp .ne (.v 1) (.k (.int 0))) law_common_b1) (.scons (.sret (.bi .abs (.cons (.v 0) .nil))) .snil))⟩
def d_law_least : Z.FnD := ⟨2, 3, (.scons (.sset 2 (.call 82 (.cons (.v 0) (.cons (.v 1) .nil)))) (.scons (.sset 2 (.ife (.cmp .lt (.v 1) (.k (.int 0))) (.neg (.v 2)) (.v 2))) (.scons (.sret (.tup (.cons (.bin .fdv (.v 0) (.v 2)) (.cons (.bin .fdv (.v 1) (.v 2)) .nil)))) .snil)))⟩
def law_segments_b1 : Z.C := (.scons (.sasg (.tt (.cons (.tn 3) (.cons (.tn 4) (.cons (.tn 5) .nil)))) (.ix (.v 0) (.v 2))) (.scons (.sapp 1 (.tup (.cons (.tup (.cons (.v 3) (.cons (.k (.int 1)) .nil))) (.cons (.tup (.cons (.v 4) (.cons (.k (.int 1)) .nil))) (.cons (.v 5) .nil))))) (.scons (.sset 6 (.ix (.v 0) (.bin .sub (.bin .add (.v 2) (.k (.int 1))) (.bi .len (.cons (.v 0) .nil))))) (.scons (.sif (.an (.cmp .eq (.v 5) (.k (.int 0))) (.cmp .eq (.ix (.v 6) (.k (.int 2))) (.k (.int 0)))) (.scons (.sapp 1 (.tup (.cons (.call 83 (.cons (.bin .add (.v 3) (.ix (.v 6) (.k (.int 0)))) (.cons (.k (.int 2)) .nil))) (.cons (.call 83 (.cons (.bin .add (.v 4) (.ix (.v 6) (.k (.int 1)))) (.cons (.k (.int 2)) .nil))) (.cons (.k (.int 1)) .nil))))) .snil) .snil) .snil))))
def law_segments_b2 : Z.C := (.scons (.sown 1 (.bin .add (.sl (.rd 1) (.k (.int 1)) .nop) (.sl (.rd 1) .nop (.k (.int 1))))) .snil)
def law_segments_b3 : Z.C := (.scons (.sapp 8 (.tup (.cons (.v 3) (.cons (.v 4) .nil)))) (.scons (.sif (.an (.cmp .eq (.v 5) (.k (.int 1))) (.cmp .gt (.bi .len (.cons (.rd 8) .nil)) (.k (.int 1)))) (.scons (.sapp 7 (.bi .tuple (.cons (.rd 8) .nil))) (.scons (.sown 8 (.dsp (.cons (.tup (.cons (.v 3) (.cons (.v 4) .nil))) .nil))) .snil)) .snil) .snil))
def d_law_segments : Z.FnD := ⟨1, 9, (.scons (.sown 1 (.dsp .nil)) (.scons (.sfor (.tn 2) (.rng1 (.bi .len (.cons (.v 0) .nil))) law_segments_b1) (.scons (.swh (.cmp .eq (.ix (.ix (.rd 1) (.k (.int 0))) (.k (.int 2))) (.k (.int 0))) law_segments_b2) (.scons (.sapp 1 (.ix (.rd 1) (.k (.int 0)))) (.scons (.sown 7 (.dsp .nil)) (.scons (.sown 8 (.dsp .nil)) (.scons (.sfrz 1) (.scons (.sfor (.tt (.cons (.tn 3) (.cons (.tn 4) (.cons (.tn 5) .nil)))) (.seq (.v 1)) law_segments_b3) (.scons (.sreo 7) .snil)))))))))⟩
end Zd
namespace Zp
open Z
structure HLS (TT : Nat → Option FnD) : Prop where
  h82 : TT 82 = some Zd.d_law_common
  h83 : TT 83 = some Zd.d_law_least
  h84 : TT 84 = some Zd.d_law_segments
section
variable {TT : Nat → Option FnD} {κ : Cons} {cx : Nat → Nat → Bool} {wf : Nat} {n : Nat}
end
def lwP (r : Pl) : PV := .tup [frP r.1.1, frP r.1.2, .int (if r.2 then 1 else 0)]
section
variable {TT : Nat → Option FnD} {κ : Cons} {cx : Nat → Nat → Bool} {wf : Nat} {n : Nat}
end
end Zp
end
section
namespace Zd
open Z
def d_segments : Z.FnD := ⟨1, 1, (.scons (.sexp (.call 4 (.cons (.v 0) .nil))) (.scons (.sret (.call 42 (.cons (.v 0) .nil))) .snil))⟩
def law_5_b1 : Z.C := (.scons (.sif (.cmp .ne (.ix (.v 4) (.neg (.k (.int 1)))) (.ix (.v 5) (.k (.int 0)))) (.scons (.sret (.k (.bl false))) .snil) .snil) .snil)
def law_5_b2 : Z.C := (.scons (.sfor (.tt (.cons (.tn 4) (.cons (.tn 5) .nil))) (.zip (.v 3) (.bin .add (.sl (.v 3) (.k (.int 1)) .nop) (.sl (.v 3) .nop (.k (.int 1))))) law_5_b1) .snil)
def d_law_5 : Z.FnD := ⟨1, 7, (.scons (.sset 1 (.call 14 (.cons (.v 0) (.cons (.k (.int 2)) .nil)))) (.scons (.sset 2 (.call 43 (.cons (.v 1) .nil))) (.scons (.sif (.cmp .ne (.v 2) (.comp [6] (.tn 6) (.seq (.v 1)) (.k (.bl true)) (.call 84 (.cons (.v 6) .nil)))) (.scons (.sret (.k (.bl false))) .snil) .snil) (.scons (.sfor (.tn 3) (.seq (.v 2)) law_5_b2) (.scons (.sret (.k (.bl true))) .snil)))))⟩
end Zd
namespace Zp
open Z
def sSt : Seg → Pq
  | .ln a _ => a
  | .bd a _ _ => a
def sEn : Seg → Pq
  | .ln _ b => b
  | .bd _ _ b => b
def chn : Pq → List Seg → Pq → Prop
  | p, [], q => p = q
  | p, s :: r, q => sSt s = p ∧ chn (sEn s) r q
def mat : List Seg → List Seg → Prop
  | x :: xs, y :: ys => sEn x = sSt y ∧ mat xs ys
  | _, _ => True
structure H03 (TT : Nat → Option FnD) (κ : Cons) (wf : Nat) : Prop where
  T : HS TT κ
  L : HLs TT
  Q : HQ0 TT wf
  G : HG TT
  S : HLS TT
  h43 : TT 43 = some Zd.d_segments
  h85 : TT 85 = some Zd.d_law_5
section
variable {TT : Nat → Option FnD} {κ : Cons} {cx : Nat → Nat → Bool} {wf : Nat} {n : Nat} (Y : H03 TT κ wf)
include Y
end
end Zp
end
section
/-! areas -/
namespace Zd
open Z
def d_cross : Z.FnD := ⟨2, 2, (.scons (.sret (.call 29 (.cons (.call 30 (.cons (.ix (.v 0) (.k (.int 0))) (.cons (.ix (.v 1) (.k (.int 1))) .nil))) (.cons (.call 30 (.cons (.ix (.v 0) (.k (.int 1))) (.cons (.ix (.v 1) (.k (.int 0))) .nil))) .nil)))) .snil)⟩
def d_part_area : Z.FnD := ⟨1, 5, (.scons (.sif (.cmp .eq (.bi .len (.cons (.v 0) .nil)) (.k (.int 2))) (.scons (.sret (.call 44 (.cons (.ix (.v 0) (.k (.int 0))) (.cons (.ix (.v 0) (.k (.int 1))) .nil)))) .snil) .snil) (.scons (.sasg (.tt (.cons (.tn 1) (.cons (.tn 2) (.cons (.tn 3) .nil)))) (.v 0)) (.scons (.sset 4 (.call 28 (.cons (.call 30 (.cons (.call 27 (.cons (.k (.int 2)) .nil)) (.cons (.call 28 (.cons (.call 44 (.cons (.v 1) (.cons (.v 2) .nil))) (.cons (.call 44 (.cons (.v 2) (.cons (.v 3) .nil))) .nil))) .nil))) (.cons (.call 44 (.cons (.v 1) (.cons (.v 3) .nil))) .nil)))) (.scons (.sret (.call 31 (.cons (.v 4) (.cons (.call 27 (.cons (.k (.int 3)) .nil)) .nil)))) .snil))))⟩
def contour_area_b1 : Z.C := (.scons (.sset 1 (.call 28 (.cons (.v 1) (.cons (.call 45 (.cons (.v 2) .nil)) .nil)))) .snil)
def d_contour_area : Z.FnD := ⟨1, 3, (.scons (.sset 1 (.call 27 (.cons (.k (.int 0)) .nil))) (.scons (.sfor (.tn 2) (.seq (.v 0)) contour_area_b1) (.scons (.sret (.call 31 (.cons (.v 1) (.cons (.call 27 (.cons (.k (.int 2)) .nil)) .nil)))) .snil)))⟩
def d_areas_of : Z.FnD := ⟨1, 2, (.scons (.sref (.comp [1] (.tn 1) (.seq (.call 42 (.cons (.v 0) .nil))) (.k (.bl true)) (.call 46 (.cons (.v 1) .nil)))) .snil)⟩
def d_areas : Z.FnD := ⟨1, 1, (.scons (.sexp (.call 4 (.cons (.v 0) .nil))) (.scons (.sret (.call 47 (.cons (.v 0) .nil))) .snil))⟩
def area_b1 : Z.C := (.scons (.sset 1 (.call 28 (.cons (.v 1) (.cons (.v 2) .nil)))) .snil)
def d_area : Z.FnD := ⟨1, 3, (.scons (.sset 1 (.call 27 (.cons (.k (.int 0)) .nil))) (.scons (.sfor (.tn 2) (.seq (.call 48 (.cons (.v 0) .nil))) area_b1) (.scons (.sret (.v 1)) .snil)))⟩
end Zd
namespace Zp
open Z
/-- a fraction of so many parts -/
def Fr (d M : Nat) (q : Rat) : Prop := ∃ i : Int, q = (i : Rat) / (d : Rat) ∧ i.natAbs ≤ M
theorem Fr.mono {d M N : Nat} {q : Rat} (h : Fr d M q) (hM : M ≤ N) : Fr d N q := by
  obtain ⟨i, e, hi⟩ := h
  exact ⟨i, e, by omega⟩
theorem natRat_ne {d : Nat} (h : 0 < d) : (d : Rat) ≠ 0 := by
  have : (0 : Rat) < (d : Rat) := by exact_mod_cast h
  grind
theorem Fr.add {d M N : Nat} {x y : Rat} (h : Fr d M x) (h' : Fr d N y) : Fr d (M + N) (x + y) := by
  obtain ⟨i, e, hi⟩ := h
  obtain ⟨j, f, hj⟩ := h'
  refine ⟨i + j, ?_, by omega⟩
  rw [e, f]
  push_cast
  grind
theorem Fr.sub {d M N : Nat} {x y : Rat} (h : Fr d M x) (h' : Fr d N y) : Fr d (M + N) (x - y) := by
  obtain ⟨i, e, hi⟩ := h
  obtain ⟨j, f, hj⟩ := h'
  refine ⟨i - j, ?_, by omega⟩
  rw [e, f]
  push_cast
  grind
theorem Fr.mul {d c M N : Nat} {x y : Rat} (h : Fr d M x) (h' : Fr c N y) (hd : 0 < d) (hc : 0 < c) : Fr (d * c) (M * N) (x * y) := by
  obtain ⟨i, e, hi⟩ := h
  obtain ⟨j, f, hj⟩ := h'
  refine ⟨i * j, ?_, by rw [Int.natAbs_mul]; exact Nat.mul_le_mul hi hj⟩
  have h1 := natRat_ne hd
  have h2 := natRat_ne hc
  rw [e, f]
  push_cast
  grind
theorem Fr.up {d M : Nat} {x : Rat} (h : Fr d M x) (c : Nat) (hd : 0 < d) (hc : 0 < c) : Fr (d * c) (M * c) x := by
  obtain ⟨i, e, hi⟩ := h
  refine ⟨i * c, ?_, by rw [Int.natAbs_mul, Int.natAbs_natCast]; exact Nat.mul_le_mul_right _ hi⟩
  have h1 := natRat_ne hd
  have h2 := natRat_ne hc
  rw [e]
  push_cast
  grind
theorem Fr.int (i : Int) : Fr 1 i.natAbs (i : Rat) := ⟨i, by grind, Nat.le_refl _⟩
/-! places of segments -/
def AllS (P : Pq → Prop) : Seg → Prop
  | .ln a b => P a ∧ P b
  | .bd a o b => P a ∧ P o ∧ P b
def Hf (p : Pq) : Prop := Fr 2 (2 ^ 22) p.1 ∧ Fr 2 (2 ^ 22) p.2
/-! areas -/
def crR (a b : Pq) : Rat := a.1 * b.2 - a.2 * b.1
def partA : Seg → Rat
  | .ln a b => crR a b
  | .bd a o b => (2 * (crR a o + crR o b) + crR a b) / 3
def sumA (ss : List Seg) : Rat := ss.foldl (fun f s => f + partA s) 0
def coA (ss : List Seg) : Rat := sumA ss / 2
structure HA (TT : Nat → Option FnD) : Prop where
  h44 : TT 44 = some Zd.d_cross
  h45 : TT 45 = some Zd.d_part_area
  h46 : TT 46 = some Zd.d_contour_area
  h47 : TT 47 = some Zd.d_areas_of
  h48 : TT 48 = some Zd.d_areas
structure HQA (TT : Nat → Option FnD) (wf : Nat) : Prop where
  w : 100000 ≤ wf
  h25 : TT 25 = some Zd.d_common
  h26 : TT 26 = some Zd.d_least
  h27 : TT 27 = some Zd.d_whole
  h28 : TT 28 = some Zd.d_plus
  h29 : TT 29 = some Zd.d_minus
  h30 : TT 30 = some Zd.d_times
  h31 : TT 31 = some Zd.d_quotient
section
variable {TT : Nat → Option FnD} {κ : Cons} {cx : Nat → Nat → Bool} {wf : Nat} {n : Nat} {k : Nat} {x y : Rat} (Q : HQA TT wf)
include Q
theorem HQA.ls : LsAt TT κ cx wf 26 := lsAt Q.h25 Q.h26 Q.w
theorem HQA.wh (a : Int) : callN TT κ cx wf (n + 1) 27 [.int a] = .ok (.shr (frP (a : Rat))) := whole_fr Q.h27 a
theorem HQA.pl (hk : k ≤ 4000) (hx : Sz k x) (hy : Sz k y) : callN TT κ cx wf (n + 3) 28 [frP x, frP y] = .ok (.shr (frP (x + y))) := plT_ok Q.ls Q.h28 hk hx hy
theorem HQA.ti (hk : k ≤ 4000) (hx : Sz k x) (hy : Sz k y) : callN TT κ cx wf (n + 3) 30 [frP x, frP y] = .ok (.shr (frP (x * y))) := tiT_ok Q.ls Q.h30 hk hx hy
end
end Zp
end
section
/-! the law's own areas -/
namespace Zd
open Z
def d_law_cross : Z.FnD := ⟨2, 4, (.scons (.sset 2 (.call 88 (.cons (.ix (.v 0) (.k (.int 0))) (.cons (.ix (.v 1) (.k (.int 1))) .nil)))) (.scons (.sset 3 (.call 88 (.cons (.ix (.v 0) (.k (.int 1))) (.cons (.ix (.v 1) (.k (.int 0))) .nil)))) (.scons (.sret (.call 87 (.cons (.v 2) (.cons (.tup (.cons (.neg (.ix (.v 3) (.k (.int 0)))) (.cons (.ix (.v 3) (.k (.int 1))) .nil))) .nil)))) .snil)))⟩
def law_area_b1 : Z.C := (.scons (.sif (.cmp .eq (.bi .len (.cons (.v 2) .nil)) (.k (.int 2))) (.scons (.sset 1 (.call 87 (.cons (.v 1) (.cons (.call 88 (.cons (.tup (.cons (.k (.int 3)) (.cons (.k (.int 1)) .nil))) (.cons (.call 89 (.cons (.ix (.v 2) (.k (.int 0))) (.cons (.ix (.v 2) (.k (.int 1))) .nil))) .nil))) .nil)))) .snil) (.scons (.sasg (.tt (.cons (.tn 3) (.cons (.tn 4) (.cons (.tn 5) .nil)))) (.v 2)) (.scons (.sset 6 (.call 87 (.cons (.call 89 (.cons (.v 3) (.cons (.v 4) .nil))) (.cons (.call 89 (.cons (.v 4) (.cons (.v 5) .nil))) .nil)))) (.scons (.sset 1 (.call 87 (.cons (.v 1) (.cons (.call 87 (.cons (.call 88 (.cons (.tup (.cons (.k (.int 2)) (.cons (.k (.int 1)) .nil))) (.cons (.v 6) .nil))) (.cons (.call 89 (.cons (.v 3) (.cons (.v 5) .nil))) .nil))) .nil)))) .snil)))) .snil)
def d_law_area : Z.FnD := ⟨1, 7, (.scons (.sset 1 (.tup (.cons (.k (.int 0)) (.cons (.k (.int 1)) .nil)))) (.scons (.sfor (.tn 2) (.seq (.call 84 (.cons (.v 0) .nil))) law_area_b1) (.scons (.sret (.call 88 (.cons (.v 1) (.cons (.tup (.cons (.k (.int 1)) (.cons (.k (.int 6)) .nil))) .nil)))) .snil)))⟩
end Zd
namespace Zp
open Z
def partL : Seg → Rat
  | .ln a b => 3 * crR a b
  | .bd a o b => 2 * (crR a o + crR o b) + crR a b
structure HLA (TT : Nat → Option FnD) : Prop where
  h87 : TT 87 = some (plT 83)
  h88 : TT 88 = some (tiT 83)
  h89 : TT 89 = some Zd.d_law_cross
  h90 : TT 90 = some Zd.d_law_area
section
variable {TT : Nat → Option FnD} {κ : Cons} {cx : Nat → Nat → Bool} {wf : Nat} {n : Nat} (S : HLS TT) (L : HLA TT) (w : 100000 ≤ wf)
include S L w
end
end Zp
end
section
/-! bounds -/
namespace Zd
def d_reaches : Z.FnD := ⟨2, 4, (.scons (.sset 2 (.dsp (.cons (.ix (.ix (.v 0) (.k (.int 0))) (.v 1)) (.cons (.ix (.ix (.v 0) (.neg (.k (.int 1)))) (.v 1)) .nil)))) (.scons (.sset 3 (.call 51 (.cons (.v 0) (.cons (.v 1) .nil)))) (.scons (.sret (.ife (.cmp .isn (.v 3) (.k .non)) (.v 2) (.bin .add (.v 2) (.dsp (.cons (.call 50 (.cons (.v 0) (.cons (.v 1) (.cons (.v 3) .nil)))) .nil))))) .snil)))⟩
def bounds_of_2_b1 : Z.C := (.scons (.sex2 1 (.v 4) (.call 52 (.cons (.v 3) (.cons (.v 4) .nil)))) .snil)
def bounds_of_2_b2 : Z.C := (.scons (.sfor (.tn 4) (.seq (.tup (.cons (.k (.int 0)) (.cons (.k (.int 1)) .nil)))) bounds_of_2_b1) .snil)
def bounds_of_2_b3 : Z.C := (.scons (.sfor (.tn 3) (.seq (.v 2)) bounds_of_2_b2) .snil)
def d_bounds_of_2 : Z.FnD := ⟨1, 5, (.scons (.sif (.nt (.v 0)) (.scons (.sret (.k .non)) .snil) .snil) (.scons (.sow2 1 2) (.scons (.sfor (.tn 2) (.seq (.call 42 (.cons (.v 0) .nil))) bounds_of_2_b3) (.scons (.sfrz 1) (.scons (.sret (.tup (.cons (.call 33 (.cons (.ix (.v 1) (.k (.int 0))) .nil)) (.cons (.call 33 (.cons (.ix (.v 1) (.k (.int 1))) .nil)) (.cons (.call 34 (.cons (.ix (.v 1) (.k (.int 0))) .nil)) (.cons (.call 34 (.cons (.ix (.v 1) (.k (.int 1))) .nil)) .nil)))))) .snil)))))⟩
def d_bounds_2 : Z.FnD := ⟨1, 1, (.scons (.sexp (.call 4 (.cons (.v 0) .nil))) (.scons (.sret (.call 230 (.cons (.v 0) .nil))) .snil))⟩
end Zd
namespace Zp
open Z
structure HB (TT : Nat → Option FnD) : Prop where
  h52 : TT 52 = some Zd.d_reaches
  h230 : TT 230 = some Zd.d_bounds_of_2
structure HR (TT : Nat → Option FnD) : Prop where
  h52 : TT 52 = some Zd.d_reaches
/-- the values among which are the least and the greatest -/
def reR (s : Seg) (a : Bool) : List Rat := [ax a (sSt s), ax a (sEn s)] ++ (match turnT s a with | none => [] | some t => [valAt s a t])
/-- of the size k, the time at which it turns back, too -/
def SzT (k : Nat) (s : Seg) : Prop := SzS k s ∧ ∀ a t, turnT s a = some t → Sz k t
theorem AllS.imp {P Q : Pq → Prop} (hPQ : ∀ a, P a → Q a) {s : Seg} (h : AllS P s) : AllS Q s := by
  cases s with
  | ln a b => exact ⟨hPQ _ h.1, hPQ _ h.2⟩
  | bd a o b => exact ⟨hPQ _ h.1, hPQ _ h.2.1, hPQ _ h.2.2⟩
theorem SzS.st {k : Nat} {s : Seg} (h : SzS k s) (a : Bool) : Sz k (ax a (sSt s)) := by cases s <;> exact h.1.ax a
theorem SzS.en {k : Nat} {s : Seg} (h : SzS k s) (a : Bool) : Sz k (ax a (sEn s)) := by
  cases s with
  | ln p q => exact h.2.ax a
  | bd p o q => exact h.2.2.ax a
section
variable {TT : Nat → Option FnD} {κ : Cons} {cx : Nat → Nat → Bool} {wf : Nat} {n : Nat} (Q : HQ TT wf) (V : HV TT) (R : HR TT)
include Q V R
end
def lo (l : List Rat) : Rat := lesR (l.headD 0) l.tail
def hi (l : List Rat) : Rat := grtR (l.headD 0) l.tail
/-- all values on an axis -/
def bxS (r : List Seg) (a : Bool) : List Rat := r.flatMap fun s => reR s a
def bxV (rows : List (List Seg)) (a : Bool) : List Rat := rows.flatMap fun r => bxS r a
def bndP (rows : List (List Seg)) : PV := .tup [frP (lo (bxV rows false)), frP (lo (bxV rows true)), frP (hi (bxV rows false)), frP (hi (bxV rows true))]
section
variable {TT : Nat → Option FnD} {κ : Cons} {cx : Nat → Nat → Bool} {wf : Nat} {n : Nat} (Q : HQ TT wf) (V : HV TT) (B : HB TT)
include Q V B
end
end Zp
end
section
/-! bounds: what they hold -/
namespace Zd
def d_law_below : Z.FnD := ⟨2, 2, (.scons (.sret (.cmp .lt (.bin .mul (.ix (.v 0) (.k (.int 0))) (.ix (.v 1) (.k (.int 1)))) (.bin .mul (.ix (.v 1) (.k (.int 0))) (.ix (.v 0) (.k (.int 1)))))) .snil)⟩
def law_at_b1 : Z.C := (.scons (.sif (.cmp .eq (.bi .len (.cons (.v 0) .nil)) (.k (.int 2))) (.scons (.sset 5 (.call 87 (.cons (.call 88 (.cons (.v 2) (.cons (.ix (.ix (.v 0) (.k (.int 0))) (.v 4)) .nil))) (.cons (.call 88 (.cons (.v 1) (.cons (.ix (.ix (.v 0) (.k (.int 1))) (.v 4)) .nil))) .nil)))) .snil) (.scons (.sset 5 (.call 88 (.cons (.call 88 (.cons (.v 2) (.cons (.v 2) .nil))) (.cons (.ix (.ix (.v 0) (.k (.int 0))) (.v 4)) .nil)))) (.scons (.sset 5 (.call 87 (.cons (.v 5) (.cons (.call 88 (.cons (.call 88 (.cons (.tup (.cons (.k (.int 2)) (.cons (.k (.int 1)) .nil))) (.cons (.call 88 (.cons (.v 2) (.cons (.v 1) .nil))) .nil))) (.cons (.ix (.ix (.v 0) (.k (.int 1))) (.v 4)) .nil))) .nil)))) (.scons (.sset 5 (.call 87 (.cons (.v 5) (.cons (.call 88 (.cons (.call 88 (.cons (.v 1) (.cons (.v 1) .nil))) (.cons (.ix (.ix (.v 0) (.k (.int 2))) (.v 4)) .nil))) .nil)))) .snil)))) (.scons (.sapp 3 (.v 5)) .snil))
def d_law_at : Z.FnD := ⟨2, 6, (.scons (.sset 2 (.call 87 (.cons (.tup (.cons (.k (.int 1)) (.cons (.k (.int 1)) .nil))) (.cons (.tup (.cons (.neg (.ix (.v 1) (.k (.int 0)))) (.cons (.ix (.v 1) (.k (.int 1))) .nil))) .nil)))) (.scons (.sown 3 (.dsp .nil)) (.scons (.sfor (.tn 4) (.rng1 (.k (.int 2))) law_at_b1) (.scons (.sret (.bi .tuple (.cons (.rd 3) .nil))) .snil))))⟩
def d_law_turn : Z.FnD := ⟨2, 9, (.scons (.sif (.cmp .eq (.bi .len (.cons (.v 0) .nil)) (.k (.int 2))) (.scons (.sret (.k .non)) .snil) .snil) (.scons (.sasg (.tt (.cons (.tn 2) (.cons (.tn 3) (.cons (.tn 4) .nil)))) (.comp [8] (.tn 8) (.seq (.v 0)) (.k (.bl true)) (.ix (.v 8) (.v 1)))) (.scons (.sset 5 (.call 87 (.cons (.call 87 (.cons (.v 2) (.cons (.v 4) .nil))) (.cons (.call 88 (.cons (.tup (.cons (.neg (.k (.int 2))) (.cons (.k (.int 1)) .nil))) (.cons (.v 3) .nil))) .nil)))) (.scons (.sset 6 (.call 87 (.cons (.v 2) (.cons (.tup (.cons (.neg (.ix (.v 3) (.k (.int 0)))) (.cons (.ix (.v 3) (.k (.int 1))) .nil))) .nil)))) (.scons (.sif (.cmp .eq (.ix (.v 5) (.k (.int 0))) (.k (.int 0))) (.scons (.sret (.k .non)) .snil) .snil) (.scons (.sset 7 (.call 83 (.cons (.bin .mul (.ix (.v 6) (.k (.int 0))) (.ix (.v 5) (.k (.int 1)))) (.cons (.bin .mul (.ix (.v 6) (.k (.int 1))) (.ix (.v 5) (.k (.int 0)))) .nil)))) (.scons (.sret (.ife (.chn .lt .lt (.k (.int 0)) (.ix (.v 7) (.k (.int 0))) (.ix (.v 7) (.k (.int 1)))) (.v 7) (.k .non))) .snil)))))))⟩
def law_low_b1 : Z.C := (.scons (.sset 1 (.ife (.call 99 (.cons (.v 2) (.cons (.v 1) .nil))) (.v 2) (.v 1))) .snil)
def d_law_low : Z.FnD := ⟨1, 3, (.scons (.sset 1 (.ix (.v 0) (.k (.int 0)))) (.scons (.sfor (.tn 2) (.seq (.v 0)) law_low_b1) (.scons (.sret (.v 1)) .snil)))⟩
def law_high_b1 : Z.C := (.scons (.sset 1 (.ife (.call 99 (.cons (.v 1) (.cons (.v 2) .nil))) (.v 2) (.v 1))) .snil)
def d_law_high : Z.FnD := ⟨1, 3, (.scons (.sset 1 (.ix (.v 0) (.k (.int 0)))) (.scons (.sfor (.tn 2) (.seq (.v 0)) law_high_b1) (.scons (.sret (.v 1)) .snil)))⟩
end Zd
namespace Zp
open Z
/-- the least of some -/
def IsMin (m : Rat) (l : List Rat) : Prop := m ∈ l ∧ ∀ y ∈ l, m ≤ y
def IsMax (m : Rat) (l : List Rat) : Prop := m ∈ l ∧ ∀ y ∈ l, y ≤ m
theorem IsMin.eq {m m' : Rat} {l l' : List Rat} (h : IsMin m l) (h' : IsMin m' l') (c : ∀ y ∈ l, ∃ z ∈ l', z ≤ y) (c' : ∀ y ∈ l', ∃ z ∈ l, z ≤ y) : m = m' := by
  obtain ⟨z, hz, q⟩ := c m h.1
  obtain ⟨z', hz', q'⟩ := c' m' h'.1
  have a1 := h'.2 z hz
  have a2 := h.2 z' hz'
  grind
theorem IsMax.eq {m m' : Rat} {l l' : List Rat} (h : IsMax m l) (h' : IsMax m' l') (c : ∀ y ∈ l, ∃ z ∈ l', y ≤ z) (c' : ∀ y ∈ l', ∃ z ∈ l, y ≤ z) : m = m' := by
  obtain ⟨z, hz, q⟩ := c m h.1
  obtain ⟨z', hz', q'⟩ := c' m' h'.1
  have a1 := h'.2 z hz
  have a2 := h.2 z' hz'
  grind
/-! a bend stays within -/
def bez (p o q t : Rat) : Rat := ((1 - t) * (1 - t) * p + t * t * q) + 2 * (t * (1 - t)) * o
def bezT (p o q : Rat) : Option Rat := if (p - 2 * o) + q = 0 then none else if 0 < (p - o) / ((p - 2 * o) + q) ∧ (p - o) / ((p - 2 * o) + q) < 1 then some ((p - o) / ((p - 2 * o) + q)) else none
end Zp
end
section
/-! bounds: the laws' own defs -/
namespace Zp
open Z
structure HLB (TT : Nat → Option FnD) : Prop where
  h87 : TT 87 = some (plT 83)
  h88 : TT 88 = some (tiT 83)
  h99 : TT 99 = some Zd.d_law_below
  h232 : TT 232 = some Zd.d_law_at
  h233 : TT 233 = some Zd.d_law_turn
  h234 : TT 234 = some Zd.d_law_low
  h235 : TT 235 = some Zd.d_law_high
section
variable {TT : Nat → Option FnD} {κ : Cons} {cx : Nat → Nat → Bool} {wf : Nat} {n : Nat} (S : HLS TT) (L : HLB TT) (w : 100000 ≤ wf)
include S L w
end
/-! shapes -/
section
variable {TT : Nat → Option FnD} {κ : Cons} {cx : Nat → Nat → Bool} {wf : Nat} {n : Nat} (Q : HQ TT wf) (G : HG TT) (V : HV TT) (B : HB TT)
include Q G V B
end
end Zp
end
section
/-! k05 -/
namespace Zd
def law_36_b1 : Z.C := (.scons (.sset 7 (.call 233 (.cons (.v 5) (.cons (.v 6) .nil)))) (.scons (.sif (.cmp .nisn (.v 7) (.k .non)) (.scons (.sset 8 (.call 232 (.cons (.v 5) (.cons (.v 7) .nil)))) (.scons (.sapp 2 (.ix (.v 8) (.k (.int 0)))) (.scons (.sapp 3 (.ix (.v 8) (.k (.int 1)))) .snil))) .snil) .snil))
def law_36_b2 : Z.C := (.scons (.sown 2 (.bin .add (.rd 2) (.dsp (.cons (.ix (.ix (.v 5) (.k (.int 0))) (.k (.int 0))) (.cons (.ix (.ix (.v 5) (.neg (.k (.int 1)))) (.k (.int 0))) .nil))))) (.scons (.sown 3 (.bin .add (.rd 3) (.dsp (.cons (.ix (.ix (.v 5) (.k (.int 0))) (.k (.int 1))) (.cons (.ix (.ix (.v 5) (.neg (.k (.int 1)))) (.k (.int 1))) .nil))))) (.scons (.sfor (.tn 6) (.rng1 (.k (.int 2))) law_36_b1) .snil)))
def law_36_b3 : Z.C := (.scons (.sfor (.tn 5) (.seq (.call 84 (.cons (.v 4) .nil))) law_36_b2) .snil)
def d_law_36 : Z.FnD := ⟨1, 9, (.scons (.sset 1 (.call 14 (.cons (.v 0) (.cons (.k (.int 2)) .nil)))) (.scons (.sow0 2 3) (.scons (.sfor (.tn 4) (.seq (.v 1)) law_36_b3) (.scons (.sif (.cmp .eq (.v 1) (.tup .nil)) (.scons (.sret (.cmp .isn (.call 231 (.cons (.v 1) .nil)) (.k .non))) .snil) .snil) (.scons (.sfrz 2) (.scons (.sfrz 3) (.scons (.sret (.cmp .eq (.call 231 (.cons (.v 1) .nil)) (.tup (.cons (.call 234 (.cons (.v 2) .nil)) (.cons (.call 234 (.cons (.v 3) .nil)) (.cons (.call 235 (.cons (.v 2) .nil)) (.cons (.call 235 (.cons (.v 3) .nil)) .nil))))))) .snil)))))))⟩
end Zd
namespace Zp
open Z
structure H05 (TT : Nat → Option FnD) (κ : Cons) (wf : Nat) : Prop where
  T : HS TT κ
  L : HLs TT
  Q : HQ TT wf
  G : HG TT
  V : HV TT
  B : HB TT
  S : HLS TT
  LB : HLB TT
  h231 : TT 231 = some Zd.d_bounds_2
  h236 : TT 236 = some Zd.d_law_36
def oL (s : Seg) (a b : Bool) : List Rat := match turnT s b with | none => [] | some t => [valAt s a t]
/-- what the law finds -/
def lwS (s : Seg) (a : Bool) : List Rat := [ax a (sSt s), ax a (sEn s)] ++ oL s a false ++ oL s a true
def lwR (r : List Seg) (a : Bool) : List Rat := r.flatMap fun s => lwS s a
def lwV (rows : List (List Seg)) (a : Bool) : List Rat := rows.flatMap fun r => lwR r a
section
variable {TT : Nat → Option FnD} {κ : Cons} {cx : Nat → Nat → Bool} {wf : Nat} {n : Nat} (Y : H05 TT κ wf)
include Y
end
end Zp
end
section
/-! k07 -/
namespace Zd
def law_38_b1 : Z.C := (.scons (.sasg (.tt (.cons (.tn 9) (.cons (.tn 10) .nil))) (.call 232 (.cons (.v 6) (.cons (.v 8) .nil)))) (.scons (.sif (.or (.call 99 (.cons (.v 9) (.cons (.ix (.v 3) (.k (.int 0))) .nil))) (.call 99 (.cons (.v 10) (.cons (.ix (.v 3) (.k (.int 1))) .nil)))) (.scons (.sret (.k (.bl false))) .snil) .snil) (.scons (.sif (.or (.call 99 (.cons (.ix (.v 3) (.k (.int 2))) (.cons (.v 9) .nil))) (.call 99 (.cons (.ix (.v 3) (.k (.int 3))) (.cons (.v 10) .nil)))) (.scons (.sret (.k (.bl false))) .snil) .snil) (.scons (.sset 11 (.dsp (.cons (.cmp .eq (.v 9) (.ix (.v 3) (.k (.int 0)))) (.cons (.cmp .eq (.v 10) (.ix (.v 3) (.k (.int 1)))) (.cons (.cmp .eq (.v 9) (.ix (.v 3) (.k (.int 2)))) (.cons (.cmp .eq (.v 10) (.ix (.v 3) (.k (.int 3)))) .nil)))))) (.scons (.sset 4 (.comp [13, 12] (.tt (.cons (.tn 13) (.cons (.tn 12) .nil))) (.zip (.v 4) (.v 11)) (.k (.bl true)) (.or (.v 13) (.v 12)))) .snil)))))
def law_38_b2 : Z.C := (.scons (.sset 7 (.bin .add (.dsp (.cons (.tup (.cons (.k (.int 0)) (.cons (.k (.int 1)) .nil))) (.cons (.tup (.cons (.k (.int 1)) (.cons (.k (.int 1)) .nil))) .nil))) (.comp [16] (.tn 16) (.rng1 (.k (.int 5))) (.k (.bl true)) (.call 83 (.cons (.bin .mod (.ix (.v 1) (.v 16)) (.k (.int 101))) (.cons (.k (.int 100)) .nil)))))) (.scons (.sset 7 (.bin .add (.v 7) (.comp [8] (.tn 8) (.seq (.dsp (.cons (.call 233 (.cons (.v 6) (.cons (.k (.int 0)) .nil))) (.cons (.call 233 (.cons (.v 6) (.cons (.k (.int 1)) .nil))) .nil)))) (.cmp .nisn (.v 8) (.k .non)) (.v 8)))) (.scons (.sfor (.tn 8) (.seq (.v 7)) law_38_b1) .snil)))
def law_38_b3 : Z.C := (.scons (.sfor (.tn 6) (.seq (.call 84 (.cons (.v 5) .nil))) law_38_b2) .snil)
def d_law_38 : Z.FnD := ⟨1, 17, (.scons (.sset 1 (.call 11 (.cons (.v 0) (.cons (.k (.int 4)) .nil)))) (.scons (.sset 2 (.call 14 (.cons (.v 0) (.cons (.k (.int 2)) .nil)))) (.scons (.sif (.cmp .eq (.v 2) (.tup .nil)) (.scons (.sret (.cmp .isn (.call 231 (.cons (.v 2) .nil)) (.k .non))) .snil) .snil) (.scons (.sset 3 (.call 231 (.cons (.v 2) .nil))) (.scons (.sset 4 (.bin .mul (.dsp (.cons (.k (.bl false)) .nil)) (.k (.int 4)))) (.scons (.sfor (.tn 5) (.seq (.v 2)) law_38_b3) (.scons (.sset 12 (.call 14 (.cons (.v 0) (.cons (.k (.int 3)) .nil)))) (.scons (.sif (.cmp .eq (.v 12) (.tup .nil)) (.scons (.sret (.cmp .nin (.k (.bl false)) (.v 4))) .snil) .snil) (.scons (.sasg (.tt (.cons (.tn 13) (.cons (.tn 14) .nil))) (.tup (.cons (.call 231 (.cons (.v 2) .nil)) (.cons (.call 231 (.cons (.v 12) .nil)) .nil)))) (.scons (.sset 15 (.tup (.cons (.call 234 (.cons (.dsp (.cons (.ix (.v 13) (.k (.int 0))) (.cons (.ix (.v 14) (.k (.int 0))) .nil))) .nil)) (.cons (.call 234 (.cons (.dsp (.cons (.ix (.v 13) (.k (.int 1))) (.cons (.ix (.v 14) (.k (.int 1))) .nil))) .nil)) .nil)))) (.scons (.sset 15 (.bin .add (.v 15) (.tup (.cons (.call 235 (.cons (.dsp (.cons (.ix (.v 13) (.k (.int 2))) (.cons (.ix (.v 14) (.k (.int 2))) .nil))) .nil)) (.cons (.call 235 (.cons (.dsp (.cons (.ix (.v 13) (.k (.int 3))) (.cons (.ix (.v 14) (.k (.int 3))) .nil))) .nil)) .nil))))) (.scons (.sret (.an (.cmp .nin (.k (.bl false)) (.v 4)) (.cmp .eq (.call 231 (.cons (.bin .add (.v 2) (.v 12)) .nil)) (.v 15)))) .snil))))))))))))⟩
end Zd
namespace Zp
open Z
structure H07 (TT : Nat → Option FnD) (κ : Cons) (wf : Nat) : Prop where
  T : HS TT κ
  L : HLs TT
  Q : HQ TT wf
  G : HG TT
  V : HV TT
  B : HB TT
  S : HLS TT
  LB : HLB TT
  h231 : TT 231 = some Zd.d_bounds_2
  h238 : TT 238 = some Zd.d_law_38
/-- the bounds -/
def bq (rows : List (List Seg)) (h a : Bool) : Rat := if h then hi (bxV rows a) else lo (bxV rows a)
def cq (rows : List (List Seg)) (s : Seg) (h a : Bool) (t : Rat) : Bool := decide (valAt s a t = bq rows h a)
def rqP (f : Bool → Bool → Bool) : PV := .lst [.bl (f false false), .bl (f false true), .bl (f true false), .bl (f true true)]
section
variable {TT : Nat → Option FnD} {κ : Cons} {cx : Nat → Nat → Bool} {wf : Nat} {n : Nat} (Y : H07 TT κ wf)
include Y
end
end Zp
end
section
/-! shapes led along an axis: moved, mirrored -/
namespace Zp
open Z
def plM (F : Pq → Pq) (p : Pl) : Pl := (F p.1, p.2)
def sgM (F : Pq → Pq) : Seg → Seg
  | .ln a b => .ln (F a) (F b)
  | .bd a o b => .bd (F a) (F o) (F b)
section
variable {F : Pq → Pq} (hm : ∀ a b, F (mid2 a b) = mid2 (F a) (F b))
include hm
end
/-- led along the axes -/
def afP (k b : Bool → Rat) (p : Pq) : Pq := (k false * p.1 + b false, k true * p.2 + b true)
section
variable {k b : Bool → Rat} (hk : ∀ a, k a ≠ 0)
include hk
end
end Zp
end
section
/-! names, rules, features: whether they are, whether a rule fits -/
namespace Zd
open Z
def d_is_name : Z.FnD := ⟨1, 2, (.scons (.sret (.an (.isi .str (.v 0)) (.an (.chn .le .le (.k (.int 1)) (.bi .len (.cons (.v 0) .nil)) (.g 9)) (.nt (.comp [1] (.tn 1) (.seq (.v 0)) (.cmp .nin (.v 1) (.g 8)) (.v 1)))))) .snil)⟩
def d_is_names : Z.FnD := ⟨3, 4, (.scons (.sret (.an (.isi .tuple (.v 0)) (.an (.chn .le .le (.v 1) (.bi .len (.cons (.v 0) .nil)) (.v 2)) (.nt (.comp [3] (.tn 3) (.seq (.v 0)) (.nt (.call 117 (.cons (.v 3) .nil))) (.v 3)))))) .snil)⟩
def d_is_rule : Z.FnD := ⟨1, 5, (.scons (.sif (.or (.nt (.isi .tuple (.v 0))) (.cmp .ne (.bi .len (.cons (.v 0) .nil)) (.k (.int 4)))) (.scons (.sret (.k (.bl false))) .snil) .snil) (.scons (.sasg (.tt (.cons (.tn 1) (.cons (.tn 2) (.cons (.tn 3) (.cons (.tn 4) .nil))))) (.v 0)) (.scons (.sif (.or (.nt (.call 144 (.cons (.v 1) (.cons (.k (.int 0)) (.cons (.g 15) .nil))))) (.nt (.call 144 (.cons (.v 3) (.cons (.k (.int 0)) (.cons (.g 15) .nil)))))) (.scons (.sret (.k (.bl false))) .snil) .snil) (.scons (.sret (.an (.call 144 (.cons (.v 2) (.cons (.k (.int 1)) (.cons (.g 15) .nil)))) (.call 144 (.cons (.v 4) (.cons (.k (.int 0)) (.cons (.g 16) .nil)))))) .snil))))⟩
def d_is_feature : Z.FnD := ⟨1, 2, (.scons (.sif (.or (.nt (.isi .tuple (.v 0))) (.or (.cmp .ne (.bi .len (.cons (.v 0) .nil)) (.k (.int 2))) (.or (.nt (.call 117 (.cons (.ix (.v 0) (.k (.int 0))) .nil))) (.nt (.isi .tuple (.ix (.v 0) (.k (.int 1)))))))) (.scons (.sret (.k (.bl false))) .snil) .snil) (.scons (.sret (.an (.chn .le .le (.k (.int 1)) (.bi .len (.cons (.ix (.v 0) (.k (.int 1))) .nil)) (.g 14)) (.nt (.comp [1] (.tn 1) (.seq (.ix (.v 0) (.k (.int 1)))) (.nt (.call 145 (.cons (.v 1) .nil))) (.v 1))))) .snil))⟩
def d_are_features : Z.FnD := ⟨1, 2, (.scons (.sif (.or (.nt (.isi .tuple (.v 0))) (.or (.cmp .gt (.bi .len (.cons (.v 0) .nil)) (.g 13)) (.comp [1] (.tn 1) (.seq (.v 0)) (.nt (.call 146 (.cons (.v 1) .nil))) (.v 1)))) (.scons (.sret (.k (.bl false))) .snil) .snil) (.scons (.sret (.cmp .eq (.lsc [1] (.tn 1) (.seq (.v 0)) (.k (.bl true)) (.ix (.v 1) (.k (.int 0)))) (.bi .len (.cons (.v 0) .nil)))) .snil))⟩
def d_look_4 : Z.FnD := ⟨1, 1, (.scons (.sif (.nt (.call 147 (.cons (.v 0) .nil))) (.scons (.srai 10 .nil) .snil) .snil) .snil)⟩
def d_fits_at : Z.FnD := ⟨3, 7, (.scons (.sasg (.tt (.cons (.tn 3) (.cons (.tn 4) (.cons (.tn 5) (.cons (.tn 6) .nil))))) (.v 0)) (.scons (.sif (.or (.cmp .lt (.v 2) (.bi .len (.cons (.v 3) .nil))) (.cmp .ne (.bi .tuple (.cons (.sl (.v 1) (.bin .sub (.v 2) (.bi .len (.cons (.v 3) .nil))) (.v 2)) .nil)) (.v 3))) (.scons (.sret (.k (.bl false))) .snil) .snil) (.scons (.sret (.cmp .eq (.bi .tuple (.cons (.sl (.v 1) (.v 2) (.bin .add (.bin .add (.v 2) (.bi .len (.cons (.v 4) .nil))) (.bi .len (.cons (.v 5) .nil)))) .nil)) (.bin .add (.v 4) (.v 5)))) .snil)))⟩
def d_look_row : Z.FnD := ⟨2, 3, (.scons (.sif (.or (.nt (.isi .list (.v 0))) (.or (.cmp .gt (.bi .len (.cons (.v 0) .nil)) (.v 1)) (.comp [2] (.tn 2) (.seq (.v 0)) (.nt (.call 117 (.cons (.v 2) .nil))) (.v 2)))) (.scons (.srai 3 .nil) .snil) .snil) .snil)⟩
def d_look_on : Z.FnD := ⟨1, 1, (.scons (.sexp (.call 150 (.cons (.v 0) (.cons (.k (.int 8)) .nil)))) .snil)⟩
end Zd
namespace Zp
open Z
abbrev Nm := List Nat
def small : List Nat := [97, 98, 99, 100, 101, 102, 103, 104, 105, 106, 107, 108, 109, 110, 111, 112, 113, 114, 115, 116, 117, 118, 119, 120, 121, 122]
def okNm (n : Nm) : Bool := decide (1 ≤ n.length) && (decide (n.length ≤ 8) && n.all fun c => decide (c ∈ small))
def isNmV : PV → Bool
  | .str n => okNm n
  | _ => false
def isNmsV (lo hi : Nat) : PV → Bool
  | .tup xs => decide (lo ≤ xs.length) && (decide (xs.length ≤ hi) && xs.all isNmV)
  | _ => false
def isRuV : PV → Bool
  | .tup [a, h, b, p] => isNmsV 0 4 a && (isNmsV 0 4 b && (isNmsV 1 4 h && isNmsV 0 3 p))
  | _ => false
def isFeV : PV → Bool
  | .tup [n, .tup rs] => isNmV n && (decide (1 ≤ rs.length) && (decide (rs.length ≤ 20) && rs.all isRuV))
  | _ => false
def nameV : PV → PV
  | .tup (n :: _) => n
  | _ => .non
def areFeV : PV → Bool
  | .tup fs => decide (fs.length ≤ 5) && (fs.all isFeV && decide ((dedP (fs.map nameV)).length = fs.length))
  | _ => false
def isRowV (most : Nat) : PV → Bool
  | .lst xs => decide (xs.length ≤ most) && xs.all isNmV
  | _ => false
structure HF (TT : Nat → Option FnD) (κ : Cons) : Prop where
  h117 : TT 117 = some Zd.d_is_name
  h144 : TT 144 = some Zd.d_is_names
  h145 : TT 145 = some Zd.d_is_rule
  h146 : TT 146 = some Zd.d_is_feature
  h147 : TT 147 = some Zd.d_are_features
  h148 : TT 148 = some Zd.d_look_4
  h149 : TT 149 = some Zd.d_fits_at
  h150 : TT 150 = some Zd.d_look_row
  k8 : κ 8 = some (.str small)
  k9 : κ 9 = some (.int 8)
  k13 : κ 13 = some (.int 5)
  k14 : κ 14 = some (.int 20)
  k15 : κ 15 = some (.int 4)
  k16 : κ 16 = some (.int 3)
section
variable {TT : Nat → Option FnD} {κ : Cons} {cx : Nat → Nat → Bool} {wf : Nat} {n : Nat}
theorem filter_isEmpty {α : Type} (p : α → Bool) (xs : List α) : (xs.filter fun x => !p x).isEmpty = xs.all p := by
  induction xs with
  | nil => rfl
  | cons x xs ih =>
    cases h : p x <;> simp [h, ih]
variable (T : HF TT κ)
include T
theorem name_ok (p : PV) : callN TT κ cx wf (n + 1) 117 [p] = .ok (.shr (.bl (isNmV p))) := by
  rw [callN_eq T.h117 rfl]
  unfold Zd.d_is_name startS
  cases p with
  | str x =>
    have e : ∀ (φ : Fns) (ρ : PV), compL (stepC φ κ [1] (.tn 1) (.cmp .nin (.v 1) (.g 8)) (.v 1) [.shr ρ, .un]) (x.map fun c => PV.str [c]) = .ok ((x.filter fun c => !decide (c ∈ small)).map fun c => PV.str [c]) := fun φ ρ => by
      refine compL_filter fun c _ => ?_
      have : cmpP .nin (.str [c]) (.str small) = .ok (.bl (!decide (c ∈ small))) := rfl
      cases h : decide (c ∈ small) <;> simp [stepC, T.k8, this, h]
    have z := filter_isEmpty (fun c => decide (c ∈ small)) x
    unfold isNmV okNm
    by_cases h1 : 1 ≤ x.length
    · by_cases h2 : x.length ≤ 8
      · have h1' : (1 : Int) ≤ x.length := by omega
        have h2' : (x.length : Int) ≤ 8 := by omega
        simp [isiP, T.k9, h1', h2', h1, h2, e, z]
      · have h1' : (1 : Int) ≤ x.length := by omega
        have h2' : ¬ (x.length : Int) ≤ 8 := by omega
        simp [isiP, T.k9, h1', h2', h1, h2]
    · have h1' : ¬ (1 : Int) ≤ x.length := by omega
      simp [isiP, T.k9, h1', h1]
  | _ => simp [isiP, isNmV]
end
/-! typed -/
structure Rule where
  ahead : List Nm
  here : List Nm
  behind : List Nm
  put : List Nm
abbrev Fea := Nm × List Rule
def nmsP (xs : List Nm) : PV := .tup (xs.map PV.str)
def ruP (r : Rule) : PV := .tup [nmsP r.ahead, nmsP r.here, nmsP r.behind, nmsP r.put]
def feP (f : Fea) : PV := .tup [.str f.1, .tup (f.2.map ruP)]
def fesP (fs : List Fea) : PV := .tup (fs.map feP)
def nsP (xs : List Nm) : PV := .lst (xs.map PV.str)
def okRu (r : Rule) : Prop := r.ahead.length ≤ 4 ∧ 1 ≤ r.here.length ∧ r.here.length ≤ 4 ∧ r.behind.length ≤ 4 ∧ r.put.length ≤ 3
def fitsT (r : Rule) (row : List Nm) (at_ : Nat) : Bool := decide (r.ahead.length ≤ at_) && (((row.drop (at_ - r.ahead.length)).take r.ahead.length == r.ahead) && ((row.drop at_).take (r.here.length + r.behind.length) == r.here ++ r.behind))
section
variable {TT : Nat → Option FnD} {κ : Cons} {cx : Nat → Nat → Bool} {wf : Nat} {n : Nat} (T : HF TT κ)
include T
end
end Zp
end
section
/-! letters and cases: whether they are, finding one -/
namespace Zd
open Z
def d_is_part : Z.FnD := ⟨1, 1, (.scons (.sif (.or (.nt (.isi .tuple (.v 0))) (.or (.cmp .ne (.bi .len (.cons (.v 0) .nil)) (.k (.int 3))) (.nt (.call 117 (.cons (.ix (.v 0) (.k (.int 0))) .nil))))) (.scons (.sret (.k (.bl false))) .snil) .snil) (.scons (.sret (.an (.call 0 (.cons (.ix (.v 0) (.k (.int 1))) (.cons (.neg (.g 0)) (.cons (.g 0) .nil)))) (.call 0 (.cons (.ix (.v 0) (.k (.int 2))) (.cons (.neg (.g 0)) (.cons (.g 0) .nil)))))) .snil))⟩
def d_is_letter : Z.FnD := ⟨1, 2, (.scons (.sif (.or (.nt (.isi .tuple (.v 0))) (.or (.cmp .ne (.bi .len (.cons (.v 0) .nil)) (.k (.int 3))) (.nt (.call 3 (.cons (.ix (.v 0) (.k (.int 0))) .nil))))) (.scons (.sret (.k (.bl false))) .snil) .snil) (.scons (.sif (.or (.nt (.isi .tuple (.ix (.v 0) (.k (.int 1))))) (.or (.cmp .gt (.bi .len (.cons (.ix (.v 0) (.k (.int 1))) .nil)) (.g 11)) (.comp [1] (.tn 1) (.seq (.ix (.v 0) (.k (.int 1)))) (.nt (.call 118 (.cons (.v 1) .nil))) (.v 1)))) (.scons (.sret (.k (.bl false))) .snil) .snil) (.scons (.sret (.call 0 (.cons (.ix (.v 0) (.k (.int 2))) (.cons (.k (.int 0)) (.cons (.g 12) .nil))))) .snil)))⟩
def is_case_b1 : Z.C := (.scons (.sif (.or (.nt (.isi .tuple (.v 1))) (.or (.cmp .ne (.bi .len (.cons (.v 1) .nil)) (.k (.int 2))) (.or (.nt (.call 117 (.cons (.ix (.v 1) (.k (.int 0))) .nil))) (.nt (.call 119 (.cons (.ix (.v 1) (.k (.int 1))) .nil)))))) (.scons (.sret (.k (.bl false))) .snil) .snil) .snil)
def d_is_case : Z.FnD := ⟨1, 4, (.scons (.sif (.or (.nt (.isi .tuple (.v 0))) (.cmp .gt (.bi .len (.cons (.v 0) .nil)) (.g 10))) (.scons (.sret (.k (.bl false))) .snil) .snil) (.scons (.sfor (.tn 1) (.seq (.v 0)) is_case_b1) (.scons (.sret (.nt (.comp [2, 3] (.tt (.cons (.tn 2) (.cons (.tn 3) .nil))) (.zip (.v 0) (.sl (.v 0) (.k (.int 1)) .nop)) (.cmp .ge (.ix (.v 2) (.k (.int 0))) (.ix (.v 3) (.k (.int 0)))) (.k (.int 1))))) .snil)))⟩
def d_look_3 : Z.FnD := ⟨1, 1, (.scons (.sif (.nt (.call 120 (.cons (.v 0) .nil))) (.scons (.srai 7 .nil) .snil) .snil) .snil)⟩
def d_letter_of_2 : Z.FnD := ⟨2, 5, (.scons (.sset 2 (.comp [3, 4] (.tt (.cons (.tn 3) (.cons (.tn 4) .nil))) (.seq (.v 0)) (.an (.isi .str (.v 1)) (.cmp .eq (.v 3) (.v 1))) (.v 4))) (.scons (.sif (.nt (.v 2)) (.scons (.srai 8 (.v 1)) .snil) .snil) (.scons (.sret (.ix (.v 2) (.k (.int 0)))) .snil)))⟩
def d_names_of : Z.FnD := ⟨1, 3, (.scons (.sref (.comp [1, 2] (.tt (.cons (.tn 1) (.cons (.tn 2) .nil))) (.seq (.v 0)) (.k (.bl true)) (.v 1))) .snil)⟩
end Zd
namespace Zp
open Z
abbrev Part := Nm × Int × Int
abbrev Letter := List (List Pt) × List Part × Int
abbrev Row1 := Nm × Letter
def paP (p : Part) : PV := .tup [.str p.1, .int p.2.1, .int p.2.2]
def leP (l : Letter) : PV := .tup [shP l.1, .tup (l.2.1.map paP), .int l.2.2]
def roP (r : Row1) : PV := .tup [.str r.1, leP r.2]
def caP (c : List Row1) : PV := .tup (c.map roP)
def okPa (p : Part) : Bool := okNm p.1 && (inB p.2.1 (-2000) 2000 && inB p.2.2 (-2000) 2000)
def okLe (l : Letter) : Bool := okSh l.1 && (decide (l.2.1.length ≤ 4) && (l.2.1.all okPa && inB l.2.2 0 4000))
/-- a case: its names rise -/
structure OkCa (c : List Row1) : Prop where
  len : c.length ≤ 40
  nm : ∀ r ∈ c, okNm r.1 = true
  le : ∀ r ∈ c, okLe r.2 = true
  up : (c.map (·.1)).Pairwise (· < ·)
structure HC (TT : Nat → Option FnD) (κ : Cons) : Prop extends HS0 TT κ where
  h117 : TT 117 = some Zd.d_is_name
  h118 : TT 118 = some Zd.d_is_part
  h119 : TT 119 = some Zd.d_is_letter
  h120 : TT 120 = some Zd.d_is_case
  h121 : TT 121 = some Zd.d_look_3
  k8 : κ 8 = some (.str small)
  k9 : κ 9 = some (.int 8)
  k10 : κ 10 = some (.int 40)
  k11 : κ 11 = some (.int 4)
  k12 : κ 12 = some (.int 4000)
section
variable {TT : Nat → Option FnD} {κ : Cons} {cx : Nat → Nat → Bool} {wf : Nat} {n : Nat} (T : HC TT κ)
include T
theorem cname_ok (p : PV) : callN TT κ cx wf (n + 1) 117 [p] = .ok (.shr (.bl (isNmV p))) := by
  rw [callN_eq T.h117 rfl]
  unfold Zd.d_is_name startS
  cases p with
  | str x =>
    have e : ∀ (φ : Fns) (ρ : PV), compL (stepC φ κ [1] (.tn 1) (.cmp .nin (.v 1) (.g 8)) (.v 1) [.shr ρ, .un]) (x.map fun c => PV.str [c]) = .ok ((x.filter fun c => !decide (c ∈ small)).map fun c => PV.str [c]) := fun φ ρ => by
      refine compL_filter fun c _ => ?_
      have : cmpP .nin (.str [c]) (.str small) = .ok (.bl (!decide (c ∈ small))) := rfl
      cases h : decide (c ∈ small) <;> simp [stepC, T.k8, this, h]
    have z := filter_isEmpty (fun c => decide (c ∈ small)) x
    unfold isNmV okNm
    by_cases h1 : 1 ≤ x.length
    · by_cases h2 : x.length ≤ 8
      · have h1' : (1 : Int) ≤ x.length := by omega
        have h2' : (x.length : Int) ≤ 8 := by omega
        simp [isiP, T.k9, h1', h2', h1, h2, e, z]
      · have h1' : (1 : Int) ≤ x.length := by omega
        have h2' : ¬ (x.length : Int) ≤ 8 := by omega
        simp [isiP, T.k9, h1', h2', h1, h2]
    · have h1' : ¬ (1 : Int) ≤ x.length := by omega
      simp [isiP, T.k9, h1', h1]
  | _ => simp [isiP, isNmV]
theorem cpart_ok (p : Part) : callN TT κ cx wf (n + 2) 118 [paP p] = .ok (.shr (.bl (okPa p))) := by
  rw [callN_eq T.h118 rfl]
  obtain ⟨x, y, o⟩ := p
  have i0 : ixP (.tup [.str x, .int y, .int o]) (.int 0) = .ok (.str x) := rfl
  have i1 : ixP (.tup [.str x, .int y, .int o]) (.int 1) = .ok (.int y) := rfl
  have i2 : ixP (.tup [.str x, .int y, .int o]) (.int 2) = .ok (.int o) := rfl
  unfold Zd.d_is_part startS paP okPa
  have en : isNmV (.str x) = okNm x := rfl
  cases h : okNm x <;> simp [isiP, cname_ok T, within_ok T.h0, withinP, T.k0, i0, i1, i2, en, h]
  cases h2 : inB y (-2000) 2000 <;> simp [h2]
theorem cletter_ok (l : Letter) : callN TT κ cx wf (n + 5) 119 [leP l] = .ok (.shr (.bl (okLe l))) := by
  rw [callN_eq T.h119 rfl]
  obtain ⟨s, ps, w⟩ := l
  have i0 : ixP (.tup [shP s, .tup (ps.map paP), .int w]) (.int 0) = .ok (shP s) := rfl
  have i1 : ixP (.tup [shP s, .tup (ps.map paP), .int w]) (.int 1) = .ok (.tup (ps.map paP)) := rfl
  have i2 : ixP (.tup [shP s, .tup (ps.map paP), .int w]) (.int 2) = .ok (.int w) := rfl
  unfold Zd.d_is_letter startS leP okLe
  have e : ∀ ρ : PV, compL (stepC (callN TT κ cx wf (n + 4)) κ [1] (.tn 1) (.nt (.call 118 (.cons (.v 1) .nil))) (.v 1) [.shr ρ, .un]) (ps.map paP) = .ok ((ps.filter fun x => !okPa x).map paP) := fun ρ => by
    refine compL_filter fun x _ => ?_
    cases h : okPa x <;> simp [stepC, cpart_ok T, h]
  have z := filter_isEmpty okPa ps
  cases h1 : okSh s
  · simp [isiP, i0, i1, i2, shape_ok0 T.toHS0, h1]
  · by_cases h2 : ps.length ≤ 4
    · have h2' : ¬ (4 : Int) < ps.length := by omega
      cases h3 : ps.all okPa
      · rw [h3] at z
        have z' : (List.map paP (List.filter (fun x => !okPa x) ps)).isEmpty = false := by simpa using z
        simp [isiP, i0, i1, i2, shape_ok0 T.toHS0, h1, h2, h2', T.k11, T.k12, e, z', h3]
      · rw [h3] at z
        have z' : (List.map paP (List.filter (fun x => !okPa x) ps)).isEmpty = true := by simpa using z
        simp [isiP, i0, i1, i2, shape_ok0 T.toHS0, h1, h2, h2', T.k11, T.k12, e, z', h3, within_ok T.h0, withinP]
    · have h2' : (4 : Int) < ps.length := by omega
      simp [isiP, i0, i1, i2, shape_ok0 T.toHS0, h1, h2, h2', T.k11, T.k12]
end
end Zp
end
section
/-! cases: valid, letter_of, names_of; rows sorted -/
namespace Zp
open Z PySem
theorem compL_ft {α : Type} {g : PV → Res (Option PV)} {em f : α → PV} {p : α → Bool} {xs : List α} (h : ∀ x ∈ xs, g (em x) = .ok (if p x then some (f x) else none)) : compL g (xs.map em) = .ok ((xs.filter p).map f) := by
  induction xs with
  | nil => rfl
  | cons x xs ih =>
    rw [List.map_cons]
    unfold compL
    rw [h x (List.mem_cons_self ..), ih fun y hy => h y (List.mem_cons_of_mem _ hy), List.filter_cons]
    cases p x <;> rfl
section
variable {φ : Fns} {κ : Cons} {cx : Nat → Nat → Bool} {wf c i : Nat} {ρ : List Slot}
@[simp] theorem es_raiv : evS φ κ cx wf (.srai c (.v i)) ρ = lift (ev φ κ (.v i) ρ) ρ fun p => .exc c (some p) ρ := rf rfl
end
theorem czipL {α β : Type} (f : α → PV) (g : β → PV) : ∀ (xs : List α) (ys : List β), zipL (xs.map f) (ys.map g) = (xs.zip ys).map fun p => PV.tup [f p.1, g p.2]
  | [], _ => by rw [List.map_nil]; rfl
  | _ :: _, [] => rfl
  | x :: xs, y :: ys => by
    rw [List.map_cons, List.map_cons, List.zip_cons_cons, List.map_cons, ← czipL f g xs ys]
    rfl
theorem zip_rows (c : List Row1) : zipP (caP c) (.tup (cutP (c.map roP) (some 1) none)) = .ok (.lst ((c.zip c.tail).map fun p => PV.tup [roP p.1, roP p.2])) := by
  have e : cutP (c.map roP) (some 1) none = c.tail.map roP := by
    rw [cut_lo _ (by decide)]
    show (c.map roP).drop 1 = _
    rw [List.drop_one, List.map_tail]
  rw [e, ← czipL]
  rfl
theorem up_zip : ∀ {c : List Row1}, (c.map (·.1)).Pairwise (· < ·) → ∀ p ∈ c.zip c.tail, p.1.1 < p.2.1
  | [], _, p, hp => by cases hp
  | [a], _, p, hp => by cases hp
  | a :: b :: c, h, p, hp => by
    have hp : p ∈ (a, b) :: (b :: c).zip (b :: c).tail := hp
    rcases List.mem_cons.mp hp with rfl | hp
    · have := (List.pairwise_cons.mp h).1 b.1 (by simp)
      exact this
    · exact up_zip (List.pairwise_cons.mp h).2 p hp
theorem ro_0 (r : Row1) : ixP (roP r) (.int 0) = .ok (.str r.1) := rfl
theorem ro_1 (r : Row1) : ixP (roP r) (.int 1) = .ok (leP r.2) := rfl
section
variable {TT : Nat → Option FnD} {κ : Cons} {cx : Nat → Nat → Bool} {wf : Nat} {n : Nat} (T : HC TT κ)
include T
theorem case_step (r : Row1) (h1 : okNm r.1 = true) (h2 : okLe r.2 = true) (a : PV) (s1 : Slot) : stepF (callN TT κ cx wf (n + 5)) κ cx wf (.tn 1) Zd.is_case_b1 (roP r) [.shr a, s1, .un, .un] = .nx [.shr a, .shr (roP r), .un, .un] := by
  unfold Zd.is_case_b1
  have i0 := ro_0 r
  have i1 := ro_1 r
  have en : isNmV (.str r.1) = true := h1
  have c1 := cname_ok (κ := κ) (cx := cx) (wf := wf) (n := n + 4) T (.str r.1)
  have c2 := cletter_ok (κ := κ) (cx := cx) (wf := wf) (n := n) T r.2
  rw [en] at c1
  rw [h2] at c2
  have tl : isiP .tuple (roP r) = true := rfl
  have ln : biP .len [roP r] = .ok (.int 2) := rfl
  generalize roP r = rr at *
  generalize leP r.2 = ll at *
  simp [stepF, tl, ln, i0, i1, c1, c2]
theorem case_loop (a : PV) : ∀ (c : List Row1) (s1 : Slot), (∀ r ∈ c, okNm r.1 = true) → (∀ r ∈ c, okLe r.2 = true) → ∃ s1', forL (stepF (callN TT κ cx wf (n + 5)) κ cx wf (.tn 1) Zd.is_case_b1) (c.map roP) [.shr a, s1, .un, .un] = .nx [.shr a, s1', .un, .un]
  | [], s1, _, _ => ⟨s1, rfl⟩
  | r :: c, s1, h1, h2 => by
    obtain ⟨s1', e⟩ := case_loop a c (.shr (roP r)) (fun r hr => h1 r (List.mem_cons_of_mem _ hr)) (fun r hr => h2 r (List.mem_cons_of_mem _ hr))
    refine ⟨s1', ?_⟩
    rw [List.map_cons, forL_cons, case_step T r (h1 r List.mem_cons_self) (h2 r List.mem_cons_self), next_nx, e]
theorem case_ok {c : List Row1} (h : OkCa c) : callN TT κ cx wf (n + 6) 120 [caP c] = .ok (.shr (.bl true)) := by
  rw [callN_eq T.h120 rfl]
  unfold Zd.d_is_case startS
  obtain ⟨s1', el⟩ := case_loop (κ := κ) (cx := cx) (wf := wf) (n := n) T (caP c) c .un h.nm h.le
  have hl := h.len
  have hl' : ¬ (40 : Int) < c.length := by omega
  have zz := zip_rows c
  have ec : ∀ s1, compL (stepC (callN TT κ cx wf (n + 5)) κ [2, 3] (.tt (.cons (.tn 2) (.cons (.tn 3) .nil))) (.cmp .ge (.ix (.v 2) (.k (.int 0))) (.ix (.v 3) (.k (.int 0)))) (.k (.int 1)) [.shr (caP c), s1, .un, .un]) ((c.zip c.tail).map fun p => PV.tup [roP p.1, roP p.2]) = .ok [] := fun s1 => by
    have := compL_fm (g := stepC (callN TT κ cx wf (n + 5)) κ [2, 3] (.tt (.cons (.tn 2) (.cons (.tn 3) .nil))) (.cmp .ge (.ix (.v 2) (.k (.int 0))) (.ix (.v 3) (.k (.int 0)))) (.k (.int 1)) [.shr (caP c), s1, .un, .un]) (m := fun _ => none) (xs := (c.zip c.tail).map fun p => PV.tup [roP p.1, roP p.2]) fun x hx => by
      obtain ⟨p, hp, rfl⟩ := List.mem_map.mp hx
      have hlt := up_zip h.up p hp
      have cg : cmpP .ge (.str p.1.1) (.str p.2.1) = .ok (.bl (!decide (p.1.1 < p.2.1))) := rfl
      rw [decide_eq_true hlt] at cg
      simp [stepC, ro_0, cg]
    rw [this]
    congr 1
    simp
  unfold caP at *
  simp [isiP, T.k10, hl', el, zz, ec]
theorem look3_ok {c : List Row1} (h : OkCa c) : callN TT κ cx wf (n + 7) 121 [caP c] = .ok (.shr .non) := by
  rw [callN_eq T.h121 rfl]
  unfold Zd.d_look_3 startS
  simp [case_ok T h]
end
section
variable {TT : Nat → Option FnD} {κ : Cons} {cx : Nat → Nat → Bool} {wf : Nat} {n : Nat}
theorem names_of_ok (h123 : TT 123 = some Zd.d_names_of) (c : List Row1) : callN TT κ cx wf (n + 1) 123 [caP c] = .ok (.own ((c.map (·.1)).map PV.str)) := by
  rw [callN_eq h123 rfl]
  unfold Zd.d_names_of startS caP
  have e : ∀ ρ : PV, compL (stepC (callN TT κ cx wf n) κ [1, 2] (.tt (.cons (.tn 1) (.cons (.tn 2) .nil))) (.k (.bl true)) (.v 1) [.shr ρ, .un, .un]) (c.map roP) = .ok (c.map fun r => PV.str r.1) := fun ρ => compL_of fun r _ => by
    show stepC _ _ _ _ _ _ _ (PV.tup [.str r.1, leP r.2]) = _
    simp [stepC]
  simp [e]
/-- the letter of a name -/
def findL (c : List Row1) (x : Nm) : Option Letter := (c.find? fun r => r.1 == x).map (·.2)
theorem filter_find (c : List Row1) (x : Nm) : ((c.filter fun r => r.1 == x).map (·.2)).head? = findL c x := by
  unfold findL
  rw [List.head?_map, List.head?_filter]
theorem letter_of_ok (h193 : TT 193 = some Zd.d_letter_of_2) (c : List Row1) (x : Nm) : callN TT κ cx wf (n + 1) 193 [caP c, .str x] = match findL c x with
    | some l => .ok (.shr (leP l))
    | none => .exc 8 (some (.str x)) := by
  rw [callN_eq h193 rfl]
  unfold Zd.d_letter_of_2 startS caP
  have e : ∀ ρ : PV, compL (stepC (callN TT κ cx wf n) κ [3, 4] (.tt (.cons (.tn 3) (.cons (.tn 4) .nil))) (.an (.isi .str (.v 1)) (.cmp .eq (.v 3) (.v 1))) (.v 4) [.shr ρ, .shr (.str x), .un, .un, .un]) (c.map roP) = .ok (((c.filter fun r => r.1 == x).map (·.2)).map leP) := fun ρ => by
    rw [List.map_map]
    refine compL_ft fun r _ => ?_
    show stepC _ _ _ _ _ _ _ (PV.tup [.str r.1, leP r.2]) = _
    have ce : cmpP .eq (.str r.1) (.str x) = .ok (.bl (r.1 == x)) := rfl
    have is : isiP .str (.str x) = true := rfl
    show _ = Res.ok (if r.1 == x then some (leP r.2) else none)
    generalize leP r.2 = ll
    cases h : r.1 == x <;> simp [stepC, ce, is, h]
  have ff := filter_find c x
  generalize ((c.filter fun r => r.1 == x).map (·.2)) = L at e ff
  rw [← ff]
  cases L with
  | nil => simp [e]
  | cons l L =>
    have ix : ixP (.lst (leP l :: L.map leP)) (.int 0) = .ok (leP l) := ix_lst0 _ _
    simp [e, ix]
end
/-! ### sorted -/
def le1 (a b : Row1) : Bool := decide (a.1 ≤ b.1)
def sortR (rs : List Row1) : List Row1 := rs.mergeSort le1
theorem dep_tup {α : Type} (f : α → PV) (n : Nat) (h : ∀ a, dep (f a) n = true) : ∀ xs : List α, depL (xs.map f) n = true
  | [] => rfl
  | x :: xs => by
    show (dep (f x) n && depL (xs.map f) n) = true
    rw [h x, dep_tup f n h xs]
    rfl
theorem dep_sh (s : List (List Pt)) : dep (shP s) 10 = true := dep_tup coP 9 (fun c => dep_tup ptP 8 (fun _ => rfl) c) s
theorem nodup_inj {rs : List Row1} (h : (rs.map (·.1)).Nodup) {a b : Row1} (ha : a ∈ rs) (hb : b ∈ rs) (e : a.1 = b.1) : a = b := by
  induction rs with
  | nil => cases ha
  | cons r rs ih =>
    rw [List.map_cons, List.nodup_cons] at h
    rcases List.mem_cons.mp ha with ha | ha
    · rcases List.mem_cons.mp hb with hb | hb
      · rw [ha, hb]
      · exact absurd (List.mem_map.mpr ⟨b, hb, by rw [← e, ha]⟩) h.1
    · rcases List.mem_cons.mp hb with hb | hb
      · exact absurd (List.mem_map.mpr ⟨a, ha, by rw [e, hb]⟩) h.1
      · exact ih h.2 ha hb
mutual
theorem dep_up1 : ∀ (p : PV) (n : Nat), dep p n = true → dep p (n + 1) = true
  | .tup xs, 0, h => by cases h
  | .lst xs, 0, h => by cases h
  | .tup xs, n + 1, h => depL_up1 xs n h
  | .lst xs, n + 1, h => depL_up1 xs n h
  | .non, _, _ => rfl
  | .bl _, _, _ => rfl
  | .int _, _, _ => rfl
  | .str _, _, _ => rfl
  | .scr _, n, h => by cases n <;> cases h
  | .dct _ _, n, h => by cases n <;> cases h
  | .ptp _, n, h => by cases n <;> cases h
theorem depL_up1 : ∀ (xs : List PV) (n : Nat), depL xs n = true → depL xs (n + 1) = true
  | [], _, _ => rfl
  | x :: xs, n, h => by
    have h : (dep x n && depL xs n) = true := h
    rw [Bool.and_eq_true] at h
    show (dep x (n + 1) && depL xs (n + 1)) = true
    rw [dep_up1 x n h.1, depL_up1 xs n h.2]
    rfl
end
theorem dep_mono {p : PV} {n m : Nat} (h : dep p n = true) (hl : n ≤ m) : dep p m = true := by
  induction m with
  | zero => have : n = 0 := by omega
            subst this; exact h
  | succ m ih =>
    by_cases e : n = m + 1
    · subst e; exact h
    · exact dep_up1 p m (ih (by omega))
mutual
theorem eqv_self : ∀ (p : PV) (n : Nat), dep p n = true → PyData.eqv (toD p) (toD p) = true
  | .tup xs, 0, h => by cases h
  | .lst xs, 0, h => by cases h
  | .tup xs, n + 1, h => eqvL_self xs n h
  | .lst xs, n + 1, h => eqvL_self xs n h
  | .non, _, _ => rfl
  | .bl b, _, _ => beq_self_eq_true b
  | .int i, _, _ => beq_self_eq_true i
  | .str x, _, _ => beq_self_eq_true (SX.S x)
  | .scr _, n, h => by cases n <;> cases h
  | .dct _ _, n, h => by cases n <;> cases h
  | .ptp _, n, h => by cases n <;> cases h
theorem eqvL_self : ∀ (xs : List PV) (n : Nat), depL xs n = true → PyData.eqvAll (toDL xs) (toDL xs) = true
  | [], _, _ => rfl
  | x :: xs, n, h => by
    have h : (dep x n && depL xs n) = true := h
    rw [Bool.and_eq_true] at h
    show (PyData.eqv (toD x) (toD x) && PyData.eqvAll (toDL xs) (toDL xs)) = true
    rw [eqv_self x n h.1, eqvL_self xs n h.2]
    rfl
end
end Zp
end
section
/-! dicts from names to letters -/
namespace Zp
open Z PySem
def rK (d : List Row1) : List PV := d.map fun x => .str x.1
def rV (d : List Row1) : List PV := d.map fun x => leP x.2
def putR (d : List Row1) (h : Nm) (p : Letter) : List Row1 := if d.any (·.1 == h) then d.map (fun x => if x.1 == h then (x.1, p) else x) else d ++ [(h, p)]
theorem eqs (a b : Nm) : eqP (.str a) (.str b) = (a == b) := rfl
theorem look_R (q : Nm) : ∀ d : List Row1, lookP (rK d) (rV d) (.str q) = (findL d q).map leP
  | [] => rfl
  | x :: d => by
    have ih := look_R q d
    show (if eqP (.str x.1) (.str q) then some (leP x.2) else lookP (rK d) (rV d) (.str q)) = _
    unfold findL at ih ⊢
    rw [eqs, ih, List.find?_cons]
    cases x.1 == q <;> rfl
theorem has_R (q : Nm) : ∀ d : List Row1, hasP (rK d) (.str q) = d.any (·.1 == q)
  | [] => rfl
  | x :: d => by
    have ih := has_R q d
    show (eqP (.str x.1) (.str q) || hasP (rK d) (.str q)) = _
    rw [ih, eqs]
    rfl
theorem set_R (q : Nm) (p : Letter) : ∀ d : List Row1, setP (rK d) (rV d) (.str q) (leP p) = rV (d.map fun x => if x.1 == q then (x.1, p) else x)
  | [] => rfl
  | x :: d => by
    have ih := set_R q p d
    show (if eqP (.str x.1) (.str q) then leP p else leP x.2) :: setP (rK d) (rV d) (.str q) (leP p) = _
    rw [ih, eqs, List.map_cons]
    cases x.1 == q <;> rfl
theorem put_RK (d : List Row1) (h : Nm) (p : Letter) : kputP (rK d) (.str h) = rK (putR d h p) := by
  unfold kputP putR
  rw [has_R]
  split
  · unfold rK
    rw [List.map_map]
    apply List.map_congr_left
    intro x _
    show _ = PV.str (if x.1 == h then (x.1, p) else x).1
    cases x.1 == h <;> rfl
  · unfold rK
    rw [List.map_append]; rfl
theorem put_RV (d : List Row1) (h : Nm) (p : Letter) : dputP (rK d) (rV d) (.str h) (leP p) = rV (putR d h p) := by
  unfold dputP putR
  rw [has_R]
  split
  · exact set_R h p d
  · unfold rV
    rw [List.map_append]; rfl
theorem putR_names (d : List Row1) (h : Nm) (p : Letter) : (putR d h p).map (·.1) = if d.any (·.1 == h) then d.map (·.1) else d.map (·.1) ++ [h] := by
  unfold putR
  split
  · rw [List.map_map]
    apply List.map_congr_left
    intro x _
    show (if x.1 == h then (x.1, p) else x).1 = x.1
    cases x.1 == h <;> rfl
  · rw [List.map_append]; rfl
theorem any_mem (d : List Row1) (h : Nm) : d.any (·.1 == h) = decide (h ∈ d.map (·.1)) := by
  induction d with
  | nil => rfl
  | cons x d ih =>
    rw [List.any_cons, ih, List.map_cons]
    by_cases e : x.1 = h
    · simp [e]
    · have e' : ¬ h = x.1 := fun z => e z.symm
      have e3 : (x.1 == h) = false := by simpa using e
      rw [e3, Bool.false_or]
      exact decide_eq_decide.mpr (by rw [List.mem_cons]; exact ⟨.inr, fun z => z.resolve_left e'⟩)
theorem putR_nodup {d : List Row1} (hn : (d.map (·.1)).Nodup) (h : Nm) (p : Letter) : ((putR d h p).map (·.1)).Nodup := by
  rw [putR_names, any_mem]
  split
  · exact hn
  · rename_i z
    simp only [decide_eq_true_eq] at z
    rw [List.nodup_append]
    refine ⟨hn, by simp, fun a ha b hb => ?_⟩
    rw [List.mem_singleton] at hb
    subst hb
    exact fun e => z (e ▸ ha)
theorem putR_len (d : List Row1) (h : Nm) (p : Letter) : (putR d h p).length ≤ d.length + 1 := by
  unfold putR
  split
  · rw [List.length_map]; omega
  · rw [List.length_append, List.length_singleton]; omega
theorem putR_mem {d : List Row1} {h : Nm} {p : Letter} {r : Row1} (hr : r ∈ putR d h p) : r = (h, p) ∨ r ∈ d := by
  unfold putR at hr
  split at hr
  · obtain ⟨x, hx, rfl⟩ := List.mem_map.mp hr
    cases e : x.1 == h
    · exact .inr (by simpa [e] using hx)
    · have := eq_of_beq e
      subst this
      exact .inl (by simp)
  · rcases List.mem_append.mp hr with h1 | h1
    · exact .inr h1
    · exact .inl (List.mem_singleton.mp h1)
/-! ### sorted -/
theorem sortR_mem {a : List Row1} {x : Row1} : x ∈ sortR a ↔ x ∈ a := (List.mergeSort_perm a _).mem_iff
theorem sortR_pw (a : List Row1) : (sortR a).Pairwise fun x y => x.1 ≤ y.1 := by
  have z := List.pairwise_mergeSort (le := le1) (fun a b c h1 h2 => by
    unfold le1 at *
    simp only [decide_eq_true_eq] at *
    exact List.le_trans h1 h2) (fun a b => by
    unfold le1
    simp only [Bool.or_eq_true, decide_eq_true_eq]
    exact List.le_total a.1 b.1) a
  exact z.imp fun h => of_decide_eq_true h
theorem sortR_nm (a : List Row1) : sortN (a.map (·.1)) = (sortR a).map (·.1) := by
  unfold sortN sortR
  exact (List.map_mergeSort (f := fun r : Row1 => r.1) fun a _ b _ => rfl).symm
theorem sortR_nodup {a : List Row1} (h : (a.map (·.1)).Nodup) : ((sortR a).map (·.1)).Nodup := ((List.mergeSort_perm a _).map _).nodup_iff.mpr h
theorem sortR_len (a : List Row1) : (sortR a).length = a.length := List.length_mergeSort a
theorem sortR_up {a : List Row1} (h : (a.map (·.1)).Nodup) : ((sortR a).map (·.1)).Pairwise (· < ·) := by
  have h1 : ((sortR a).map (·.1)).Pairwise (· ≤ ·) := List.pairwise_map.mpr (sortR_pw a)
  have h2 : ((sortR a).map (·.1)).Pairwise (· ≠ ·) := sortR_nodup h
  exact (h1.and h2).imp fun ⟨x, y⟩ => Decidable.byContradiction fun z => y (List.le_antisymm x (List.not_lt.mp z))
theorem findL_mem {d : List Row1} (hn : (d.map (·.1)).Nodup) {r : Row1} (hr : r ∈ d) : findL d r.1 = some r.2 := by
  unfold findL
  cases e : d.find? fun x => x.1 == r.1 with
  | none =>
    have := List.find?_eq_none.mp e r hr
    simp at this
  | some x =>
    have h1 := List.mem_of_find?_eq_some e
    have h2 := List.find?_some e
    rw [nodup_inj hn h1 hr (by simpa using h2)]
    rfl
theorem strsP_R : ∀ ks : List Nm, strsP (ks.map PV.str) = some ks
  | [] => rfl
  | k :: ks => by
    show (strsP (ks.map PV.str)).map (k :: ·) = _
    rw [strsP_R ks]; rfl
theorem rK_eq (d : List Row1) : rK d = (d.map (·.1)).map PV.str := by
  unfold rK
  rw [List.map_map]; rfl
theorem sorted_R {d : List Row1} (h : d.length < 64) (vs : List PV) : biP .sorted [.dct (rK d) vs] = .ok (.lst (((sortR d).map (·.1)).map PV.str)) := by
  show (match strsP (rK d) with | some ss => if Nat.blt ss.length 64 then Res.ok (PV.lst ((sortN ss).map PV.str)) else .bad | none => .bad) = _
  rw [rK_eq, strsP_R]
  have hb : Nat.blt (d.map (·.1)).length 64 = true := Nat.ble_eq_true_of_le (by rw [List.length_map]; exact h)
  show (if Nat.blt (d.map (·.1)).length 64 then Res.ok (PV.lst ((sortN (d.map (·.1))).map PV.str)) else .bad) = _
  rw [hb, sortR_nm]
  rfl
/-- (name, d[name]) for the names, sorted -/
theorem told_R {φ : Fns} {κ : Cons} {d : List Row1} (hn : (d.map (·.1)).Nodup) {i j : Nat} {ρ : List Slot} (hj : ρ[j]? = some (.owd (rK d) (rV d))) (hij : i ≠ j) (hi : i < ρ.length) :
    compL (stepC φ κ [i] (.tn i) (.k (.bl true)) (.tup (.cons (.v i) (.cons (.ix (.rd j) (.v i)) .nil))) ρ) (((sortR d).map (·.1)).map PV.str) = .ok ((sortR d).map roP) := by
  rw [List.map_map]
  refine compL_of fun r hr => ?_
  have hf := findL_mem hn (sortR_mem.mp hr)
  have lk := look_R r.1 d
  rw [hf] at lk
  have ix : ixP (.dct (rK d) (rV d)) (.str r.1) = .ok (leP r.2) := by
    show (if keyB (.str r.1) then (match lookP (rK d) (rV d) (.str r.1) with | some v => Res.ok v | none => .bad) else .bad) = _
    rw [lk]; rfl
  have e1 : (ρ.set i (.shr (.str r.1)))[i]? = some (.shr (.str r.1)) := by rw [List.getElem?_set_self hi]
  have e2 : (ρ.set i (.shr (.str r.1)))[j]? = some (.owd (rK d) (rV d)) := by rw [List.getElem?_set_ne hij]; exact hj
  show stepC _ _ _ _ _ _ _ (PV.str r.1) = .ok (some (PV.tup [.str r.1, leP r.2]))
  simp [stepC, e1, e2, ix]
theorem dict_rows : ∀ (b a : List Row1), ((a ++ b).map (·.1)).Nodup → dictL (rK a) (rV a) (b.map roP) = .ok (.dct (rK (a ++ b)) (rV (a ++ b)))
  | [], a, _ => by rw [List.append_nil]; rfl
  | r :: b, a, h => by
    have e : dictL (rK a) (rV a) ((r :: b).map roP) = dictL (kputP (rK a) (.str r.1)) (dputP (rK a) (rV a) (.str r.1) (leP r.2)) (b.map roP) := rfl
    have nx : a.any (·.1 == r.1) = false := by
      rw [any_mem, decide_eq_false_iff_not]
      intro z
      rw [List.map_append, List.nodup_append] at h
      exact h.2.2 r.1 z r.1 (by simp) rfl
    have pr : putR a r.1 r.2 = a ++ [r] := by
      unfold putR
      rw [nx]; rfl
    rw [e, put_RK a r.1 r.2, put_RV, pr, dict_rows b (a ++ [r]) (by rwa [List.append_assoc])]
    rw [List.append_assoc]; rfl
theorem OkCa.nodup {c : List Row1} (h : OkCa c) : (c.map (·.1)).Nodup := by
  refine List.Pairwise.imp ?_ h.up
  intro a b z e
  subst e
  exact List.lt_irrefl _ z
theorem OkCa.dict {c : List Row1} (h : OkCa c) : biP .dict [.ptp (c.map roP)] = .ok (.dct (rK c) (rV c)) := by
  have k : biP .dict [.ptp (c.map roP)] = if fits (c.map roP).length then dictL [] [] (c.map roP) else .bad := rfl
  have hl := h.len
  rw [k, show fits (c.map roP).length = true from Nat.ble_eq_true_of_le (Nat.le_trans (by rw [List.length_map]; exact hl) (by decide))]
  exact dict_rows c [] h.nodup
end Zp
end
section
/-! the laws' own cases -/
namespace Zd
open Z
def d_law_name : Z.FnD := ⟨1, 1, (.scons (.sret (.ix (.dsp (.cons (.k (.str [97])) (.cons (.k (.str [98])) (.cons (.k (.str [99])) (.cons (.k (.str [100])) (.cons (.k (.str [101])) (.cons (.k (.str [97, 98])) (.cons (.k (.str [97, 99, 117, 116, 101])) (.cons (.k (.str [98, 108, 97, 110, 107])) (.cons (.k (.str [120])) (.cons (.k (.str [121])) (.cons (.k (.str [122, 122])) (.cons (.k (.str [108, 111, 110, 103, 110, 97, 109, 101])) .nil))))))))))))) (.bin .mod (.v 0) (.k (.int 12))))) .snil)⟩
def law_case_2_b1 : Z.C := (.scons (.sset 11 (.call 133 (.cons (.ix (.v 2) (.bin .mod (.bin .add (.bin .add (.v 5) (.k (.int 3))) (.v 10)) (.k (.int 60)))) .nil))) (.scons (.sif (.or (.cmp .gt (.v 11) (.v 6)) (.cmp .eq (.bin .mod (.ix (.v 2) (.bin .mod (.bin .add (.v 5) (.k (.int 4))) (.k (.int 60)))) (.k (.int 5))) (.k (.int 0)))) (.scons (.sset 12 (.bin .sub (.bin .mod (.ix (.v 2) (.bin .mod (.bin .add (.v 5) (.k (.int 5))) (.k (.int 60)))) (.k (.int 201))) (.k (.int 100)))) (.scons (.sapp 9 (.tup (.cons (.v 11) (.cons (.v 12) (.cons (.bin .sub (.bin .mod (.ix (.v 2) (.bin .mod (.bin .add (.v 5) (.k (.int 6))) (.k (.int 60)))) (.k (.int 101))) (.k (.int 50))) .nil))))) .snil)) .snil) .snil))
def law_case_2_b2 : Z.C := (.scons (.sset 5 (.bin .add (.k (.int 1)) (.bin .mul (.k (.int 8)) (.v 4)))) (.scons (.sset 6 (.call 133 (.cons (.ix (.v 2) (.bin .mod (.v 5) (.k (.int 60)))) .nil))) (.scons (.sset 7 (.ife (.cmp .eq (.bin .mod (.ix (.v 2) (.bin .mod (.v 5) (.k (.int 60)))) (.k (.int 2))) (.k (.int 0))) (.k (.int 10)) (.k (.int 60)))) (.scons (.sset 8 (.tup (.cons (.call 13 (.cons (.v 2) (.cons (.bin .add (.v 5) (.k (.int 1))) (.cons (.v 7) .nil)))) .nil))) (.scons (.sif (.cmp .eq (.bin .mod (.ix (.v 2) (.bin .mod (.bin .add (.v 5) (.k (.int 1))) (.k (.int 60)))) (.k (.int 4))) (.k (.int 0))) (.scons (.sset 8 (.tup .nil)) .snil) .snil) (.scons (.sown 9 (.dsp .nil)) (.scons (.sfor (.tn 10) (.rng1 (.ix (.dsp (.cons (.k (.int 0)) (.cons (.k (.int 0)) (.cons (.k (.int 1)) (.cons (.k (.int 2)) .nil))))) (.bin .mod (.ix (.v 2) (.bin .mod (.bin .add (.v 5) (.k (.int 2))) (.k (.int 60)))) (.k (.int 4))))) law_case_2_b1) (.scons (.sdput 3 (.v 6) (.tup (.cons (.v 8) (.cons (.bi .tuple (.cons (.rd 9) .nil)) (.cons (.bin .mod (.bin .mul (.ix (.v 2) (.bin .mod (.bin .add (.v 5) (.k (.int 7))) (.k (.int 60)))) (.k (.int 7))) (.k (.int 901))) .nil))))) .snil))))))))
def d_law_case_2 : Z.FnD := ⟨2, 13, (.scons (.sset 2 (.call 11 (.cons (.v 0) (.cons (.v 1) .nil)))) (.scons (.sownd 3 (.dk [])) (.scons (.sfor (.tn 4) (.rng1 (.bin .add (.k (.int 1)) (.bin .mod (.ix (.v 2) (.k (.int 0))) (.k (.int 7))))) law_case_2_b2) (.scons (.sret (.bi .ptuple (.cons (.comp [6] (.tn 6) (.seq (.bi .sorted (.cons (.rd 3) .nil))) (.k (.bl true)) (.tup (.cons (.v 6) (.cons (.ix (.rd 3) (.v 6)) .nil)))) .nil))) .snil))))⟩
end Zd
namespace Zp
open Z PySem
def n12 : List Nm := [[97], [98], [99], [100], [101], [97, 98], [97, 99, 117, 116, 101], [98, 108, 97, 110, 107], [120], [121], [122, 122], [108, 111, 110, 103, 110, 97, 109, 101]]
theorem n12_ok : ∀ x ∈ n12, okNm x = true := by decide
structure HM4 (TT : Nat → Option FnD) : Prop where
  h9 : TT 9 = some Zd.d_law_cell
  h11 : TT 11 = some Zd.d_law_row
  h13 : TT 13 = some Zd.d_law_contour
  h133 : TT 133 = some Zd.d_law_name
/-- a case under way: names apart, letters valid -/
def smL (l : Letter) : Prop := l.2.2 ≤ 900 ∧ l.1.length ≤ 1 ∧ l.2.1.length ≤ 2
structure GoodD (d : List Row1) : Prop where
  nd : (d.map (·.1)).Nodup
  nm : ∀ r ∈ d, r.1 ∈ n12
  le : ∀ r ∈ d, okLe r.2 = true
  sm : ∀ r ∈ d, smL r.2
theorem GoodD.put {d : List Row1} (g : GoodD d) {x : Nm} {l : Letter} (hx : x ∈ n12) (hl : okLe l = true) (hs : smL l) : GoodD (putR d x l) where
  nd := putR_nodup g.nd x l
  nm := fun r hr => by
    rcases putR_mem hr with rfl | h
    · exact hx
    · exact g.nm r h
  le := fun r hr => by
    rcases putR_mem hr with rfl | h
    · exact hl
    · exact g.le r h
  sm := fun r hr => by
    rcases putR_mem hr with rfl | h
    · exact hs
    · exact g.sm r h
theorem GoodD.ca {d : List Row1} (g : GoodD d) (hl : d.length ≤ 40) : OkCa (sortR d) where
  len := by rw [sortR_len]; exact hl
  nm := fun r hr => n12_ok _ (g.nm r (sortR_mem.mp hr))
  le := fun r hr => g.le r (sortR_mem.mp hr)
  up := sortR_up g.nd
section
variable {TT : Nat → Option FnD} {κ : Cons} {cx : Nat → Nat → Bool} {wf : Nat} {n : Nat}
theorem lname4 (h133 : TT 133 = some Zd.d_law_name) (v : Int) : ∃ x ∈ n12, callN TT κ cx wf (n + 1) 133 [.int v] = .ok (.shr (.str x)) := by
  have m := fmod_rng v (b := 12) (by decide)
  obtain ⟨o, ho, e⟩ := ix_ex (xs := n12.map PV.str) (v := v.fmod 12) m.1 (by show _ < (12 : Int); exact m.2)
  obtain ⟨x, hx, rfl⟩ := List.mem_map.mp ho
  refine ⟨x, hx, ?_⟩
  rw [callN_eq h133 rfl]
  unfold Zd.d_law_name startS
  unfold n12 at e
  simp only [List.map_cons, List.map_nil] at e
  simp [bin_mod, e]
theorem part_step (h133 : TT 133 = some Zd.d_law_name) {r : List Int} (hr : IsRow r) (sp t : Int) (nm : Nm) (ps : List Part) (hl : ps.length ≤ 10) (hp : ∀ p ∈ ps, okPa p = true) (a0 a1 a3 a4 a7 a8 s10 s11 s12 : Slot) :
    ∃ (ps' : List Part) (s10' s11' s12' : Slot), ps'.length ≤ ps.length + 1 ∧ (∀ p ∈ ps', okPa p = true) ∧
      stepF (callN TT κ cx wf (n + 1)) κ cx wf (.tn 10) Zd.law_case_2_b1 (.int t) [a0, a1, .shr (.lst (r.map PV.int)), a3, a4, .shr (.int sp), .shr (.str nm), a7, a8, .own (ps.map paP), s10, s11, s12] = .nx [a0, a1, .shr (.lst (r.map PV.int)), a3, a4, .shr (.int sp), .shr (.str nm), a7, a8, .own (ps'.map paP), s10', s11', s12'] := by
  obtain ⟨v3, _, _, q3⟩ := row_mod hr (sp + 3 + t)
  obtain ⟨v4, _, _, q4⟩ := row_mod hr (sp + 4)
  obtain ⟨v5, _, _, q5⟩ := row_mod hr (sp + 5)
  obtain ⟨v6, _, _, q6⟩ := row_mod hr (sp + 6)
  obtain ⟨x, hx, ex⟩ := lname4 (κ := κ) (cx := cx) (wf := wf) (n := n) h133 v3
  have m5 := fmod_rng v5 (b := 201) (by decide)
  have m6 := fmod_rng v6 (b := 101) (by decide)
  have cg : cmpP .gt (.str x) (.str nm) = .ok (.bl (decide (nm < x))) := rfl
  have hf : fits (ps.length + 1) = true := fits_of (by omega)
  have app : ∃ (s10' s11' s12' : Slot), .nx [a0, a1, .shr (.lst (r.map PV.int)), a3, a4, .shr (.int sp), .shr (.str nm), a7, a8, .own ((ps ++ [(x, v5.fmod 201 - 100, v6.fmod 101 - 50)]).map paP), s10', s11', s12'] = Out.nx [a0, a1, .shr (.lst (r.map PV.int)), a3, a4, .shr (.int sp), .shr (.str nm), a7, a8, .own (ps.map paP ++ [.tup [.str x, .int (v5.fmod 201 - 100), .int (v6.fmod 101 - 50)]]), .shr (.int t), .shr (.str x), .shr (.int (v5.fmod 201 - 100))] := ⟨.shr (.int t), .shr (.str x), .shr (.int (v5.fmod 201 - 100)), by rw [List.map_append]; rfl⟩
  have hall : ∀ p ∈ ps ++ [(x, v5.fmod 201 - 100, v6.fmod 101 - 50)], okPa p = true := fun p hpp => by
    rcases List.mem_append.mp hpp with h | h
    · exact hp p h
    · rw [List.mem_singleton] at h
      subst h
      unfold okPa inB
      simp only [Bool.and_eq_true, decide_eq_true_eq]
      exact ⟨n12_ok x hx, ⟨by omega, by omega⟩, by omega, by omega⟩
  obtain ⟨z10, z11, z12, ez⟩ := app
  unfold Zd.law_case_2_b1
  cases h1 : decide (nm < x)
  · by_cases h2 : v4.fmod 5 = 0
    · refine ⟨ps ++ [(x, v5.fmod 201 - 100, v6.fmod 101 - 50)], z10, z11, z12, by simp, hall, ?_⟩
      rw [ez]
      rw [h1] at cg
      simp [stepF, bin_mod, q3, q4, q5, q6, ex, cg, h2, hf]
    · refine ⟨ps, .shr (.int t), .shr (.str x), s12, by omega, hp, ?_⟩
      rw [h1] at cg
      simp [stepF, bin_mod, q3, q4, q5, q6, ex, cg, h2]
  · refine ⟨ps ++ [(x, v5.fmod 201 - 100, v6.fmod 101 - 50)], z10, z11, z12, by simp, hall, ?_⟩
    rw [ez]
    rw [h1] at cg
    simp [stepF, bin_mod, q3, q4, q5, q6, ex, cg, hf]
theorem part_loop (h133 : TT 133 = some Zd.d_law_name) {r : List Int} (hr : IsRow r) (sp : Int) (nm : Nm) (a0 a1 a3 a4 a7 a8 : Slot) : ∀ (k : Nat) (t : Int) (ps : List Part) (s10 s11 s12 : Slot), ps.length + k ≤ 10 → (∀ p ∈ ps, okPa p = true) →
    ∃ (ps' : List Part) (s10' s11' s12' : Slot), ps'.length ≤ ps.length + k ∧ (∀ p ∈ ps', okPa p = true) ∧
      forL (stepF (callN TT κ cx wf (n + 1)) κ cx wf (.tn 10) Zd.law_case_2_b1) (upL t k) [a0, a1, .shr (.lst (r.map PV.int)), a3, a4, .shr (.int sp), .shr (.str nm), a7, a8, .own (ps.map paP), s10, s11, s12] = .nx [a0, a1, .shr (.lst (r.map PV.int)), a3, a4, .shr (.int sp), .shr (.str nm), a7, a8, .own (ps'.map paP), s10', s11', s12'] := by
  intro k
  induction k with
  | zero => exact fun t ps s10 s11 s12 _ hp => ⟨ps, s10, s11, s12, by omega, hp, rfl⟩
  | succ k ih =>
    intro t ps s10 s11 s12 hl hp
    obtain ⟨ps1, u10, u11, u12, l1, p1, e1⟩ := part_step (κ := κ) (cx := cx) (wf := wf) (n := n) h133 hr sp t nm ps (by omega) hp a0 a1 a3 a4 a7 a8 s10 s11 s12
    obtain ⟨ps2, v10, v11, v12, l2, p2, e2⟩ := ih (t + 1) ps1 u10 u11 u12 (by omega) p1
    refine ⟨ps2, v10, v11, v12, by omega, p2, ?_⟩
    show forL _ (.int t :: upL (t + 1) k) _ = _
    rw [forL_cons, e1, next_nx, e2]
end
end Zp
end
section
/-! the laws' own cases, made -/
namespace Zp
open Z PySem
theorem okLe_of {s : List (List Pt)} {ps : List Part} {w : Int} (hs : okSh s = true) (hl : ps.length ≤ 4) (hp : ∀ p ∈ ps, okPa p = true) (h0 : 0 ≤ w) (h1 : w ≤ 4000) : okLe (s, ps, w) = true := by
  unfold okLe inB
  simp only [Bool.and_eq_true, decide_eq_true_eq]
  exact ⟨hs, hl, List.all_eq_true.mpr hp, h0, h1⟩
section
variable {TT : Nat → Option FnD} {κ : Cons} {cx : Nat → Nat → Bool} {wf : Nat} {n : Nat} (M : HM4 TT)
include M
theorem row_step {r : List Int} (hr : IsRow r) (t : Int) (ht : 0 ≤ t) (d : List Row1) (hl : d.length ≤ 30) (a0 a1 s4 s5 s6 s7 s8 s9 s10 s11 s12 : Slot) :
    ∃ (x : Nm) (l : Letter) (u4 u5 u6 u7 u8 u9 u10 u11 u12 : Slot), x ∈ n12 ∧ okLe l = true ∧ smL l ∧
      stepF (callN TT κ cx wf (n + 1)) κ cx wf (.tn 4) Zd.law_case_2_b2 (.int t) [a0, a1, .shr (.lst (r.map PV.int)), .owd (rK d) (rV d), s4, s5, s6, s7, s8, s9, s10, s11, s12] = .nx [a0, a1, .shr (.lst (r.map PV.int)), .owd (rK (putR d x l)) (rV (putR d x l)), u4, u5, u6, u7, u8, u9, u10, u11, u12] := by
  obtain ⟨v0, _, _, q0⟩ := row_mod hr (1 + 8 * t)
  obtain ⟨v1, _, _, q1⟩ := row_mod hr (1 + 8 * t + 1)
  obtain ⟨v2, _, _, q2⟩ := row_mod hr (1 + 8 * t + 2)
  obtain ⟨v7, _, _, q7⟩ := row_mod hr (1 + 8 * t + 7)
  obtain ⟨x, hx, ex⟩ := lname4 (κ := κ) (cx := cx) (wf := wf) (n := n) M.h133 v0
  have m7 := fmod_rng (v7 * 7) (b := 901) (by decide)
  obtain ⟨nr, hn0, hn1, en⟩ : ∃ nr : Int, 0 < nr ∧ nr ≤ 60 ∧ (if decide (v0.fmod 2 = 0) then (Res.ok (PV.int 10)) else .ok (.int 60)) = .ok (.int nr) := by
    cases decide (v0.fmod 2 = 0)
    · exact ⟨60, by decide, by decide, rfl⟩
    · exact ⟨10, by decide, by decide, rfl⟩
  obtain ⟨co, gco, eco⟩ := lcontour0 (κ := κ) (cx := cx) (wf := wf) (n := n) M.h13 hr (a := 1 + 8 * t + 1) (w := nr) (by omega) hn0 (by omega)
  obtain ⟨k, hk, hk2, ek⟩ : ∃ k : Int, 0 ≤ k ∧ k ≤ 2 ∧ ixP (.lst [.int 0, .int 0, .int 1, .int 2]) (.int (v2.fmod 4)) = .ok (.int k) := by
    have m2 := fmod_rng v2 (b := 4) (by decide)
    have : v2.fmod 4 = 0 ∨ v2.fmod 4 = 1 ∨ v2.fmod 4 = 2 ∨ v2.fmod 4 = 3 := by omega
    rcases this with h | h | h | h <;> rw [h] <;> exact ⟨_, by decide, by decide, rfl⟩
  have eg : rngP (.int 0) (.int k) = .ok (.lst (upL 0 (k - 0).toNat)) := rng_of (by omega) (by omega) (by omega) (by omega) (by omega)
  obtain ⟨sh, hsh, hsl, esh⟩ : ∃ sh : List (List Pt), okSh sh = true ∧ sh.length ≤ 1 ∧ (if decide (v1.fmod 4 = 0) then PV.tup [] else .tup [coP co]) = shP sh := by
    cases decide (v1.fmod 4 = 0)
    · exact ⟨[co], GoodSh.ok ⟨by simp, fun c hc => by rw [List.mem_singleton] at hc; subst hc; exact gco.mono (by omega)⟩, by simp, rfl⟩
    · exact ⟨[], rfl, by simp, rfl⟩
  obtain ⟨ps, u10, u11, u12, pl, pp, el⟩ := part_loop (κ := κ) (cx := cx) (wf := wf) (n := n) M.h133 hr (1 + 8 * t) x a0 a1 (.owd (rK d) (rV d)) (.shr (.int t)) (.shr (.int nr)) (.shr (shP sh)) (k - 0).toNat 0 [] s10 s11 s12 (by simp; omega) (fun p hp => by cases hp)
  have hlet : okLe (sh, ps, (v7 * 7).fmod 901) = true := okLe_of hsh (by simp at pl; omega) pp m7.1 (by omega)
  refine ⟨x, (sh, ps, (v7 * 7).fmod 901), .shr (.int t), .shr (.int (1 + 8 * t)), .shr (.str x), .shr (.int nr), .shr (shP sh), .own (ps.map paP), u10, u11, u12, hx, hlet, ⟨by show (v7 * 7).fmod 901 ≤ 900; omega, hsl, by show ps.length ≤ 2; simp at pl; omega⟩, ?_⟩
  have hf : fits (d.length + 1) = true := fits_of (by omega)
  have hlen : (rK d).length = d.length := by unfold rK; rw [List.length_map]
  have pk := put_RK d x (sh, ps, (v7 * 7).fmod 901)
  have pv := put_RV d x (sh, ps, (v7 * 7).fmod 901)
  have elt : leP (sh, ps, (v7 * 7).fmod 901) = .tup [shP sh, .tup (ps.map paP), .int ((v7 * 7).fmod 901)] := rfl
  rw [elt] at pv
  have key : keyB (.str x) = true := rfl
  simp only [Int.sub_zero] at eg el
  rw [List.map_nil] at el
  generalize rK (putR d x (sh, ps, (v7 * 7).fmod 901)) = NK at *
  generalize rV (putR d x (sh, ps, (v7 * 7).fmod 901)) = NV at *
  generalize rK d = DK at *
  generalize rV d = DV at *
  unfold Zd.law_case_2_b2
  by_cases h1 : v1.fmod 4 = 0
  · simp only [h1, decide_true, if_true] at esh
    rw [← esh] at el pv ⊢
    by_cases h0 : v0.fmod 2 = 0
    · simp only [h0, decide_true, if_true, Res.ok.injEq, PV.int.injEq] at en
      subst en
      simp [stepF, bin_mul_l, bin_mul_r, bin_mod, q0, q1, q2, q7, ex, h0, h1, eco, ek, eg, el, hlen, hf, pk, pv, key]
    · simp only [h0, decide_false, Bool.false_eq_true, if_false, Res.ok.injEq, PV.int.injEq] at en
      subst en
      simp [stepF, bin_mul_l, bin_mul_r, bin_mod, q0, q1, q2, q7, ex, h0, h1, eco, ek, eg, el, hlen, hf, pk, pv, key]
  · simp only [h1, decide_false, Bool.false_eq_true, if_false] at esh
    rw [← esh] at el pv ⊢
    by_cases h0 : v0.fmod 2 = 0
    · simp only [h0, decide_true, if_true, Res.ok.injEq, PV.int.injEq] at en
      subst en
      simp [stepF, bin_mul_l, bin_mul_r, bin_mod, q0, q1, q2, q7, ex, h0, h1, eco, ek, eg, el, hlen, hf, pk, pv, key]
    · simp only [h0, decide_false, Bool.false_eq_true, if_false, Res.ok.injEq, PV.int.injEq] at en
      subst en
      simp [stepF, bin_mul_l, bin_mul_r, bin_mod, q0, q1, q2, q7, ex, h0, h1, eco, ek, eg, el, hlen, hf, pk, pv, key]
theorem rows_loop {r : List Int} (hr : IsRow r) (a0 a1 : Slot) : ∀ (k : Nat) (t : Int) (d : List Row1) (s4 s5 s6 s7 s8 s9 s10 s11 s12 : Slot), 0 ≤ t → d.length + k ≤ 30 → GoodD d →
    ∃ (d' : List Row1) (u4 u5 u6 u7 u8 u9 u10 u11 u12 : Slot), GoodD d' ∧ d'.length ≤ d.length + k ∧ (0 < k ∨ 0 < d.length → 0 < d'.length) ∧
      forL (stepF (callN TT κ cx wf (n + 1)) κ cx wf (.tn 4) Zd.law_case_2_b2) (upL t k) [a0, a1, .shr (.lst (r.map PV.int)), .owd (rK d) (rV d), s4, s5, s6, s7, s8, s9, s10, s11, s12] = .nx [a0, a1, .shr (.lst (r.map PV.int)), .owd (rK d') (rV d'), u4, u5, u6, u7, u8, u9, u10, u11, u12] := by
  intro k
  induction k with
  | zero => exact fun t d s4 s5 s6 s7 s8 s9 s10 s11 s12 _ _ g => ⟨d, s4, s5, s6, s7, s8, s9, s10, s11, s12, g, by omega, fun h => by omega, rfl⟩
  | succ k ih =>
    intro t d s4 s5 s6 s7 s8 s9 s10 s11 s12 ht hl g
    obtain ⟨x, l, u4, u5, u6, u7, u8, u9, u10, u11, u12, hx, hle, hsm, e1⟩ := row_step (κ := κ) (cx := cx) (wf := wf) (n := n) M hr t ht d (by omega) a0 a1 s4 s5 s6 s7 s8 s9 s10 s11 s12
    have pl := putR_len d x l
    have pos : 0 < (putR d x l).length := by
      unfold putR
      split
      · rename_i h
        cases d with
        | nil => cases h
        | cons y d => simp
      · simp
    obtain ⟨d', w4, w5, w6, w7, w8, w9, w10, w11, w12, g', l', p', e2⟩ := ih (t + 1) (putR d x l) u4 u5 u6 u7 u8 u9 u10 u11 u12 (by omega) (by omega) (g.put hx hle hsm)
    refine ⟨d', w4, w5, w6, w7, w8, w9, w10, w11, w12, g', by omega, fun _ => p' (.inr pos), ?_⟩
    show forL _ (.int t :: upL (t + 1) k) _ = _
    rw [forL_cons, e1, next_nx, e2]
/-- a case of the law's own -/
structure GoodC (c : List Row1) : Prop where
  ok : OkCa c
  len : c.length ≤ 7
  pos : 0 < c.length
  nm : ∀ r ∈ c, r.1 ∈ n12
  sm : ∀ r ∈ c, smL r.2
theorem lcase_ok (h197 : TT 197 = some Zd.d_law_case_2) {ns : List Int} {a : Int} (ha : 0 ≤ a) : ∃ c, GoodC c ∧ callN TT κ cx wf (n + 3) 197 [.scr ns, .int a] = .ok (.shr (.ptp (c.map roP))) := by
  obtain ⟨r, hr, er⟩ := row_ok (κ := κ) (cx := cx) (wf := wf) (n := n) M.h9 M.h11 (ns := ns) ha
  obtain ⟨v0, _, _, q0⟩ := row_at hr (i := 0) (by decide) (by decide)
  have m0 := fmod_rng v0 (b := 7) (by decide)
  have eg : rngP (.int 0) (.int (1 + v0.fmod 7)) = .ok (.lst (upL 0 (1 + v0.fmod 7 - 0).toNat)) := rng_of (by omega) (by omega) (by omega) (by omega) (by omega)
  obtain ⟨d, u4, u5, u6, u7, u8, u9, u10, u11, u12, g, l, p, e⟩ := rows_loop (κ := κ) (cx := cx) (wf := wf) (n := n + 1) M hr (.shr (.scr ns)) (.shr (.int a)) (1 + v0.fmod 7 - 0).toNat 0 [] .un .un .un .un .un .un .un .un .un (by decide) (by simp; omega) ⟨by simp, fun r hr => (by cases hr), fun r hr => (by cases hr), fun r hr => (by cases hr)⟩
  have l7 : d.length ≤ 7 := by simp at l; omega
  refine ⟨sortR d, ⟨g.ca (by omega), by rw [sortR_len]; exact l7, by rw [sortR_len]; exact p (.inl (by omega)), fun r hr => g.nm r (sortR_mem.mp hr), fun r hr => g.sm r (sortR_mem.mp hr)⟩, ?_⟩
  rw [callN_eq h197 rfl]
  unfold Zd.d_law_case_2 startS
  have so := sorted_R (d := d) (by omega) (rV d)
  have to := told_R (φ := callN TT κ cx wf (n + 2)) (κ := κ) g.nd (i := 6) (j := 3) (ρ := [.shr (.scr ns), .shr (.int a), .shr (.lst (r.map PV.int)), .owd (rK d) (rV d), u4, u5, u6, u7, u8, u9, u10, u11, u12]) rfl (by decide) (by show 6 < 13; decide)
  have pt : biP .ptuple [.lst ((sortR d).map roP)] = .ok (.ptp ((sortR d).map roP)) := rfl
  have e0 : rK [] = [] := rfl
  have e0' : rV [] = [] := rfl
  rw [e0, e0'] at e
  simp only [Int.sub_zero] at eg e
  generalize ((sortR d).map (·.1)).map PV.str = NL at so to
  generalize rK d = DK at *
  generalize rV d = DV at *
  simp [er, bin_mod, q0, eg, e, so, to, pt]
end
end Zp
end
section
/-! parts below a letter -/
namespace Zd
open Z
def flat_of_2_b1 : Z.C := (.scons (.sset 6 (.bin .add (.v 6) (.call 5 (.cons (.call 201 (.cons (.v 0) (.cons (.v 7) (.cons (.bin .add (.v 2) (.dsp (.cons (.v 1) .nil))) .nil)))) (.cons (.v 8) (.cons (.v 9) .nil)))))) .snil)
def d_flat_of_2 : Z.FnD := ⟨3, 10, (.scons (.sif (.cmp .inn (.v 1) (.v 2)) (.scons (.srai 9 (.v 1)) .snil) .snil) (.scons (.sasg (.tt (.cons (.tn 3) (.cons (.tn 4) (.cons (.tn 5) .nil)))) (.call 193 (.cons (.v 0) (.cons (.v 1) .nil)))) (.scons (.sset 6 (.v 3)) (.scons (.sfor (.tt (.cons (.tn 7) (.cons (.tn 8) (.cons (.tn 9) .nil)))) (.seq (.v 4)) flat_of_2_b1) (.scons (.sret (.v 6)) .snil)))))⟩
def d_flat_2 : Z.FnD := ⟨2, 2, (.scons (.sexp (.call 121 (.cons (.v 0) .nil))) (.scons (.sret (.call 201 (.cons (.v 0) (.cons (.v 1) (.cons (.dsp .nil) .nil))))) .snil))⟩
def parts_below_2_b1 : Z.C := (.scons (.sif (.an (.cmp .nin (.v 4) (.rd 2)) (.cmp .inn (.v 4) (.call 123 (.cons (.v 0) .nil)))) (.scons (.sdput 2 (.v 4) (.k (.bl true))) (.scons (.sapp 3 (.v 4)) .snil)) .snil) .snil)
def parts_below_2_b2 : Z.C := (.scons (.sfp (.tt (.cons (.tn 4) (.cons (.tn 5) (.cons (.tn 6) .nil)))) 3 193 (.v 0) 1 parts_below_2_b1) .snil)
def d_parts_below_2 : Z.FnD := ⟨2, 7, (.scons (.sownd 2 (.dk [])) (.scons (.sown 3 (.dsp (.cons (.v 1) .nil))) (.scons (.swh (.rd 3) parts_below_2_b2) (.scons (.sret (.bi .sorted (.cons (.rd 2) .nil))) .snil))))⟩
def d_below_2 : Z.FnD := ⟨2, 2, (.scons (.sexp (.call 121 (.cons (.v 0) .nil))) (.scons (.sret (.call 203 (.cons (.v 0) (.cons (.v 1) .nil)))) .snil))⟩
def d_above : Z.FnD := ⟨2, 3, (.scons (.sexp (.call 121 (.cons (.v 0) .nil))) (.scons (.sexp (.call 193 (.cons (.v 0) (.cons (.v 1) .nil)))) (.scons (.sref (.comp [2] (.tn 2) (.seq (.call 123 (.cons (.v 0) .nil))) (.cmp .inn (.v 1) (.call 203 (.cons (.v 0) (.cons (.v 2) .nil)))) (.v 2))) .snil)))⟩
end Zd
namespace Zp
open Z PySem
section
variable {φ : Fns} {κ : Cons} {cx : Nat → Nat → Bool} {wf i f : Nat} {ρ : List Slot} {tg a body : C} {k : Int}
/-- for tg in f(a, x.pop())[k] -/
theorem es_sfp {v q p z : PV} {xs : List PV} {ys : List PV} {r : RV} (h1 : ev φ κ a ρ = .ok v) (h2 : ρ[i]? = some (.own xs)) (h3 : xs.getLast? = some q) (h4 : φ f [v, q] = .ok (.shr p)) (h5 : ixP p (.int k) = .ok (.tup ys)) : evS φ κ cx wf (.sfp tg i f a k body) ρ = forL (stepF φ κ cx wf tg body) ys (ρ.set i (.own xs.dropLast)) := by
  show (lift (ev φ κ a ρ) ρ fun v => lift (ownAt ρ i) ρ fun xs => match xs.getLast? with
    | none => .bad
    | some q => lift (φ f [v, q]) (ρ.set i (.own xs.dropLast)) fun r => lift ((shrOf r).bind fun p => (ixP p (.int k)).bind tupOf) (ρ.set i (.own xs.dropLast)) fun ys => forL (fun x ρ' => lift (asgP tg x ρ') ρ' fun ρ'' => evS φ κ cx wf body ρ'') ys (ρ.set i (.own xs.dropLast))) = _
  have h2' : ownAt ρ i = .ok xs := by unfold ownAt; rw [h2]
  rw [h1, h2']
  show (match xs.getLast? with
    | none => Out.bad
    | some q => lift (φ f [v, q]) (ρ.set i (.own xs.dropLast)) fun r => lift ((shrOf r).bind fun p => (ixP p (.int k)).bind tupOf) (ρ.set i (.own xs.dropLast)) fun ys => forL (fun x ρ' => lift (asgP tg x ρ') ρ' fun ρ'' => evS φ κ cx wf body ρ'') ys (ρ.set i (.own xs.dropLast))) = _
  rw [h3]
  show lift (φ f [v, q]) (ρ.set i (.own xs.dropLast)) (fun r => lift ((shrOf r).bind fun p => (ixP p (.int k)).bind tupOf) (ρ.set i (.own xs.dropLast)) fun ys => forL (fun x ρ' => lift (asgP tg x ρ') ρ' fun ρ'' => evS φ κ cx wf body ρ'') ys (ρ.set i (.own xs.dropLast))) = _
  rw [h4]
  show lift ((ixP p (.int k)).bind tupOf) (ρ.set i (.own xs.dropLast)) (fun ys => forL (fun x ρ' => lift (asgP tg x ρ') ρ' fun ρ'' => evS φ κ cx wf body ρ'') ys (ρ.set i (.own xs.dropLast))) = _
  rw [h5]
  rfl
theorem es_sfpx {v q : PV} {xs : List PV} {c : Nat} {o : Option PV} (h1 : ev φ κ a ρ = .ok v) (h2 : ρ[i]? = some (.own xs)) (h3 : xs.getLast? = some q) (h4 : φ f [v, q] = .exc c o) : evS φ κ cx wf (.sfp tg i f a k body) ρ = .exc c o (ρ.set i (.own xs.dropLast)) := by
  show (lift (ev φ κ a ρ) ρ fun v => lift (ownAt ρ i) ρ fun xs => match xs.getLast? with
    | none => .bad
    | some q => lift (φ f [v, q]) (ρ.set i (.own xs.dropLast)) fun r => lift ((shrOf r).bind fun p => (ixP p (.int k)).bind tupOf) (ρ.set i (.own xs.dropLast)) fun ys => forL (fun x ρ' => lift (asgP tg x ρ') ρ' fun ρ'' => evS φ κ cx wf body ρ'') ys (ρ.set i (.own xs.dropLast))) = _
  have h2' : ownAt ρ i = .ok xs := by unfold ownAt; rw [h2]
  rw [h1, h2']
  show (match xs.getLast? with
    | none => Out.bad
    | some q => lift (φ f [v, q]) (ρ.set i (.own xs.dropLast)) fun r => lift ((shrOf r).bind fun p => (ixP p (.int k)).bind tupOf) (ρ.set i (.own xs.dropLast)) fun ys => forL (fun x ρ' => lift (asgP tg x ρ') ρ' fun ρ'' => evS φ κ cx wf body ρ'') ys (ρ.set i (.own xs.dropLast))) = _
  rw [h3]
  show lift (φ f [v, q]) (ρ.set i (.own xs.dropLast)) (fun r => lift ((shrOf r).bind fun p => (ixP p (.int k)).bind tupOf) (ρ.set i (.own xs.dropLast)) fun ys => forL (fun x ρ' => lift (asgP tg x ρ') ρ' fun ρ'' => evS φ κ cx wf body ρ'') ys (ρ.set i (.own xs.dropLast))) = _
  rw [h4]
  rfl
end
/-! ### what is below, typed -/
abbrev FW := List Nm × List Nm
def addB (names : List Nm) (s : FW) (p : Nm) : FW := if !decide (p ∈ s.1) && decide (p ∈ names) then (s.1 ++ [p], s.2 ++ [p]) else s
def vT (f : List Nm) : List PV := f.map fun _ => .bl true
theorem has_S (a : Nm) : ∀ f : List Nm, hasP (f.map PV.str) (.str a) = decide (a ∈ f)
  | [] => rfl
  | x :: f => by
    have ih := has_S a f
    show (eqP (.str x) (.str a) || hasP (f.map PV.str) (.str a)) = _
    rw [ih, eqs]
    by_cases e : x = a
    · subst e
      simp
    · have e1 : (x == a) = false := by simpa using e
      rw [e1, Bool.false_or]
      exact decide_eq_decide.mpr (by rw [List.mem_cons]; exact ⟨.inr, fun z => z.resolve_left fun h => e h.symm⟩)
section
variable {TT : Nat → Option FnD} {κ : Cons} {cx : Nat → Nat → Bool} {wf : Nat} {n : Nat}
theorem inm (c : List Row1) (y : Nm) : cmpP .inn (.str y) (.lst ((c.map (·.1)).map PV.str)) = .ok (.bl (decide (y ∈ c.map (·.1)))) := by
  have d : depL ((c.map (·.1)).map PV.str) 20 = true := dep_tup PV.str 20 (fun _ => rfl) _
  have k : cmpP .inn (.str y) (.lst ((c.map (·.1)).map PV.str)) = if dep (.str y) 20 && depL ((c.map (·.1)).map PV.str) 20 then .ok (.bl (inP (.str y) ((c.map (·.1)).map PV.str))) else .bad := by
    rcases y with _ | ⟨a, _ | ⟨b, t⟩⟩ <;> rfl
  rw [k, d]
  show Res.ok (PV.bl (inP (.str y) ((c.map (·.1)).map PV.str))) = _
  congr 2
  rw [← any_mem]
  unfold inP
  rw [List.any_map, List.any_map]
  rfl
theorem pb_step (h123 : TT 123 = some Zd.d_names_of) (c : List Row1) (p : Part) (s : FW) (h1 : s.1.length ≤ 1000) (h2 : s.2.length ≤ 1000) (a1 s4 s5 s6 : Slot) :
    ∃ u4 u5 u6, stepF (callN TT κ cx wf (n + 1)) κ cx wf (.tt (.cons (.tn 4) (.cons (.tn 5) (.cons (.tn 6) .nil)))) Zd.parts_below_2_b1 (paP p) [.shr (caP c), a1, .owd (s.1.map PV.str) (vT s.1), .own (s.2.map PV.str), s4, s5, s6] = .nx [.shr (caP c), a1, .owd ((addB (c.map (·.1)) s p.1).1.map PV.str) (vT (addB (c.map (·.1)) s p.1).1), .own ((addB (c.map (·.1)) s p.1).2.map PV.str), u4, u5, u6] := by
  refine ⟨.shr (.str p.1), .shr (.int p.2.1), .shr (.int p.2.2), ?_⟩
  have e4 := names_of_ok (κ := κ) (cx := cx) (wf := wf) (n := n) h123 c
  have ci := inm c p.1
  have cn : cmpP .nin (.str p.1) (.dct (s.1.map PV.str) (vT s.1)) = .ok (.bl (!decide (p.1 ∈ s.1))) := by
    rw [← has_S]
    rcases p.1 with _ | ⟨a, _ | ⟨b, t⟩⟩ <;> rfl
  have kp : keyB (.str p.1) = true := rfl
  have hf1 : fits (s.1.length + 1) = true := fits_of (by omega)
  have hf2 : fits (s.2.length + 1) = true := fits_of (by omega)
  show stepF _ _ _ _ _ _ (PV.tup [.str p.1, .int p.2.1, .int p.2.2]) _ = _
  have hs := has_S p.1 s.1
  unfold addB
  generalize caP c = CC at *
  generalize (c.map (·.1)).map PV.str = NS at *
  unfold Zd.parts_below_2_b1
  cases hb1 : decide (p.1 ∈ s.1)
  · rw [hb1] at cn hs
    cases hb2 : decide (p.1 ∈ c.map (·.1))
    · rw [hb2] at ci
      simp [stepF, cn, ci, e4]
    · rw [hb2] at ci
      have kk : kputP (s.1.map PV.str) (.str p.1) = (s.1 ++ [p.1]).map PV.str := by
        unfold kputP; rw [hs, List.map_append]; rfl
      have dd : dputP (s.1.map PV.str) (vT s.1) (.str p.1) (.bl true) = vT (s.1 ++ [p.1]) := by
        unfold dputP; rw [hs]; unfold vT; rw [List.map_append]; rfl
      have l1 : (s.1.map PV.str).length = s.1.length := List.length_map _
      have l2 : (s.2.map PV.str).length = s.2.length := List.length_map _
      have w2 : (s.2 ++ [p.1]).map PV.str = s.2.map PV.str ++ [.str p.1] := by rw [List.map_append]; rfl
      show _ = Out.nx [Slot.shr CC, a1, .owd ((s.1 ++ [p.1]).map PV.str) (vT (s.1 ++ [p.1])), .own ((s.2 ++ [p.1]).map PV.str), .shr (.str p.1), .shr (.int p.2.1), .shr (.int p.2.2)]
      rw [w2]
      generalize (s.1 ++ [p.1]).map PV.str = K1 at *
      generalize vT (s.1 ++ [p.1]) = V1 at *
      generalize s.1.map PV.str = K0 at *
      generalize s.2.map PV.str = W0 at *
      generalize vT s.1 = V0 at *
      simp [stepF, cn, ci, e4, kp, l1, l2, hf1, hf2, kk, dd]
  · rw [hb1] at cn
    simp [stepF, cn]
end
end Zp
end
section
/-! parts below a letter: what can be reached -/
namespace Zp
open Z PySem
def ptsOf (c : List Row1) (x : Nm) : List Nm := match findL c x with
  | some l => l.2.1.map (·.1)
  | none => []
/-- u has a part v, and v is there -/
def Nb (c : List Row1) (u v : Nm) : Prop := v ∈ ptsOf c u ∧ v ∈ c.map (·.1)
inductive Rch (c : List Row1) : Nm → Nm → Prop
  | one {u v : Nm} : Nb c u v → Rch c u v
  | more {u v w : Nm} : Rch c u v → Nb c v w → Rch c u w
theorem Rch.trans {c : List Row1} {u v w : Nm} (h : Rch c u v) (k : Rch c v w) : Rch c u w := by
  induction k with
  | one e => exact .more h e
  | more _ e ih => exact .more ih e
theorem Rch.mem {c : List Row1} {u v : Nm} (h : Rch c u v) : v ∈ c.map (·.1) := by
  cases h with
  | one e => exact e.2
  | more _ e => exact e.2
theorem len_sub : ∀ {a b : List Nm}, a.Nodup → (∀ x ∈ a, x ∈ b) → a.length ≤ b.length
  | [], b, _, _ => Nat.zero_le _
  | x :: a, b, h, s => by
    rw [List.nodup_cons] at h
    have hx : x ∈ b := s x List.mem_cons_self
    have h2 := len_sub (b := b.erase x) h.2 fun y hy => by
      have ne : y ≠ x := fun z => h.1 (z ▸ hy)
      exact (List.mem_erase_of_ne ne).mpr (s y (List.mem_cons_of_mem _ hy))
    rw [List.length_erase_of_mem hx] at h2
    have := List.length_pos_of_mem hx
    rw [List.length_cons]
    omega
structure Fd (names ps : List Nm) (s s' : FW) : Prop where
  a1 : ∀ y ∈ s.1, y ∈ s'.1
  a2 : ∀ y ∈ s.2, y ∈ s'.2
  al : ∀ y ∈ ps, y ∈ names → y ∈ s'.1
  n1 : ∀ y ∈ s'.1, y ∈ s.1 ∨ (y ∈ ps ∧ y ∈ names ∧ y ∈ s'.2)
  n2 : ∀ y ∈ s'.2, y ∈ s.2 ∨ (y ∈ ps ∧ y ∈ names ∧ y ∈ s'.1)
  nd : s.1.Nodup → s'.1.Nodup
  ln : s'.2.length + s.1.length = s.2.length + s'.1.length
theorem fd_all (names : List Nm) : ∀ (ps : List Nm) (s : FW), Fd names ps s (ps.foldl (addB names) s)
  | [], s => ⟨fun y h => h, fun y h => h, fun y h => (by cases h), fun y h => .inl h, fun y h => .inl h, fun h => h, by show s.2.length + s.1.length = s.2.length + s.1.length; rfl⟩
  | p :: ps, s => by
    have F := fd_all names ps (addB names s p)
    show Fd names (p :: ps) s (ps.foldl (addB names) (addB names s p))
    generalize ps.foldl (addB names) (addB names s p) = s' at F ⊢
    by_cases h1 : p ∈ s.1
    · have e : addB names s p = s := by unfold addB; rw [decide_eq_true h1]; rfl
      rw [e] at F
      exact ⟨F.a1, F.a2, fun y hy hn => by
          rcases List.mem_cons.mp hy with rfl | hy
          · exact F.a1 _ h1
          · exact F.al y hy hn, fun y hy => (F.n1 y hy).imp_right fun ⟨a, b, c⟩ => ⟨List.mem_cons_of_mem _ a, b, c⟩, fun y hy => (F.n2 y hy).imp_right fun ⟨a, b, c⟩ => ⟨List.mem_cons_of_mem _ a, b, c⟩, F.nd, F.ln⟩
    · by_cases h2 : p ∈ names
      · have e : addB names s p = (s.1 ++ [p], s.2 ++ [p]) := by unfold addB; rw [decide_eq_false h1, decide_eq_true h2]; rfl
        rw [e] at F
        have hp1 : p ∈ s'.1 := F.a1 p (by simp)
        have hp2 : p ∈ s'.2 := F.a2 p (by simp)
        refine ⟨fun y hy => F.a1 y (List.mem_append_left _ hy), fun y hy => F.a2 y (List.mem_append_left _ hy), fun y hy hn => ?_, fun y hy => ?_, fun y hy => ?_, fun hn => F.nd ?_, ?_⟩
        · rcases List.mem_cons.mp hy with rfl | hy
          · exact hp1
          · exact F.al y hy hn
        · rcases F.n1 y hy with h | ⟨a, b, c⟩
          · rcases List.mem_append.mp h with h | h
            · exact .inl h
            · rw [List.mem_singleton] at h
              subst h
              exact .inr ⟨List.mem_cons_self, h2, hp2⟩
          · exact .inr ⟨List.mem_cons_of_mem _ a, b, c⟩
        · rcases F.n2 y hy with h | ⟨a, b, c⟩
          · rcases List.mem_append.mp h with h | h
            · exact .inl h
            · rw [List.mem_singleton] at h
              subst h
              exact .inr ⟨List.mem_cons_self, h2, hp1⟩
          · exact .inr ⟨List.mem_cons_of_mem _ a, b, c⟩
        · rw [List.nodup_append]
          refine ⟨hn, by simp, fun a ha b hb => ?_⟩
          rw [List.mem_singleton] at hb
          subst hb
          exact fun e => h1 (e ▸ ha)
        · have := F.ln
          simp only [List.length_append, List.length_singleton] at this
          omega
      · have e : addB names s p = s := by unfold addB; rw [decide_eq_false h2, Bool.and_false]; rfl
        rw [e] at F
        exact ⟨F.a1, F.a2, fun y hy hn => by
          rcases List.mem_cons.mp hy with rfl | hy
          · exact absurd hn h2
          · exact F.al y hy hn, fun y hy => (F.n1 y hy).imp_right fun ⟨a, b, c⟩ => ⟨List.mem_cons_of_mem _ a, b, c⟩, fun y hy => (F.n2 y hy).imp_right fun ⟨a, b, c⟩ => ⟨List.mem_cons_of_mem _ a, b, c⟩, F.nd, F.ln⟩
structure PB (c : List Row1) (x0 : Nm) (s : FW) : Prop where
  nd : s.1.Nodup
  rch : ∀ y ∈ s.1, Rch c x0 y
  wt : ∀ y ∈ s.2, y = x0 ∨ y ∈ s.1
  cl : ∀ u, (u = x0 ∨ u ∈ s.1) → u ∉ s.2 → ∀ v, Nb c u v → v ∈ s.1
theorem PB.step {c : List Row1} {x0 x : Nm} {f w : List Nm} (h : PB c x0 (f, w ++ [x])) : PB c x0 ((ptsOf c x).foldl (addB (c.map (·.1))) (f, w)) := by
  have F := fd_all (c.map (·.1)) (ptsOf c x) (f, w)
  generalize (ptsOf c x).foldl (addB (c.map (·.1))) (f, w) = s' at F ⊢
  have hx : x = x0 ∨ x ∈ f := h.wt x (by simp)
  refine ⟨F.nd h.nd, fun y hy => ?_, fun y hy => ?_, fun u hu hn v hv => ?_⟩
  · rcases F.n1 y hy with k | ⟨a, b, _⟩
    · exact h.rch y k
    · rcases hx with rfl | hx
      · exact .one ⟨a, b⟩
      · exact .more (h.rch x hx) ⟨a, b⟩
  · rcases F.n2 y hy with k | ⟨_, _, k⟩
    · exact (h.wt y (List.mem_append_left _ k)).imp_right (F.a1 y)
    · exact .inr k
  · by_cases e : u = x
    · subst e
      exact F.al v hv.1 hv.2
    · have hu' : u = x0 ∨ u ∈ f := by
        rcases hu with hu | hu
        · exact .inl hu
        · rcases F.n1 u hu with k | ⟨_, _, k⟩
          · exact .inr k
          · exact absurd k hn
      refine F.a1 v (h.cl u hu' (fun z => ?_) v hv)
      rcases List.mem_append.mp z with z | z
      · exact hn (F.a2 u z)
      · exact e (List.mem_singleton.mp z)
theorem PB.all {c : List Row1} {x0 : Nm} {f : List Nm} (h : PB c x0 (f, [])) (y : Nm) : y ∈ f ↔ Rch c x0 y := by
  refine ⟨h.rch y, fun r => ?_⟩
  induction r with
  | one e => exact h.cl _ (.inl rfl) (by simp) _ e
  | more _ e ih => exact h.cl _ (.inr ih) (by simp) _ e
theorem PB.start (c : List Row1) (x : Nm) : PB c x ([], [x]) := ⟨by simp, fun y hy => (by cases hy), fun y hy => .inl (List.mem_singleton.mp hy), fun u hu hn v hv => (by
  rcases hu with rfl | hu
  · exact absurd (List.mem_singleton.mpr rfl) hn
  · cases hu)⟩
section
variable {TT : Nat → Option FnD} {κ : Cons} {cx : Nat → Nat → Bool} {wf : Nat} {n : Nat}
theorem pb_parts (h123 : TT 123 = some Zd.d_names_of) (c : List Row1) (a1 : Slot) : ∀ (ps : List Part) (s : FW) (s4 s5 s6 : Slot), s.1.length + ps.length ≤ 1000 → s.2.length + ps.length ≤ 1000 →
    ∃ u4 u5 u6, forL (stepF (callN TT κ cx wf (n + 1)) κ cx wf (.tt (.cons (.tn 4) (.cons (.tn 5) (.cons (.tn 6) .nil)))) Zd.parts_below_2_b1) (ps.map paP) [.shr (caP c), a1, .owd (s.1.map PV.str) (vT s.1), .own (s.2.map PV.str), s4, s5, s6] = .nx [.shr (caP c), a1, .owd (((ps.map (·.1)).foldl (addB (c.map (·.1))) s).1.map PV.str) (vT ((ps.map (·.1)).foldl (addB (c.map (·.1))) s).1), .own (((ps.map (·.1)).foldl (addB (c.map (·.1))) s).2.map PV.str), u4, u5, u6]
  | [], s, s4, s5, s6, _, _ => ⟨s4, s5, s6, rfl⟩
  | p :: ps, s, s4, s5, s6, h1, h2 => by
    rw [List.length_cons] at h1 h2
    obtain ⟨u4, u5, u6, e1⟩ := pb_step (κ := κ) (cx := cx) (wf := wf) (n := n) h123 c p s (by omega) (by omega) a1 s4 s5 s6
    have l1 : (addB (c.map (·.1)) s p.1).1.length ≤ s.1.length + 1 := by unfold addB; split <;> simp
    have l2 : (addB (c.map (·.1)) s p.1).2.length ≤ s.2.length + 1 := by unfold addB; split <;> simp
    obtain ⟨w4, w5, w6, e2⟩ := pb_parts h123 c a1 ps (addB (c.map (·.1)) s p.1) u4 u5 u6 (by omega) (by omega)
    refine ⟨w4, w5, w6, ?_⟩
    rw [List.map_cons, forL_cons, e1, next_nx, e2]
    rfl
theorem pb_loop (h123 : TT 123 = some Zd.d_names_of) (h193 : TT 193 = some Zd.d_letter_of_2) {c : List Row1} (hc : OkCa c) {x0 : Nm} (hx0 : x0 ∈ c.map (·.1)) (a1 : Slot) : ∀ (m fuel : Nat) (s : FW) (s4 s5 s6 : Slot), PB c x0 s → s.2.length ≤ s.1.length + 1 → 2 * (c.length - s.1.length) + s.2.length ≤ m → m < fuel →
    ∃ (f : List Nm) (u4 u5 u6 : Slot), PB c x0 (f, []) ∧ whL (fun ρ' => (ev (callN TT κ cx wf (n + 1)) κ (.rd 3) ρ').bind truP) (fun ρ' => evS (callN TT κ cx wf (n + 1)) κ cx wf Zd.parts_below_2_b2 ρ') fuel [.shr (caP c), a1, .owd (s.1.map PV.str) (vT s.1), .own (s.2.map PV.str), s4, s5, s6] = .nx [.shr (caP c), a1, .owd (f.map PV.str) (vT f), .own [], u4, u5, u6] := by
  intro m
  induction m with
  | zero =>
    intro fuel s s4 s5 s6 P hw hm hf
    obtain ⟨f, w⟩ := s
    have hw0 : w = [] := by
      simp only at hm
      exact List.eq_nil_of_length_eq_zero (by omega)
    subst hw0
    refine ⟨f, s4, s5, s6, P, ?_⟩
    match fuel, hf with
    | k + 1, _ => exact whL_end rfl
  | succ m ih =>
    intro fuel s s4 s5 s6 P hw hm hf
    obtain ⟨f, w⟩ := s
    rcases List.eq_nil_or_concat w with rfl | ⟨w', x, rfl⟩
    · refine ⟨f, s4, s5, s6, P, ?_⟩
      match fuel, hf with
      | k + 1, _ => exact whL_end rfl
    · rw [List.concat_eq_append] at *
      have hx : x ∈ c.map (·.1) := by
        rcases P.wt x (by simp) with rfl | h
        · exact hx0
        · exact (P.rch x h).mem
      have hfl : f.length ≤ c.length := by
        have := len_sub P.nd (b := c.map (·.1)) fun y hy => (P.rch y hy).mem
        rwa [List.length_map] at this
      have fn : (findL c x).isSome = true := by
        unfold findL
        rw [Option.isSome_map, List.isSome_find?, any_mem, decide_eq_true hx]
      obtain ⟨l, el⟩ := Option.isSome_iff_exists.mp fn
      have e2 := letter_of_ok (κ := κ) (cx := cx) (wf := wf) (n := n) h193 c x
      rw [el] at e2
      have hp : ptsOf c x = l.2.1.map (·.1) := by unfold ptsOf; rw [el]
      obtain ⟨r, hr, er⟩ : ∃ r ∈ c, r.2 = l := by
        unfold findL at el
        cases e : c.find? fun r => r.1 == x with
        | none => rw [e] at el; cases el
        | some r => rw [e] at el; cases el; exact ⟨r, List.mem_of_find?_eq_some e, rfl⟩
      have hl4 : l.2.1.length ≤ 4 := by
        have := hc.le r hr
        rw [er] at this
        unfold okLe at this
        simp only [Bool.and_eq_true, decide_eq_true_eq] at this
        exact this.2.1
      have hcl := hc.len
      have hwl : w'.length + 1 ≤ f.length + 1 := by simpa using hw
      obtain ⟨u4, u5, u6, ep⟩ := pb_parts (κ := κ) (cx := cx) (wf := wf) (n := n) h123 c a1 l.2.1 (f, w') s4 s5 s6 (by show f.length + _ ≤ 1000; omega) (by show w'.length + _ ≤ 1000; omega)
      rw [← hp] at ep
      have PS := P.step
      have F := fd_all (c.map (·.1)) (ptsOf c x) (f, w')
      have hs1 : ((ptsOf c x).foldl (addB (c.map (·.1))) (f, w')).1.length ≤ c.length := by
        have := len_sub PS.nd (b := c.map (·.1)) fun y hy => (PS.rch y hy).mem
        rwa [List.length_map] at this
      have ln := F.ln
      simp only at ln
      have gr : f.length ≤ ((ptsOf c x).foldl (addB (c.map (·.1))) (f, w')).1.length := len_sub P.nd F.a1
      have hm' : 2 * (c.length - f.length) + (w'.length + 1) ≤ m + 1 := by simpa using hm
      have b1 : evS (callN TT κ cx wf (n + 1)) κ cx wf Zd.parts_below_2_b2 [.shr (caP c), a1, .owd (f.map PV.str) (vT f), .own ((w' ++ [x]).map PV.str), s4, s5, s6] = .nx [.shr (caP c), a1, .owd (((ptsOf c x).foldl (addB (c.map (·.1))) (f, w')).1.map PV.str) (vT ((ptsOf c x).foldl (addB (c.map (·.1))) (f, w')).1), .own (((ptsOf c x).foldl (addB (c.map (·.1))) (f, w')).2.map PV.str), u4, u5, u6] := by
        unfold Zd.parts_below_2_b2
        have eq := es_sfp (φ := callN TT κ cx wf (n + 1)) (κ := κ) (cx := cx) (wf := wf) (tg := .tt (.cons (.tn 4) (.cons (.tn 5) (.cons (.tn 6) .nil)))) (body := Zd.parts_below_2_b1) (i := 3) (f := 193) (a := .v 0) (k := 1) (ρ := [.shr (caP c), a1, .owd (f.map PV.str) (vT f), .own ((w' ++ [x]).map PV.str), s4, s5, s6]) (v := caP c) (q := .str x) (p := leP l) (z := .non) (xs := (w' ++ [x]).map PV.str) (ys := l.2.1.map paP) (r := .shr .non) rfl rfl (by rw [List.map_append]; simp) e2 rfl
        have dl : ((w' ++ [x]).map PV.str).dropLast = w'.map PV.str := by rw [List.map_append]; simp
        rw [dl] at eq
        have eq2 : evS (callN TT κ cx wf (n + 1)) κ cx wf (.scons (.sfp (.tt (.cons (.tn 4) (.cons (.tn 5) (.cons (.tn 6) .nil)))) 3 193 (.v 0) 1 Zd.parts_below_2_b1) .snil) [.shr (caP c), a1, .owd (f.map PV.str) (vT f), .own ((w' ++ [x]).map PV.str), s4, s5, s6] = (match evS (callN TT κ cx wf (n + 1)) κ cx wf (.sfp (.tt (.cons (.tn 4) (.cons (.tn 5) (.cons (.tn 6) .nil)))) 3 193 (.v 0) 1 Zd.parts_below_2_b1) [.shr (caP c), a1, .owd (f.map PV.str) (vT f), .own ((w' ++ [x]).map PV.str), s4, s5, s6] with
          | .nx ρ' => evS (callN TT κ cx wf (n + 1)) κ cx wf .snil ρ'
          | o => o) := rfl
        rw [eq2, eq]
        have ep' : forL (stepF (callN TT κ cx wf (n + 1)) κ cx wf (.tt (.cons (.tn 4) (.cons (.tn 5) (.cons (.tn 6) .nil)))) Zd.parts_below_2_b1) (l.2.1.map paP) (List.set [.shr (caP c), a1, .owd (f.map PV.str) (vT f), .own ((w' ++ [x]).map PV.str), s4, s5, s6] 3 (.own (w'.map PV.str))) = _ := ep
        rw [ep']
        rfl
      obtain ⟨f', v4, v5, v6, P', e3⟩ := ih (fuel - 1) _ u4 u5 u6 PS (by omega) (by omega) (by omega)
      refine ⟨f', v4, v5, v6, P', ?_⟩
      match fuel, hf with
      | k + 1, _ =>
        rw [whL_step (ρ' := _) ?_ b1]
        · exact e3
        · show truP (.lst ((w' ++ [x]).map PV.str)) = _
          rw [List.map_append]
          cases w'.map PV.str <;> rfl
theorem below_P (h123 : TT 123 = some Zd.d_names_of) (h193 : TT 193 = some Zd.d_letter_of_2) (h203 : TT 203 = some Zd.d_parts_below_2) (hwf : 100 < wf) {c : List Row1} (hc : OkCa c) {x : Nm} (hx : x ∈ c.map (·.1)) :
    ∃ f : List Nm, f.Nodup ∧ (∀ y, y ∈ f ↔ Rch c x y) ∧ callN TT κ cx wf (n + 2) 203 [caP c, .str x] = .ok (.shr (.lst ((sortN f).map PV.str))) := by
  have hcl := hc.len
  obtain ⟨f, u4, u5, u6, P, e⟩ := pb_loop (κ := κ) (cx := cx) (wf := wf) (n := n) h123 h193 hc hx (.shr (.str x)) (2 * c.length + 1) wf ([], [x]) .un .un .un (PB.start c x) (by simp) (by simp) (by omega)
  have fl : f.length ≤ c.length := by
    have := len_sub P.nd (b := c.map (·.1)) fun y hy => (P.rch y hy).mem
    rwa [List.length_map] at this
  refine ⟨f, P.nd, P.all, ?_⟩
  rw [callN_eq h203 rfl]
  unfold Zd.d_parts_below_2 startS
  have so : biP .sorted [.dct (f.map PV.str) (vT f)] = .ok (.lst ((sortN f).map PV.str)) := by
    show (match strsP (f.map PV.str) with | some ss => if Nat.blt ss.length 64 then Res.ok (PV.lst ((sortN ss).map PV.str)) else .bad | none => .bad) = _
    rw [strsP_R]
    have hb : Nat.blt f.length 64 = true := Nat.ble_eq_true_of_le (by omega)
    show (if Nat.blt f.length 64 then Res.ok (PV.lst ((sortN f).map PV.str)) else .bad) = _
    rw [hb]
    rfl
  have e0 : vT [] = [] := rfl
  rw [List.map_nil, e0] at e
  simp only [List.map_cons, List.map_nil] at e
  generalize caP c = CC at *
  generalize (sortN f).map PV.str = S at *
  generalize f.map PV.str = K1 at *
  generalize vT f = V1 at *
  apply seq_step
  · simp
    exact rfl
  apply seq_step
  · simp
    exact rfl
  apply seq_step
  · simp only [es_wh]
    exact e
  simp [so]
end
end Zp
end
section
/-! flat letters, typed -/
namespace Zp
open Z PySem
/-- how a flattening ends -/
inductive Fl where
  | ok (s : List (List Pt)) | ring (x : Nm) | none (x : Nm) | deep
/-- parts one after the other -/
def flL (g : Nm → Fl) : List Part → List (List Pt) → Fl
  | [], acc => .ok acc
  | p :: ps, acc => match g p.1 with
    | .ok s => flL g ps (acc ++ mvSh p.2.1 p.2.2 s)
    | e => e
def flF (c : List Row1) : Nat → List Nm → Nm → Fl
  | 0, _, _ => .deep
  | k + 1, way, x => if x ∈ way then .ring x else match findL c x with
    | .none => .none x
    | some l => flL (flF c k (way ++ [x])) l.2.1 l.1
theorem find_mem {c : List Row1} {x : Nm} {l : Letter} (h : findL c x = some l) : x ∈ c.map (·.1) := by
  unfold findL at h
  cases e : c.find? fun r => r.1 == x with
  | none => rw [e] at h; cases h
  | some r =>
    have h1 := List.mem_of_find?_eq_some e
    have h2 := List.find?_some e
    exact List.mem_map.mpr ⟨r, h1, by simpa using h2⟩
theorem Rch.head {c : List Row1} {u w : Nm} (h : Rch c u w) : ∃ v, Nb c u v ∧ (v = w ∨ Rch c v w) := by
  induction h with
  | one e => exact ⟨_, e, .inl rfl⟩
  | more _ e ih =>
    obtain ⟨v, h1, h2⟩ := ih
    refine ⟨v, h1, .inr ?_⟩
    rcases h2 with rfl | h2
    · exact .one e
    · exact .more h2 e
end Zp
end
section
/-! flat letters: the walk -/
namespace Zp
open Z PySem
def Lb : Nat → Nat
  | 0 => 0
  | k + 1 => 8 + 4 * Lb k
theorem Lb_le : ∀ k, k ≤ 10 → Lb k ≤ 4000000 := by
  intro k hk
  have : k = 0 ∨ k = 1 ∨ k = 2 ∨ k = 3 ∨ k = 4 ∨ k = 5 ∨ k = 6 ∨ k = 7 ∨ k = 8 ∨ k = 9 ∨ k = 10 := by omega
  rcases this with rfl | rfl | rfl | rfl | rfl | rfl | rfl | rfl | rfl | rfl | rfl <;> decide
def flR : Fl → Res RV
  | .ok s => .ok (.shr (shP s))
  | .ring x => .exc 9 (some (.str x))
  | .none x => .exc 8 (some (.str x))
  | .deep => .bad
/-- a statement's end -/
def flO (r : Fl) (ρ : List (List Pt) → List Slot) (ρx : List Slot) : Out := match r with
  | .ok s => .nx (ρ s)
  | .ring x => .exc 9 (some (.str x)) ρx
  | .none x => .exc 8 (some (.str x)) ρx
  | .deep => .bad
theorem mv_len (a u : Int) (s : List (List Pt)) : (mvSh a u s).length = s.length := by unfold mvSh; rw [List.length_map]
theorem flL_len {g : Nm → Fl} {L : Nat} (h : ∀ x s, g x = .ok s → s.length ≤ L) : ∀ (ps : List Part) (acc s : List (List Pt)), flL g ps acc = .ok s → s.length ≤ acc.length + ps.length * L
  | [], acc, s, e => by
    have e : Fl.ok acc = .ok s := e
    cases e
    simp
  | p :: ps, acc, s, e => by
    unfold flL at e
    cases ep : g p.1 with
    | ok t =>
      rw [ep] at e
      have h1 := flL_len h ps _ s e
      have h2 := h p.1 t ep
      rw [List.length_append, mv_len] at h1
      rw [List.length_cons, Nat.succ_mul]
      omega
    | ring y => rw [ep] at e; cases e
    | none y => rw [ep] at e; cases e
    | deep => rw [ep] at e; cases e
theorem le_of {c : List Row1} (hc : OkCa c) {x : Nm} {l : Letter} (el : findL c x = some l) : okLe l = true := by
  unfold findL at el
  cases e : c.find? fun r => r.1 == x with
  | none => rw [e] at el; cases el
  | some r => rw [e] at el; cases el; exact hc.le r (List.mem_of_find?_eq_some e)
theorem le_len {l : Letter} (h : okLe l = true) : l.1.length ≤ 8 ∧ l.2.1.length ≤ 4 := by
  unfold okLe okSh at h
  simp only [Bool.and_eq_true, decide_eq_true_eq] at h
  exact ⟨h.1.1, h.2.1⟩
theorem flF_len {c : List Row1} (hc : OkCa c) : ∀ (k : Nat) (way : List Nm) (x : Nm) (s : List (List Pt)), flF c k way x = .ok s → s.length ≤ Lb k
  | 0, way, x, s, e => by cases e
  | k + 1, way, x, s, e => by
    unfold flF at e
    by_cases hw : x ∈ way
    · rw [if_pos hw] at e; cases e
    · rw [if_neg hw] at e
      cases ef : findL c x with
      | none => rw [ef] at e; cases e
      | some l =>
        rw [ef] at e
        have h := flL_len (fun y t => flF_len hc k (way ++ [x]) y t) _ _ _ e
        obtain ⟨h1, h2⟩ := le_len (le_of hc ef)
        have h3 : l.2.1.length * Lb k ≤ 4 * Lb k := Nat.mul_le_mul_right _ h2
        show s.length ≤ 8 + 4 * Lb k
        omega
/-- fuel enough -/
theorem flF_deep {c : List Row1} : ∀ (k : Nat) (way : List Nm) (x : Nm), way.Nodup → (∀ y ∈ way, y ∈ c.map (·.1)) → c.length < k + way.length → flF c k way x ≠ .deep
  | 0, way, x, hn, hs, hl => by
    have := len_sub hn hs
    rw [List.length_map] at this
    omega
  | k + 1, way, x, hn, hs, hl => by
    unfold flF
    split
    · exact fun z => nomatch z
    · rename_i hw
      cases ef : findL c x with
      | none => exact fun z => nomatch z
      | some l =>
        have key : ∀ (ps : List Part) (acc : List (List Pt)), flL (flF c k (way ++ [x])) ps acc ≠ .deep := by
          intro ps
          induction ps with
          | nil => intro acc z; cases z
          | cons p ps ih =>
            intro acc z
            unfold flL at z
            have hd := flF_deep k (way ++ [x]) p.1 (by
              rw [List.nodup_append]
              refine ⟨hn, by simp, fun a ha b hb => ?_⟩
              rw [List.mem_singleton] at hb
              subst hb
              exact fun e => hw (e ▸ ha)) (fun y hy => by
              rcases List.mem_append.mp hy with h | h
              · exact hs y h
              · rw [List.mem_singleton] at h
                subst h
                exact find_mem ef) (by rw [List.length_append, List.length_singleton]; omega)
            cases e : flF c k (way ++ [x]) p.1 with
            | ok s => rw [e] at z; exact ih _ z
            | ring y => rw [e] at z; cases z
            | none y => rw [e] at z; cases z
            | deep => exact hd e
        exact key _ _
section
variable {TT : Nat → Option FnD} {κ : Cons} {cx : Nat → Nat → Bool} {wf : Nat} {n : Nat}
theorem fl_parts (h5 : TT 5 = some Zd.d_moved_of) {c : List Row1} {way : List Nm} (hwl : way.length ≤ 100) {x : Nm} {g : Nm → Fl} {L : Nat} (hL : L ≤ 4000000) (hg : ∀ y s, g y = .ok s → s.length ≤ L)
    (ih : ∀ y, g y ≠ .deep → callN TT κ cx wf (n + 2) 201 [caP c, .str y, .lst ((way ++ [x]).map PV.str)] = flR (g y)) : ∀ (ps : List Part) (acc : List (List Pt)) (s3 s4 s5 s7 s8 s9 : Slot), flL g ps acc ≠ .deep → acc.length + ps.length * L ≤ 16777216 →
    ∃ u7 u8 u9 ρx, forL (stepF (callN TT κ cx wf (n + 2)) κ cx wf (.tt (.cons (.tn 7) (.cons (.tn 8) (.cons (.tn 9) .nil)))) Zd.flat_of_2_b1) (ps.map paP) [.shr (caP c), .shr (.str x), .shr (.lst (way.map PV.str)), s3, s4, s5, .shr (shP acc), s7, s8, s9] = flO (flL g ps acc) (fun s => [.shr (caP c), .shr (.str x), .shr (.lst (way.map PV.str)), s3, s4, s5, .shr (shP s), u7, u8, u9]) ρx
  | [], acc, s3, s4, s5, s7, s8, s9, _, _ => ⟨s7, s8, s9, [], rfl⟩
  | p :: ps, acc, s3, s4, s5, s7, s8, s9, hd, hl => by
    have aw : binP .add (.lst (way.map PV.str)) (.lst [.str x]) = .ok (.lst ((way ++ [x]).map PV.str)) := by
      rw [bin_addL (by rw [List.length_map]; simp; omega), List.map_append]; rfl
    rw [List.length_cons, Nat.succ_mul] at hl
    have hg0 : g p.1 ≠ .deep := fun z => hd (by unfold flL; rw [z])
    have e1 := ih p.1 hg0
    have pe : paP p = .tup [.str p.1, .int p.2.1, .int p.2.2] := rfl
    cases eg : g p.1 with
    | deep => exact absurd eg hg0
    | ring y =>
      rw [eg] at e1
      have e1 : callN TT κ cx wf (n + 2) 201 [caP c, .str p.1, .lst ((way ++ [x]).map PV.str)] = .exc 9 (some (.str y)) := e1
      have er : flL g (p :: ps) acc = .ring y := by unfold flL; rw [eg]
      refine ⟨s7, s8, s9, [.shr (caP c), .shr (.str x), .shr (.lst (way.map PV.str)), s3, s4, s5, .shr (shP acc), .shr (.str p.1), .shr (.int p.2.1), .shr (.int p.2.2)], ?_⟩
      rw [er, List.map_cons, forL_cons, pe]
      unfold Zd.flat_of_2_b1
      generalize (way ++ [x]).map PV.str = W1 at *
      generalize way.map PV.str = W0 at *
      generalize caP c = CC at *
      generalize shP acc = AC at *
      simp [stepF, aw, e1, flO, nextP]
    | none y =>
      rw [eg] at e1
      have e1 : callN TT κ cx wf (n + 2) 201 [caP c, .str p.1, .lst ((way ++ [x]).map PV.str)] = .exc 8 (some (.str y)) := e1
      have er : flL g (p :: ps) acc = .none y := by unfold flL; rw [eg]
      refine ⟨s7, s8, s9, [.shr (caP c), .shr (.str x), .shr (.lst (way.map PV.str)), s3, s4, s5, .shr (shP acc), .shr (.str p.1), .shr (.int p.2.1), .shr (.int p.2.2)], ?_⟩
      rw [er, List.map_cons, forL_cons, pe]
      unfold Zd.flat_of_2_b1
      generalize (way ++ [x]).map PV.str = W1 at *
      generalize way.map PV.str = W0 at *
      generalize caP c = CC at *
      generalize shP acc = AC at *
      simp [stepF, aw, e1, flO, nextP]
    | ok t =>
      rw [eg] at e1
      have e1 : callN TT κ cx wf (n + 2) 201 [caP c, .str p.1, .lst ((way ++ [x]).map PV.str)] = .ok (.shr (shP t)) := e1
      have er : flL g (p :: ps) acc = flL g ps (acc ++ mvSh p.2.1 p.2.2 t) := by
        conv => lhs; unfold flL
        rw [eg]
      have ht := hg p.1 t eg
      have ml := mv_len p.2.1 p.2.2 t
      have e2 := moved_of_ok (κ := κ) (cx := cx) (wf := wf) (n := n + 1) h5 t p.2.1 p.2.2
      have ad : binP .add (shP acc) (shP (mvSh p.2.1 p.2.2 t)) = .ok (shP (acc ++ mvSh p.2.1 p.2.2 t)) := by
        unfold shP
        rw [bin_addT (by rw [List.length_map, List.length_map, ml]; omega), List.map_append]
      rw [er] at hd ⊢
      obtain ⟨u7, u8, u9, ρx, ei⟩ := fl_parts h5 hwl hL hg ih ps (acc ++ mvSh p.2.1 p.2.2 t) s3 s4 s5 (.shr (.str p.1)) (.shr (.int p.2.1)) (.shr (.int p.2.2)) hd (by rw [List.length_append, ml]; omega)
      refine ⟨u7, u8, u9, ρx, ?_⟩
      have st : stepF (callN TT κ cx wf (n + 2)) κ cx wf (.tt (.cons (.tn 7) (.cons (.tn 8) (.cons (.tn 9) .nil)))) Zd.flat_of_2_b1 (paP p) [.shr (caP c), .shr (.str x), .shr (.lst (way.map PV.str)), s3, s4, s5, .shr (shP acc), s7, s8, s9] = .nx [.shr (caP c), .shr (.str x), .shr (.lst (way.map PV.str)), s3, s4, s5, .shr (shP (acc ++ mvSh p.2.1 p.2.2 t)), .shr (.str p.1), .shr (.int p.2.1), .shr (.int p.2.2)] := by
        rw [pe]
        unfold Zd.flat_of_2_b1
        generalize (way ++ [x]).map PV.str = W1 at *
        generalize way.map PV.str = W0 at *
        generalize caP c = CC at *
        generalize shP (acc ++ mvSh p.2.1 p.2.2 t) = A2 at *
        generalize shP (mvSh p.2.1 p.2.2 t) = A1 at *
        generalize shP acc = A0 at *
        generalize shP t = A3 at *
        simp [stepF, aw, e1, e2, ad]
      rw [List.map_cons, forL_cons, st, next_nx, ei]
end
end Zp
end
section
/-! flat letters: the walk's end; below, above -/
namespace Zp
open Z PySem
section
variable {φ : Fns} {κ : Cons} {cx : Nat → Nat → Bool} {wf : Nat} {s ss : C} {ρ ρ' : List Slot}
theorem seq_exc {c : Nat} {p : Option PV} {R : Res RV} (h1 : evS φ κ cx wf s ρ = .exc c p ρ') (h2 : .exc c p = R) : fin (evS φ κ cx wf (.scons s ss) ρ) = R := by
  have e : evS φ κ cx wf (.scons s ss) ρ = (match evS φ κ cx wf s ρ with | .nx ρ' => evS φ κ cx wf ss ρ' | o => o) := rfl
  rw [e, h1]
  exact h2
end
section
variable {TT : Nat → Option FnD} {κ : Cons} {cx : Nat → Nat → Bool} {wf : Nat} {n : Nat}
theorem in_way (way : List Nm) (y : Nm) : cmpP .inn (.str y) (.lst (way.map PV.str)) = .ok (.bl (decide (y ∈ way))) := by
  have d : depL (way.map PV.str) 20 = true := dep_tup PV.str 20 (fun _ => rfl) _
  have k : cmpP .inn (.str y) (.lst (way.map PV.str)) = if dep (.str y) 20 && depL (way.map PV.str) 20 then .ok (.bl (inP (.str y) (way.map PV.str))) else .bad := by
    rcases y with _ | ⟨a, _ | ⟨b, t⟩⟩ <;> rfl
  rw [k, d]
  show Res.ok (PV.bl (inP (.str y) (way.map PV.str))) = _
  have := has_S y way
  unfold hasP at this
  unfold inP
  rw [this]
theorem flat_walk (h5 : TT 5 = some Zd.d_moved_of) (h193 : TT 193 = some Zd.d_letter_of_2) (h201 : TT 201 = some Zd.d_flat_of_2) {c : List Row1} (hc : OkCa c) : ∀ (k : Nat), k ≤ 10 → ∀ (way : List Nm) (x : Nm), way.length + k ≤ 50 → flF c k way x ≠ .deep → callN TT κ cx wf (n + k + 1) 201 [caP c, .str x, .lst (way.map PV.str)] = flR (flF c k way x)
  | 0, _, way, x, _, hd => absurd rfl hd
  | k + 1, hk, way, x, hw, hd => by
    rw [show n + (k + 1) + 1 = (n + k + 1) + 1 from by omega, callN_eq h201 rfl]
    unfold Zd.d_flat_of_2 startS
    have ci := in_way way x
    unfold flF at hd ⊢
    by_cases hm : x ∈ way
    · rw [if_pos hm]
      rw [decide_eq_true hm] at ci
      generalize way.map PV.str = W0 at *
      generalize caP c = CC at *
      simp [ci, flR]
    · rw [if_neg hm] at hd ⊢
      rw [decide_eq_false hm] at ci
      have e2 := letter_of_ok (κ := κ) (cx := cx) (wf := wf) (n := n + k) h193 c x
      cases ef : findL c x with
      | none =>
        rw [ef] at e2
        have e2 : callN TT κ cx wf (n + k + 1) 193 [caP c, .str x] = .exc 8 (some (.str x)) := e2
        generalize way.map PV.str = W0 at *
        generalize caP c = CC at *
        simp [ci, e2, flR]
      | some l =>
        rw [ef] at e2 hd
        have e2 : callN TT κ cx wf (n + k + 1) 193 [caP c, .str x] = .ok (.shr (leP l)) := e2
        have hd : flL (flF c k (way ++ [x])) l.2.1 l.1 ≠ .deep := hd
        show _ = flR (flL (flF c k (way ++ [x])) l.2.1 l.1)
        obtain ⟨h1, h2⟩ := le_len (le_of hc ef)
        have el : leP l = .tup [shP l.1, .tup (l.2.1.map paP), .int l.2.2] := rfl
        cases k with
        | zero =>
          cases hps : l.2.1 with
          | nil =>
            rw [hps] at el
            rw [el] at e2
            have sq : itemsP (.tup ([] : List PV)) = .ok (.lst []) := rfl
            rw [List.map_nil] at e2
            generalize way.map PV.str = W0 at *
            generalize caP c = CC at *
            show _ = Res.ok (RV.shr (shP l.1))
            generalize shP l.1 = S1 at *
            simp [ci, e2, sq]
          | cons p ps =>
            rw [hps] at hd
            exact absurd rfl hd
        | succ k =>
          have hb : l.1.length + l.2.1.length * Lb (k + 1) ≤ 16777216 := by
            have h3 : l.2.1.length * Lb (k + 1) ≤ 4 * Lb (k + 1) := Nat.mul_le_mul_right _ h2
            have h4 := Lb_le (k + 1) (by omega)
            omega
          obtain ⟨u7, u8, u9, ρx, ep⟩ := fl_parts (TT := TT) (κ := κ) (cx := cx) (wf := wf) (n := n + k) h5 (c := c) (way := way) (by omega) (x := x) (g := flF c (k + 1) (way ++ [x])) (L := Lb (k + 1)) (Lb_le _ (by omega)) (flF_len hc (k + 1) (way ++ [x])) (fun y hy => flat_walk h5 h193 h201 hc (k + 1) (by omega) (way ++ [x]) y (by rw [List.length_append, List.length_singleton]; omega) hy) l.2.1 l.1 (.shr (shP l.1)) (.shr (.tup (l.2.1.map paP))) (.shr (.int l.2.2)) .un .un .un hd hb
          have sq : itemsP (.tup (l.2.1.map paP)) = .ok (.lst (l.2.1.map paP)) := rfl
          rw [el] at e2
          generalize flL (flF c (k + 1) (way ++ [x])) l.2.1 l.1 = FL at *
          generalize l.2.1.map paP = PS at *
          generalize way.map PV.str = W0 at *
          generalize caP c = CC at *
          generalize shP l.1 = S1 at *
          apply seq_step
          · simp [ci]
            exact rfl
          apply seq_step
          · simp [e2]
            exact rfl
          apply seq_step
          · simp
            exact rfl
          cases FL with
          | deep => exact absurd rfl hd
          | ok s =>
            apply seq_step
            · simp [sq]
              exact ep
            simp [flR]
          | ring y =>
            refine seq_exc (c := 9) (p := some (.str y)) (ρ' := ρx) ?_ rfl
            simp [sq]
            exact ep
          | none y =>
            refine seq_exc (c := 8) (p := some (.str y)) (ρ' := ρx) ?_ rfl
            simp [sq]
            exact ep
end
end Zp
end
section
/-! cases of the laws' own, flat letters told, letters put in: with small heads -/
namespace Zd
open Z
def law_case_3_b1 : Z.C := (.scons (.sset 11 (.call 133 (.cons (.ix (.v 2) (.bin .mod (.bin .add (.bin .add (.v 5) (.k (.int 3))) (.v 10)) (.k (.int 60)))) .nil))) (.scons (.sif (.or (.cmp .gt (.v 11) (.v 6)) (.cmp .eq (.bin .mod (.ix (.v 2) (.bin .mod (.bin .add (.v 5) (.k (.int 4))) (.k (.int 60)))) (.k (.int 5))) (.k (.int 0)))) (.scons (.sset 12 (.bin .sub (.bin .mod (.ix (.v 2) (.bin .mod (.bin .add (.v 5) (.k (.int 5))) (.k (.int 60)))) (.k (.int 201))) (.k (.int 100)))) (.scons (.sapp 9 (.tup (.cons (.v 11) (.cons (.v 12) (.cons (.bin .sub (.bin .mod (.ix (.v 2) (.bin .mod (.bin .add (.v 5) (.k (.int 6))) (.k (.int 60)))) (.k (.int 101))) (.k (.int 50))) .nil))))) .snil)) .snil) .snil))
def law_case_3_b2 : Z.C := (.scons (.sset 5 (.bin .add (.k (.int 1)) (.bin .mul (.k (.int 8)) (.v 4)))) (.scons (.sset 6 (.call 133 (.cons (.ix (.v 2) (.bin .mod (.v 5) (.k (.int 60)))) .nil))) (.scons (.sset 7 (.ife (.cmp .eq (.bin .mod (.ix (.v 2) (.bin .mod (.v 5) (.k (.int 60)))) (.k (.int 2))) (.k (.int 0))) (.k (.int 10)) (.k (.int 60)))) (.scons (.sset 8 (.tup (.cons (.call 13 (.cons (.v 2) (.cons (.bin .add (.v 5) (.k (.int 1))) (.cons (.v 7) .nil)))) .nil))) (.scons (.sif (.cmp .eq (.bin .mod (.ix (.v 2) (.bin .mod (.bin .add (.v 5) (.k (.int 1))) (.k (.int 60)))) (.k (.int 4))) (.k (.int 0))) (.scons (.sset 8 (.tup .nil)) .snil) .snil) (.scons (.sown 9 (.dsp .nil)) (.scons (.sfor (.tn 10) (.rng1 (.ix (.dsp (.cons (.k (.int 0)) (.cons (.k (.int 0)) (.cons (.k (.int 1)) (.cons (.k (.int 2)) .nil))))) (.bin .mod (.ix (.v 2) (.bin .mod (.bin .add (.v 5) (.k (.int 2))) (.k (.int 60)))) (.k (.int 4))))) law_case_3_b1) (.scons (.sdput 3 (.v 6) (.tup (.cons (.v 8) (.cons (.bi .tuple (.cons (.rd 9) .nil)) (.cons (.bin .mod (.bin .mul (.ix (.v 2) (.bin .mod (.bin .add (.v 5) (.k (.int 7))) (.k (.int 60)))) (.k (.int 7))) (.k (.int 901))) .nil))))) .snil))))))))
def d_law_case_3 : Z.FnD := ⟨2, 13, (.scons (.sset 2 (.call 11 (.cons (.v 0) (.cons (.v 1) .nil)))) (.scons (.sownd 3 (.dk [])) (.scons (.sfor (.tn 4) (.rng1 (.bin .add (.k (.int 1)) (.bin .mod (.ix (.v 2) (.k (.int 0))) (.k (.int 7))))) law_case_3_b2) (.scons (.sret (.bi .tuple (.cons (.comp [6] (.tn 6) (.seq (.bi .sorted (.cons (.rd 3) .nil))) (.k (.bl true)) (.tup (.cons (.v 6) (.cons (.ix (.rd 3) (.v 6)) .nil)))) .nil))) .snil))))⟩
def d_law_flat_told : Z.FnD := ⟨2, 3, (.scons (.stry (.scons (.sret (.call 202 (.cons (.v 0) (.cons (.v 1) .nil)))) .snil) (.hc 9 (some 2) (.sret (.ife (.an (.isx 0) (.nt (.isx 8))) (.dsp (.cons (.k (.str [114, 105, 110, 103])) (.cons (.xf 9) .nil))) (.dsp (.cons (.k (.str [111, 116, 104, 101, 114])) .nil)))) (.hc 8 (some 2) (.sret (.ife (.an (.isx 0) (.nt (.isx 7))) (.dsp (.cons (.k (.str [110, 111, 110, 101])) (.cons (.xf 8) .nil))) (.dsp (.cons (.k (.str [111, 116, 104, 101, 114])) .nil)))) .hn))) .snil)⟩
def d_with_letter_2 : Z.FnD := ⟨3, 5, (.scons (.sexp (.call 121 (.cons (.v 0) .nil))) (.scons (.sif (.nt (.call 117 (.cons (.v 1) .nil))) (.scons (.srai 8 (.v 1)) .snil) .snil) (.scons (.sif (.nt (.call 119 (.cons (.v 2) .nil))) (.scons (.srai 7 .nil) .snil) .snil) (.scons (.sset 3 (.bin .add (.comp [4] (.tn 4) (.seq (.v 0)) (.cmp .ne (.ix (.v 4) (.k (.int 0))) (.v 1)) (.v 4)) (.dsp (.cons (.tup (.cons (.v 1) (.cons (.v 2) .nil))) .nil)))) (.scons (.sif (.cmp .gt (.bi .len (.cons (.v 3) .nil)) (.g 10)) (.scons (.srai 2 .nil) .snil) .snil) (.scons (.sret (.bi .tuple (.cons (.bi .sorted (.cons (.v 3) .nil)) .nil))) .snil))))))⟩
end Zd
namespace Zp
open Z PySem
structure HFl0 (TT : Nat → Option FnD) (κ : Cons) : Prop extends HC TT κ where
  h5 : TT 5 = some Zd.d_moved_of
  h193 : TT 193 = some Zd.d_letter_of_2
  h201 : TT 201 = some Zd.d_flat_of_2
  h202 : TT 202 = some Zd.d_flat_2
structure HFl (TT : Nat → Option FnD) (κ : Cons) (cx : Nat → Nat → Bool) : Prop extends HFl0 TT κ where
  h207 : TT 207 = some Zd.d_law_flat_told
  c99 : cx 9 9 = true
  c89 : cx 8 9 = false
  c88 : cx 8 8 = true
  c90 : cx 9 0 = true
  c80 : cx 8 0 = true
  c98 : cx 9 8 = false
  c87 : cx 8 7 = false
abbrev ringL : List Nat := [114, 105, 110, 103]
abbrev noneM : List Nat := [110, 111, 110, 101]
def flP : Fl → PV
  | .ok s => shP s
  | .ring x => .lst [.str ringL, .str x]
  | .none x => .lst [.str noneM, .str x]
  | .deep => .non
theorem find_names (c : List Row1) (x : Nm) : (findL c x).isSome = decide (x ∈ c.map (·.1)) := by
  rw [← any_mem]
  unfold findL
  rw [Option.isSome_map, List.isSome_find?]
section
variable {TT : Nat → Option FnD} {κ : Cons} {cx : Nat → Nat → Bool} {wf : Nat} {n : Nat}
theorem flat_g (T : HFl0 TT κ) {c : List Row1} (hc : OkCa c) (hl : c.length ≤ 7) (x : Nm) : callN TT κ cx wf (n + 10) 202 [caP c, .str x] = flR (flF c 8 [] x) := by
  have e1 := look3_ok (κ := κ) (cx := cx) (wf := wf) (n := n + 2) T.toHC hc
  have nd : flF c 8 [] x ≠ .deep := flF_deep 8 [] x (by simp) (fun y hy => by cases hy) (by simp; omega)
  have e2 := flat_walk (κ := κ) (cx := cx) (wf := wf) (n := n) T.h5 T.h193 T.h201 hc 8 (by decide) [] x (by decide) nd
  have e2 : callN TT κ cx wf (n + 9) 201 [caP c, .str x, .lst []] = flR (flF c 8 [] x) := e2
  rw [callN_eq T.h202 rfl]
  unfold Zd.d_flat_2 startS
  generalize caP c = CC at *
  cases e : flF c 8 [] x with
  | deep => exact absurd e nd
  | ok s => rw [e] at e2; simp [e1, e2, flR]
  | ring y => rw [e] at e2; simp [e1, e2, flR]
  | none y => rw [e] at e2; simp [e1, e2, flR]
theorem told_g (T : HFl TT κ cx) {c : List Row1} (hc : OkCa c) (hl : c.length ≤ 7) (x : Nm) : callN TT κ cx wf (n + 11) 207 [caP c, .str x] = .ok (.shr (flP (flF c 8 [] x))) := by
  have e1 := flat_g (κ := κ) (cx := cx) (wf := wf) (n := n) T.toHFl0 hc hl x
  have nd : flF c 8 [] x ≠ .deep := flF_deep 8 [] x (by simp) (fun y hy => by cases hy) (by simp; omega)
  rw [callN_eq T.h207 rfl]
  unfold Zd.d_law_flat_told startS
  generalize caP c = CC at *
  cases e : flF c 8 [] x with
  | deep => exact absurd e nd
  | ok s => rw [e] at e1; simp [e1, flR, flP]
  | ring y => rw [e] at e1; simp [e1, flR, flP, T.c99, T.c90, T.c98, suite0, evX, okI', Nat.blt, lstOf, Res.bind, truP]
  | none y => rw [e] at e1; simp [e1, flR, flP, T.c89, T.c88, T.c80, T.c87, suite0, evX, okI', Nat.blt, lstOf, Res.bind, truP]
end
end Zp
end
section
/-! bearings -/
namespace Zd
open Z
def d_bearings_of_2 : Z.FnD := ⟨2, 3, (.scons (.sset 2 (.call 230 (.cons (.call 201 (.cons (.v 0) (.cons (.v 1) (.cons (.dsp .nil) .nil)))) .nil))) (.scons (.sif (.cmp .isn (.v 2) (.k .non)) (.scons (.sret (.k .non)) .snil) .snil) (.scons (.sret (.tup (.cons (.ix (.v 2) (.k (.int 0))) (.cons (.call 29 (.cons (.call 27 (.cons (.ix (.call 193 (.cons (.v 0) (.cons (.v 1) .nil))) (.k (.int 2))) .nil)) (.cons (.ix (.v 2) (.k (.int 2))) .nil))) .nil)))) .snil)))⟩
def d_bearings_2 : Z.FnD := ⟨2, 2, (.scons (.sexp (.call 121 (.cons (.v 0) .nil))) (.scons (.sret (.call 239 (.cons (.v 0) (.cons (.v 1) .nil)))) .snil))⟩
end Zd
namespace Zp
open Z
structure HBe (TT : Nat → Option FnD) (κ : Cons) (wf : Nat) : Prop extends HC TT κ where
  h5 : TT 5 = some Zd.d_moved_of
  h193 : TT 193 = some Zd.d_letter_of_2
  h201 : TT 201 = some Zd.d_flat_of_2
  Q : HQ TT wf
  G : HG TT
  V : HV TT
  B : HB TT
  h239 : TT 239 = some Zd.d_bearings_of_2
  h240 : TT 240 = some Zd.d_bearings_2
section
variable {TT : Nat → Option FnD} {κ : Cons} {cx : Nat → Nat → Bool} {wf : Nat} {n : Nat} (T : HBe TT κ wf)
include T
/-- the bearings -/
def beP (rows : List (List Seg)) (w : Int) : PV := .tup [frP (bq rows false false), frP ((w : Rat) - bq rows true false)]
end
/-! a letter put in -/
/-- a case with a letter put in -/
def putC (c : List Row1) (x : Nm) (l : Letter) : List Row1 := sortR ((c.filter fun r => r.1 != x) ++ [(x, l)])
end Zp
end
section
/-! the law's own flat letters -/
namespace Zd
open Z
def law_flat_b1 : Z.C := (.scons (.sapp 6 (.bi .tuple (.cons (.comp [13, 14, 15] (.tt (.cons (.tn 13) (.cons (.tn 14) (.cons (.tn 15) .nil)))) (.seq (.v 11)) (.k (.bl true)) (.tup (.cons (.bin .add (.v 13) (.v 8)) (.cons (.bin .add (.v 14) (.v 9)) (.cons (.v 15) .nil))))) .nil))) .snil)
def law_flat_b2 : Z.C := (.scons (.sset 10 (.call 243 (.cons (.v 0) (.cons (.v 7) (.cons (.bin .add (.v 2) (.dsp (.cons (.v 1) .nil))) .nil))))) (.scons (.sif (.isi .list (.v 10)) (.scons (.sret (.v 10)) .snil) .snil) (.scons (.sfor (.tn 11) (.seq (.v 10)) law_flat_b1) .snil)))
def d_law_flat : Z.FnD := ⟨3, 16, (.scons (.sif (.cmp .inn (.v 1) (.v 2)) (.scons (.sref (.dsp (.cons (.k (.str [114, 105, 110, 103])) (.cons (.v 1) .nil)))) .snil) .snil) (.scons (.sif (.cmp .nin (.v 1) (.comp [12] (.tn 12) (.seq (.unp (.v 0))) (.k (.bl true)) (.ix (.v 12) (.k (.int 0))))) (.scons (.sref (.dsp (.cons (.k (.str [110, 111, 110, 101])) (.cons (.v 1) .nil)))) .snil) .snil) (.scons (.sasg (.tt (.cons (.tn 3) (.cons (.tn 4) (.cons (.tn 5) .nil)))) (.ix (.bi .dict (.cons (.v 0) .nil)) (.v 1))) (.scons (.sown 6 (.bi .list (.cons (.v 3) .nil))) (.scons (.sfor (.tt (.cons (.tn 7) (.cons (.tn 8) (.cons (.tn 9) .nil)))) (.seq (.v 4)) law_flat_b2) (.scons (.sret (.bi .tuple (.cons (.rd 6) .nil))) .snil))))))⟩
end Zd
namespace Zp
open Z
theorem mvSh_cons (a u : Int) (c : List Pt) (t : List (List Pt)) : mvSh a u (c :: t) = c.map (mvPt a u) :: mvSh a u t := rfl
/-- how a loop over parts ends -/
def flQ (r : Fl) (ρ : List (List Pt) → List Slot) : Out := match r with
  | .ok s => .nx (ρ s)
  | .ring x => .ret (.shr (.lst [.str ringL, .str x]))
  | .none x => .ret (.shr (.lst [.str noneM, .str x]))
  | .deep => .bad
section
variable {TT : Nat → Option FnD} {κ : Cons} {cx : Nat → Nat → Bool} {wf : Nat} {n : Nat}
theorem nin_way (way : List Nm) (y : Nm) : cmpP .nin (.str y) (.lst (way.map PV.str)) = .ok (.bl (!decide (y ∈ way))) := by
  have d : depL (way.map PV.str) 20 = true := dep_tup PV.str 20 (fun _ => rfl) _
  have k : cmpP .nin (.str y) (.lst (way.map PV.str)) = if dep (.str y) 20 && depL (way.map PV.str) 20 then .ok (.bl (!inP (.str y) (way.map PV.str))) else .bad := by
    rcases y with _ | ⟨a, _ | ⟨b, t⟩⟩ <;> rfl
  rw [k, d]
  show Res.ok (PV.bl (!inP (.str y) (way.map PV.str))) = _
  have := has_S y way
  unfold hasP at this
  unfold inP
  rw [this]
theorem lfl_co (φ : Fns) (a u : Int) (a0 a1 a2 s3 s4 s5 s7 s10 s12 s13 s14 s15 : Slot) : ∀ (t acc : List (List Pt)) (s11 : Slot), acc.length + t.length ≤ 16777000 → ∃ u11, forL (stepF φ κ cx wf (.tn 11) Zd.law_flat_b1) (t.map coP) [a0, a1, a2, s3, s4, s5, .own (acc.map coP), s7, .shr (.int a), .shr (.int u), s10, s11, s12, s13, s14, s15] =
    .nx [a0, a1, a2, s3, s4, s5, .own ((acc ++ mvSh a u t).map coP), s7, .shr (.int a), .shr (.int u), s10, u11, s12, s13, s14, s15]
  | [], acc, s11, _ => ⟨s11, by simp [mvSh]⟩
  | c :: t, acc, s11, hl => by
    rw [List.length_cons] at hl
    obtain ⟨u11, e⟩ := lfl_co φ a u a0 a1 a2 s3 s4 s5 s7 s10 s12 s13 s14 s15 t (acc ++ [c.map (mvPt a u)]) (.shr (coP c)) (by rw [List.length_append, List.length_singleton]; omega)
    refine ⟨u11, ?_⟩
    have cm : compL (stepC φ κ [13, 14, 15] (.tt (.cons (.tn 13) (.cons (.tn 14) (.cons (.tn 15) .nil)))) (.k (.bl true)) (.tup (.cons (.bin .add (.v 13) (.v 8)) (.cons (.bin .add (.v 14) (.v 9)) (.cons (.v 15) .nil)))) [a0, a1, a2, s3, s4, s5, .own (acc.map coP), s7, .shr (.int a), .shr (.int u), s10, .shr (coP c), s12, s13, s14, s15]) (c.map ptP) = .ok ((c.map (mvPt a u)).map ptP) := by
      rw [List.map_map]
      refine compL_of fun p _ => ?_
      obtain ⟨px, py, po⟩ := p
      simp [stepC, ptP, mvPt]
    have it : itemsP (coP c) = .ok (.lst (c.map ptP)) := rfl
    have tb : biP .tuple [.lst ((c.map (mvPt a u)).map ptP)] = .ok (coP (c.map (mvPt a u))) := rfl
    have ft : fits (acc.length + 1) = true := Nat.ble_eq_true_of_le (show acc.length + 1 ≤ 16777216 by omega)
    have st : stepF φ κ cx wf (.tn 11) Zd.law_flat_b1 (coP c) [a0, a1, a2, s3, s4, s5, .own (acc.map coP), s7, .shr (.int a), .shr (.int u), s10, s11, s12, s13, s14, s15] = .nx [a0, a1, a2, s3, s4, s5, .own ((acc ++ [c.map (mvPt a u)]).map coP), s7, .shr (.int a), .shr (.int u), s10, .shr (coP c), s12, s13, s14, s15] := by
      unfold stepF Zd.law_flat_b1
      rw [List.map_append, List.map_singleton]
      generalize coP (c.map (mvPt a u)) = CO at *
      generalize (c.map (mvPt a u)).map ptP = CL at *
      simp [it, cm, tb, ft]
    rw [List.map_cons, forL_cons, st, next_nx, e, mvSh_cons, List.append_assoc]
    rfl
theorem lfl_parts {c : List Row1} {way : List Nm} (hwl : way.length ≤ 100) {x : Nm} {g : Nm → Fl} {L m : Nat} (hL : L ≤ 4000000) (hg : ∀ y s, g y = .ok s → s.length ≤ L)
    (ih : ∀ y, g y ≠ .deep → ∃ rv, callN TT κ cx wf m 243 [.ptp (c.map roP), .str y, .lst ((way ++ [x]).map PV.str)] = .ok rv ∧ rvR rv = .ok (flP (g y))) (s3 s4 s5 s12 s13 s14 s15 : Slot) : ∀ (ps : List Part) (acc : List (List Pt)) (s7 s8 s9 s10 s11 : Slot), flL g ps acc ≠ .deep → acc.length + ps.length * L ≤ 16777000 →
    ∃ u7 u8 u9 u10 u11, forL (stepF (callN TT κ cx wf m) κ cx wf (.tt (.cons (.tn 7) (.cons (.tn 8) (.cons (.tn 9) .nil)))) Zd.law_flat_b2) (ps.map paP) [.shr (.ptp (c.map roP)), .shr (.str x), .shr (.lst (way.map PV.str)), s3, s4, s5, .own (acc.map coP), s7, s8, s9, s10, s11, s12, s13, s14, s15] = flQ (flL g ps acc) (fun s => [.shr (.ptp (c.map roP)), .shr (.str x), .shr (.lst (way.map PV.str)), s3, s4, s5, .own (s.map coP), u7, u8, u9, u10, u11, s12, s13, s14, s15])
  | [], acc, s7, s8, s9, s10, s11, _, _ => ⟨s7, s8, s9, s10, s11, rfl⟩
  | p :: ps, acc, s7, s8, s9, s10, s11, hd, hl => by
    have aw : binP .add (.lst (way.map PV.str)) (.lst [.str x]) = .ok (.lst ((way ++ [x]).map PV.str)) := by
      rw [bin_addL (by rw [List.length_map]; simp; omega), List.map_append]; rfl
    rw [List.length_cons, Nat.succ_mul] at hl
    have hg0 : g p.1 ≠ .deep := fun z => hd (by unfold flL; rw [z])
    obtain ⟨rv, e1, e2⟩ := ih p.1 hg0
    have pe : paP p = .tup [.str p.1, .int p.2.1, .int p.2.2] := rfl
    have stop : ∀ P : PV, rvR rv = .ok P → isiP .list P = true → stepF (callN TT κ cx wf m) κ cx wf (.tt (.cons (.tn 7) (.cons (.tn 8) (.cons (.tn 9) .nil)))) Zd.law_flat_b2 (paP p) [.shr (.ptp (c.map roP)), .shr (.str x), .shr (.lst (way.map PV.str)), s3, s4, s5, .own (acc.map coP), s7, s8, s9, s10, s11, s12, s13, s14, s15] = .ret (.shr P) := fun P h1 h2 => by
      rw [pe]
      unfold stepF Zd.law_flat_b2
      generalize (way ++ [x]).map PV.str = W1 at *
      generalize way.map PV.str = W0 at *
      generalize c.map roP = CC at *
      simp [aw, e1, h1, h2]
    cases eg : g p.1 with
    | deep => exact absurd eg hg0
    | ring y =>
      rw [eg] at e2
      have er : flL g (p :: ps) acc = .ring y := by unfold flL; rw [eg]
      exact ⟨s7, s8, s9, s10, s11, by rw [er, List.map_cons, forL_cons, stop _ e2 rfl]; rfl⟩
    | none y =>
      rw [eg] at e2
      have er : flL g (p :: ps) acc = .none y := by unfold flL; rw [eg]
      exact ⟨s7, s8, s9, s10, s11, by rw [er, List.map_cons, forL_cons, stop _ e2 rfl]; rfl⟩
    | ok t =>
      rw [eg] at e2
      have e2 : rvR rv = .ok (shP t) := e2
      have er : flL g (p :: ps) acc = flL g ps (acc ++ mvSh p.2.1 p.2.2 t) := by
        conv => lhs; unfold flL
        rw [eg]
      have ht := hg p.1 t eg
      have ml := mv_len p.2.1 p.2.2 t
      obtain ⟨w11, ec⟩ := lfl_co (κ := κ) (cx := cx) (wf := wf) (callN TT κ cx wf m) p.2.1 p.2.2 (.shr (.ptp (c.map roP))) (.shr (.str x)) (.shr (.lst (way.map PV.str))) s3 s4 s5 (.shr (.str p.1)) (.shr (shP t)) s12 s13 s14 s15 t acc s11 (by omega)
      rw [er] at hd ⊢
      obtain ⟨u7, u8, u9, u10, u11, ei⟩ := lfl_parts hwl hL hg ih s3 s4 s5 s12 s13 s14 s15 ps (acc ++ mvSh p.2.1 p.2.2 t) (.shr (.str p.1)) (.shr (.int p.2.1)) (.shr (.int p.2.2)) (.shr (shP t)) w11 hd (by rw [List.length_append, ml]; omega)
      refine ⟨u7, u8, u9, u10, u11, ?_⟩
      have il : isiP .list (shP t) = false := rfl
      have it : itemsP (shP t) = .ok (.lst (t.map coP)) := rfl
      have st : stepF (callN TT κ cx wf m) κ cx wf (.tt (.cons (.tn 7) (.cons (.tn 8) (.cons (.tn 9) .nil)))) Zd.law_flat_b2 (paP p) [.shr (.ptp (c.map roP)), .shr (.str x), .shr (.lst (way.map PV.str)), s3, s4, s5, .own (acc.map coP), s7, s8, s9, s10, s11, s12, s13, s14, s15] = .nx [.shr (.ptp (c.map roP)), .shr (.str x), .shr (.lst (way.map PV.str)), s3, s4, s5, .own ((acc ++ mvSh p.2.1 p.2.2 t).map coP), .shr (.str p.1), .shr (.int p.2.1), .shr (.int p.2.2), .shr (shP t), w11, s12, s13, s14, s15] := by
        rw [pe]
        unfold stepF Zd.law_flat_b2
        generalize (acc ++ mvSh p.2.1 p.2.2 t).map coP = A2 at *
        generalize acc.map coP = A1 at *
        generalize (way ++ [x]).map PV.str = W1 at *
        generalize way.map PV.str = W0 at *
        generalize shP t = ST at *
        generalize t.map coP = TL at *
        generalize c.map roP = CC at *
        simp [aw, e1, e2, il, it, ec]
      rw [List.map_cons, forL_cons, st, next_nx, ei]
theorem law_flat_ok (h243 : TT 243 = some Zd.d_law_flat) {c : List Row1} (hc : OkCa c) : ∀ (k : Nat), k ≤ 10 → ∀ (way : List Nm) (x : Nm), way.length + k ≤ 50 → flF c k way x ≠ .deep → ∃ rv, callN TT κ cx wf (n + k) 243 [.ptp (c.map roP), .str x, .lst (way.map PV.str)] = .ok rv ∧ rvR rv = .ok (flP (flF c k way x))
  | 0, _, way, x, _, hd => absurd rfl hd
  | k + 1, hk, way, x, hw, hd => by
    rw [show n + (k + 1) = (n + k) + 1 from by omega, callN_eq h243 rfl]
    unfold Zd.d_law_flat startS
    have ci := in_way way x
    unfold flF at hd ⊢
    by_cases hm : x ∈ way
    · rw [if_pos hm]
      rw [decide_eq_true hm] at ci
      refine ⟨.own [.str ringL, .str x], ?_, rfl⟩
      generalize way.map PV.str = W0 at *
      simp [ci]
    · rw [if_neg hm] at hd ⊢
      rw [decide_eq_false hm] at ci
      have cn : ∀ ρ : List Slot, ρ.length = 16 → compL (stepC (callN TT κ cx wf (n + k)) κ [12] (.tn 12) (.k (.bl true)) (.ix (.v 12) (.k (.int 0))) ρ) (c.map roP) = .ok ((c.map (·.1)).map PV.str) := fun ρ hl => by
        rw [List.map_map]
        refine compL_of fun r _ => ?_
        have r0 := ro_0 r
        generalize roP r = R at *
        match ρ, hl with
        | [y0, y1, y2, y3, y4, y5, y6, y7, y8, y9, y10, y11, y12, y13, y14, y15], _ => simp [stepC, r0]
      have nn : cmpP .nin (.str x) (.lst ((c.map (·.1)).map PV.str)) = .ok (.bl (!decide (x ∈ c.map (·.1)))) := by
        exact nin_way (c.map (·.1)) x
      have it : itemsP (.tup (c.map roP)) = .ok (.lst (c.map roP)) := rfl
      have un : unpP (.ptp (c.map roP)) = .ok (.tup (c.map roP)) := rfl
      have fn := find_names c x
      cases ef : findL c x with
      | none =>
        rw [ef] at fn
        have fn : decide (x ∈ c.map (·.1)) = false := fn.symm
        rw [fn] at nn
        refine ⟨.own [.str noneM, .str x], ?_, rfl⟩
        generalize (c.map (·.1)).map PV.str = NL at *
        generalize way.map PV.str = W0 at *
        generalize c.map roP = CC at *
        simp [ci, un, it, cn, nn]
      | some l =>
        rw [ef] at hd fn
        have fn : decide (x ∈ c.map (·.1)) = true := fn.symm
        rw [fn] at nn
        have hd : flL (flF c k (way ++ [x])) l.2.1 l.1 ≠ .deep := hd
        show ∃ rv, _ ∧ rvR rv = .ok (flP (flL (flF c k (way ++ [x])) l.2.1 l.1))
        obtain ⟨h1, h2⟩ := le_len (le_of hc ef)
        have el : leP l = .tup [shP l.1, .tup (l.2.1.map paP), .int l.2.2] := rfl
        have dc := hc.dict
        have lk : ixP (.dct (rK c) (rV c)) (.str x) = .ok (leP l) := by
          show (if keyB (.str x) then (match lookP (rK c) (rV c) (.str x) with | some p => Res.ok p | none => .bad) else .bad) = _
          rw [look_R, ef]
          rfl
        rw [el] at lk
        have ls : biP .list [shP l.1] = .ok (.lst (l.1.map coP)) := rfl
        have lb := Lb_le k (by omega)
        have hle : l.1.length + l.2.1.length * Lb k ≤ 16777000 := by
          have := Nat.mul_le_mul h2 lb
          omega
        obtain ⟨u7, u8, u9, u10, u11, e⟩ := lfl_parts (κ := κ) (cx := cx) (wf := wf) (TT := TT) (c := c) (way := way) (by omega) (x := x) (g := flF c k (way ++ [x])) (L := Lb k) (m := n + k) lb (fun y s => flF_len hc k _ y s) (fun y hy => law_flat_ok h243 hc k (by omega) (way ++ [x]) y (by rw [List.length_append, List.length_singleton]; omega) hy) (.shr (shP l.1)) (.shr (.tup (l.2.1.map paP))) (.shr (.int l.2.2)) .un .un .un .un l.2.1 l.1 .un .un .un .un .un hd hle
        have ip : itemsP (.tup (l.2.1.map paP)) = .ok (.lst (l.2.1.map paP)) := rfl
        have tb : ∀ s : List (List Pt), biP .tuple [.lst (s.map coP)] = .ok (shP s) := fun _ => rfl
        cases er : flL (flF c k (way ++ [x])) l.2.1 l.1 with
        | deep => exact absurd er hd
        | ok s =>
          rw [er] at e
          have e : forL (stepF (callN TT κ cx wf (n + k)) κ cx wf (.tt (.cons (.tn 7) (.cons (.tn 8) (.cons (.tn 9) .nil)))) Zd.law_flat_b2) (l.2.1.map paP) [.shr (.ptp (c.map roP)), .shr (.str x), .shr (.lst (way.map PV.str)), .shr (shP l.1), .shr (.tup (l.2.1.map paP)), .shr (.int l.2.2), .own (l.1.map coP), .un, .un, .un, .un, .un, .un, .un, .un, .un] = .nx [.shr (.ptp (c.map roP)), .shr (.str x), .shr (.lst (way.map PV.str)), .shr (shP l.1), .shr (.tup (l.2.1.map paP)), .shr (.int l.2.2), .own (s.map coP), u7, u8, u9, u10, u11, .un, .un, .un, .un] := e
          have ts := tb s
          refine ⟨.shr (shP s), ?_, rfl⟩
          generalize (c.map (·.1)).map PV.str = NL at *
          generalize way.map PV.str = W0 at *
          generalize c.map roP = CC at *
          generalize shP l.1 = S1 at *
          generalize l.1.map coP = S2 at *
          generalize s.map coP = S3 at *
          generalize l.2.1.map paP = P1 at *
          generalize PV.dct (rK c) (rV c) = DD at *
          simp [ci, un, it, cn, nn, dc, lk, ls, ip, e, ts]
        | ring y =>
          rw [er] at e
          have e : forL (stepF (callN TT κ cx wf (n + k)) κ cx wf (.tt (.cons (.tn 7) (.cons (.tn 8) (.cons (.tn 9) .nil)))) Zd.law_flat_b2) (l.2.1.map paP) [.shr (.ptp (c.map roP)), .shr (.str x), .shr (.lst (way.map PV.str)), .shr (shP l.1), .shr (.tup (l.2.1.map paP)), .shr (.int l.2.2), .own (l.1.map coP), .un, .un, .un, .un, .un, .un, .un, .un, .un] = .ret (.shr (.lst [.str ringL, .str y])) := e
          refine ⟨.shr (.lst [.str ringL, .str y]), ?_, rfl⟩
          generalize (c.map (·.1)).map PV.str = NL at *
          generalize way.map PV.str = W0 at *
          generalize c.map roP = CC at *
          generalize shP l.1 = S1 at *
          generalize l.1.map coP = S2 at *
          generalize l.2.1.map paP = P1 at *
          generalize PV.dct (rK c) (rV c) = DD at *
          simp [ci, un, it, cn, nn, dc, lk, ls, ip, e]
        | none y =>
          rw [er] at e
          have e : forL (stepF (callN TT κ cx wf (n + k)) κ cx wf (.tt (.cons (.tn 7) (.cons (.tn 8) (.cons (.tn 9) .nil)))) Zd.law_flat_b2) (l.2.1.map paP) [.shr (.ptp (c.map roP)), .shr (.str x), .shr (.lst (way.map PV.str)), .shr (shP l.1), .shr (.tup (l.2.1.map paP)), .shr (.int l.2.2), .own (l.1.map coP), .un, .un, .un, .un, .un, .un, .un, .un, .un] = .ret (.shr (.lst [.str noneM, .str y])) := e
          refine ⟨.shr (.lst [.str noneM, .str y]), ?_, rfl⟩
          generalize (c.map (·.1)).map PV.str = NL at *
          generalize way.map PV.str = W0 at *
          generalize c.map roP = CC at *
          generalize shP l.1 = S1 at *
          generalize l.1.map coP = S2 at *
          generalize l.2.1.map paP = P1 at *
          generalize PV.dct (rK c) (rV c) = DD at *
          simp [ci, un, it, cn, nn, dc, lk, ls, ip, e]
end
end Zp
end
section
/-! k14: what is below and above with a small head; the law's own under; names that are none -/
namespace Zd
open Z
def law_under_b1 : Z.C := (.scons (.sif (.an (.cmp .inn (.ix (.v 4) (.k (.int 0))) (.bi .dict (.cons (.v 0) .nil))) (.cmp .nin (.ix (.v 4) (.k (.int 0))) (.rd 2))) (.scons (.sapp 2 (.ix (.v 4) (.k (.int 0)))) (.scons (.sapp 3 (.ix (.v 4) (.k (.int 0)))) .snil)) .snil) .snil)
def law_under_b2 : Z.C := (.scons (.sfd (.tn 4) 3 (.bi .dict (.cons (.v 0) .nil)) 1 law_under_b1) .snil)
def d_law_under : Z.FnD := ⟨2, 5, (.scons (.sown 2 (.dsp .nil)) (.scons (.sown 3 (.dsp (.cons (.v 1) .nil))) (.scons (.swh (.cmp .ne (.rd 3) (.dsp .nil)) law_under_b2) (.scons (.sret (.bi .sorted (.cons (.rd 2) .nil))) .snil))))⟩
def law_no_letter_b1 : Z.C := (.scons (.stry (.scons (.sif (.cmp .eq (.v 3) (.k (.int 0))) (.scons (.sexp (.call 204 (.cons (.v 0) (.cons (.v 1) .nil)))) .snil) (.scons (.sexp (.call 205 (.cons (.v 0) (.cons (.v 1) .nil)))) .snil)) .snil) (.hc 8 (some 4) (.sapp 2 (.xf 8)) .hn)) .snil)
def d_law_no_letter : Z.FnD := ⟨2, 5, (.scons (.sown 2 (.dsp .nil)) (.scons (.sfor (.tn 3) (.rng1 (.k (.int 2))) law_no_letter_b1) (.scons (.sreo 2) .snil)))⟩
def law_43_b1 : Z.C := (.scons (.sif (.or (.cmp .ne (.call 207 (.cons (.unp (.v 2)) (.cons (.v 4) .nil))) (.call 243 (.cons (.v 2) (.cons (.v 4) (.cons (.dsp .nil) .nil))))) (.cmp .ne (.call 204 (.cons (.unp (.v 2)) (.cons (.v 4) .nil))) (.call 249 (.cons (.v 2) (.cons (.v 4) .nil))))) (.scons (.sret (.k (.bl false))) .snil) .snil) (.scons (.sif (.cmp .ne (.call 205 (.cons (.unp (.v 2)) (.cons (.v 4) .nil))) (.comp [7] (.tn 7) (.seq (.v 3)) (.cmp .inn (.v 4) (.call 249 (.cons (.v 2) (.cons (.v 7) .nil)))) (.v 7))) (.scons (.sret (.k (.bl false))) .snil) .snil) .snil))
def d_law_43 : Z.FnD := ⟨1, 8, (.scons (.sset 1 (.call 11 (.cons (.v 0) (.cons (.k (.int 4)) .nil)))) (.scons (.sset 2 (.call 197 (.cons (.v 0) (.cons (.k (.int 2)) .nil)))) (.scons (.sset 3 (.comp [4, 6] (.tt (.cons (.tn 4) (.cons (.tn 6) .nil))) (.seq (.unp (.v 2))) (.k (.bl true)) (.v 4))) (.scons (.sfor (.tn 4) (.seq (.v 3)) law_43_b1) (.scons (.sset 5 (.ix (.dsp (.cons (.k .non) (.cons (.k (.str [])) (.cons (.k (.str [110, 111, 115, 117, 99, 104])) (.cons (.k (.int 7)) (.cons (.tup (.cons (.k (.str [97])) .nil)) .nil)))))) (.bin .mod (.ix (.v 1) (.k (.int 0))) (.k (.int 5))))) (.scons (.sret (.an (.cmp .eq (.call 207 (.cons (.unp (.v 2)) (.cons (.v 5) .nil))) (.dsp (.cons (.k (.str [110, 111, 110, 101])) (.cons (.v 5) .nil)))) (.cmp .eq (.call 250 (.cons (.unp (.v 2)) (.cons (.v 5) .nil))) (.dsp (.cons (.v 5) (.cons (.v 5) .nil)))))) .snil))))))⟩
end Zd
namespace Zp
open Z PySem
structure HBl (TT : Nat → Option FnD) (κ : Cons) (wf : Nat) : Prop extends HC TT κ where
  h193 : TT 193 = some Zd.d_letter_of_2
  h123 : TT 123 = some Zd.d_names_of
  h203 : TT 203 = some Zd.d_parts_below_2
  h204 : TT 204 = some Zd.d_below_2
  h205 : TT 205 = some Zd.d_above
  wf1 : 100 < wf
theorem depSs (zs : List Nm) (k : Nat) : depL (zs.map PV.str) k = true := dep_tup PV.str k (fun _ => by cases k <;> rfl) zs
theorem sorted_Ls (zs : List Nm) : biP .sorted [.lst (zs.map PV.str)] = .ok (.lst ((sortN zs).map PV.str)) := by
  have e : ∀ a b : Nm, PySem.W.dataLe false toD (.str a) (.str b) = decide (a ≤ b) := fun a b => by
    have := congrFun (congrFun (PySem.W.dataLe_str (fun x : Nm => SX.S x)) a) b
    exact this
  have m : (zs.map PV.str).mergeSort (PySem.W.dataLe false toD) = (sortN zs).map PV.str := by
    unfold sortN
    exact (List.map_mergeSort (fun a _ b _ => (e a b).symm)).symm
  have ok : sortOk (zs.map PV.str) = true := by
    unfold sortOk
    rw [Bool.and_eq_true, Bool.and_eq_true]
    refine ⟨⟨depSs zs 20, ?_⟩, ?_⟩
    · rw [List.all_eq_true]
      intro x hx
      rw [List.all_eq_true]
      intro y hy
      obtain ⟨a, _, rfl⟩ := List.mem_map.mp hx
      obtain ⟨b, _, rfl⟩ := List.mem_map.mp hy
      rfl
    · rw [Bool.or_eq_true]
      right
      rw [List.all_eq_true]
      intro x hx
      obtain ⟨a, _, rfl⟩ := List.mem_map.mp hx
      rfl
  show (if sortOk (zs.map PV.str) then Res.ok (PV.lst ((zs.map PV.str).mergeSort (PySem.W.dataLe false toD))) else .bad) = _
  rw [ok, m]
  rfl
theorem sortN_same {f f' : List Nm} (h1 : f.Nodup) (h1' : f'.Nodup) (h : ∀ y, y ∈ f' ↔ y ∈ f) : sortN f' = sortN f := by
  have p : f'.Perm f := (List.perm_ext_iff_of_nodup h1' h1).mpr h
  have pw : ∀ ss : List Nm, (sortN ss).Pairwise (· ≤ ·) := fun ss => by
    have z := List.pairwise_mergeSort (le := fun a b : List Nat => decide (a ≤ b)) (fun a b c h1 h2 => by
      simp only [decide_eq_true_eq] at *
      exact List.le_trans h1 h2) (fun a b => by
      simp only [Bool.or_eq_true, decide_eq_true_eq]
      exact List.le_total a b) ss
    exact z.imp fun h => of_decide_eq_true h
  exact List.Perm.eq_of_pairwise (fun a b _ _ h1 h2 => List.le_antisymm h1 h2) (pw f') (pw f) ((List.mergeSort_perm f' _).trans (p.trans (List.mergeSort_perm f _).symm))
section
variable {TT : Nat → Option FnD} {κ : Cons} {cx : Nat → Nat → Bool} {wf : Nat} {n : Nat}
/-! ### the law's own -/
theorem inD (c : List Row1) (y : Nm) : cmpP .inn (.str y) (.dct (rK c) (rV c)) = .ok (.bl (decide (y ∈ c.map (·.1)))) := by
  rw [← any_mem, ← has_R]
  rcases y with _ | ⟨a, _ | ⟨b, t⟩⟩ <;> rfl
theorem un_step (φ : Fns) {c : List Row1} (hc : OkCa c) (p : Part) (s : FW) (h1 : s.1.length ≤ 1000) (h2 : s.2.length ≤ 1000) (a1 s4 : Slot) :
    ∃ u4, stepF φ κ cx wf (.tn 4) Zd.law_under_b1 (paP p) [.shr (.ptp (c.map roP)), a1, .own (s.1.map PV.str), .own (s.2.map PV.str), s4] = .nx [.shr (.ptp (c.map roP)), a1, .own ((addB (c.map (·.1)) s p.1).1.map PV.str), .own ((addB (c.map (·.1)) s p.1).2.map PV.str), u4] := by
  refine ⟨.shr (paP p), ?_⟩
  have dc := hc.dict
  have ci := inD c p.1
  have cn := nin_way s.1 p.1
  have p0 : ixP (paP p) (.int 0) = .ok (.str p.1) := rfl
  have hf1 : fits (s.1.length + 1) = true := fits_of (by omega)
  have hf2 : fits (s.2.length + 1) = true := fits_of (by omega)
  have l1 : (s.1.map PV.str).length = s.1.length := List.length_map _
  have l2 : (s.2.map PV.str).length = s.2.length := List.length_map _
  have w1 : (s.1 ++ [p.1]).map PV.str = s.1.map PV.str ++ [.str p.1] := by rw [List.map_append]; rfl
  have w2 : (s.2 ++ [p.1]).map PV.str = s.2.map PV.str ++ [.str p.1] := by rw [List.map_append]; rfl
  unfold addB
  generalize paP p = PP at *
  generalize c.map roP = CC at *
  generalize rK c = K at *
  generalize rV c = V at *
  unfold Zd.law_under_b1
  cases hb2 : decide (p.1 ∈ c.map (·.1))
  · rw [hb2] at ci
    rw [Bool.and_false]
    simp [stepF, p0, dc, ci]
  · rw [hb2] at ci
    cases hb1 : decide (p.1 ∈ s.1)
    · rw [hb1] at cn
      show _ = Out.nx [Slot.shr (.ptp CC), a1, .own ((s.1 ++ [p.1]).map PV.str), .own ((s.2 ++ [p.1]).map PV.str), .shr PP]
      rw [w1, w2]
      generalize s.1.map PV.str = K0 at *
      generalize s.2.map PV.str = W0 at *
      simp [stepF, p0, dc, ci, cn, l1, l2, hf1, hf2]
    · rw [hb1] at cn
      simp [stepF, p0, dc, ci, cn]
theorem un_parts (φ : Fns) {c : List Row1} (hc : OkCa c) (a1 : Slot) : ∀ (ps : List Part) (s : FW) (s4 : Slot), s.1.length + ps.length ≤ 1000 → s.2.length + ps.length ≤ 1000 →
    ∃ u4, forL (stepF φ κ cx wf (.tn 4) Zd.law_under_b1) (ps.map paP) [.shr (.ptp (c.map roP)), a1, .own (s.1.map PV.str), .own (s.2.map PV.str), s4] = .nx [.shr (.ptp (c.map roP)), a1, .own (((ps.map (·.1)).foldl (addB (c.map (·.1))) s).1.map PV.str), .own (((ps.map (·.1)).foldl (addB (c.map (·.1))) s).2.map PV.str), u4]
  | [], s, s4, _, _ => ⟨s4, rfl⟩
  | p :: ps, s, s4, h1, h2 => by
    rw [List.length_cons] at h1 h2
    obtain ⟨u4, e1⟩ := un_step (κ := κ) (cx := cx) (wf := wf) φ hc p s (by omega) (by omega) a1 s4
    have l1 : (addB (c.map (·.1)) s p.1).1.length ≤ s.1.length + 1 := by unfold addB; split <;> simp
    have l2 : (addB (c.map (·.1)) s p.1).2.length ≤ s.2.length + 1 := by unfold addB; split <;> simp
    obtain ⟨w4, e2⟩ := un_parts φ hc a1 ps (addB (c.map (·.1)) s p.1) u4 (by omega) (by omega)
    refine ⟨w4, ?_⟩
    rw [List.map_cons, forL_cons, e1, next_nx, e2]
    rfl
theorem un_loop (φ : Fns) {c : List Row1} (hc : OkCa c) {x0 : Nm} (hx0 : x0 ∈ c.map (·.1)) (a1 : Slot) : ∀ (m fuel : Nat) (s : FW) (s4 : Slot), PB c x0 s → s.2.length ≤ s.1.length + 1 → 2 * (c.length - s.1.length) + s.2.length ≤ m → m < fuel →
    ∃ (f : List Nm) (u4 : Slot), PB c x0 (f, []) ∧ whL (fun ρ' => (ev φ κ (.cmp .ne (.rd 3) (.dsp .nil)) ρ').bind truP) (fun ρ' => evS φ κ cx wf Zd.law_under_b2 ρ') fuel [.shr (.ptp (c.map roP)), a1, .own (s.1.map PV.str), .own (s.2.map PV.str), s4] = .nx [.shr (.ptp (c.map roP)), a1, .own (f.map PV.str), .own [], u4] := by
  intro m
  induction m with
  | zero =>
    intro fuel s s4 P hw hm hf
    obtain ⟨f, w⟩ := s
    have hw0 : w = [] := by
      simp only at hm
      exact List.eq_nil_of_length_eq_zero (by omega)
    subst hw0
    refine ⟨f, s4, P, ?_⟩
    match fuel, hf with
    | k + 1, _ => exact whL_end rfl
  | succ m ih =>
    intro fuel s s4 P hw hm hf
    obtain ⟨f, w⟩ := s
    rcases List.eq_nil_or_concat w with rfl | ⟨w', x, rfl⟩
    · refine ⟨f, s4, P, ?_⟩
      match fuel, hf with
      | k + 1, _ => exact whL_end rfl
    · rw [List.concat_eq_append] at *
      have hx : x ∈ c.map (·.1) := by
        rcases P.wt x (by simp) with rfl | h
        · exact hx0
        · exact (P.rch x h).mem
      have hfl : f.length ≤ c.length := by
        have := len_sub P.nd (b := c.map (·.1)) fun y hy => (P.rch y hy).mem
        rwa [List.length_map] at this
      have fn := find_names c x
      rw [decide_eq_true hx] at fn
      obtain ⟨l, el⟩ := Option.isSome_iff_exists.mp fn
      have hp : ptsOf c x = l.2.1.map (·.1) := by unfold ptsOf; rw [el]
      have hl4 : l.2.1.length ≤ 4 := (le_len (le_of hc el)).2
      have hcl := hc.len
      have hwl : w'.length + 1 ≤ f.length + 1 := by simpa using hw
      obtain ⟨u4, ep⟩ := un_parts (κ := κ) (cx := cx) (wf := wf) φ hc a1 l.2.1 (f, w') s4 (by show f.length + _ ≤ 1000; omega) (by show w'.length + _ ≤ 1000; omega)
      rw [← hp] at ep
      have PS := P.step
      have F := fd_all (c.map (·.1)) (ptsOf c x) (f, w')
      have hs1 : ((ptsOf c x).foldl (addB (c.map (·.1))) (f, w')).1.length ≤ c.length := by
        have := len_sub PS.nd (b := c.map (·.1)) fun y hy => (PS.rch y hy).mem
        rwa [List.length_map] at this
      have ln := F.ln
      simp only at ln
      have gr : f.length ≤ ((ptsOf c x).foldl (addB (c.map (·.1))) (f, w')).1.length := len_sub P.nd F.a1
      have hm' : 2 * (c.length - f.length) + (w'.length + 1) ≤ m + 1 := by simpa using hm
      have lk : ixP (.dct (rK c) (rV c)) (.str x) = .ok (leP l) := by
        show (if keyB (.str x) then (match lookP (rK c) (rV c) (.str x) with | some p => Res.ok p | none => .bad) else .bad) = _
        rw [look_R, el]
        rfl
      have b1 : evS φ κ cx wf Zd.law_under_b2 [.shr (.ptp (c.map roP)), a1, .own (f.map PV.str), .own ((w' ++ [x]).map PV.str), s4] = .nx [.shr (.ptp (c.map roP)), a1, .own (((ptsOf c x).foldl (addB (c.map (·.1))) (f, w')).1.map PV.str), .own (((ptsOf c x).foldl (addB (c.map (·.1))) (f, w')).2.map PV.str), u4] := by
        unfold Zd.law_under_b2
        have eq := es_sfd (φ := φ) (κ := κ) (cx := cx) (wf := wf) (tg := .tn 4) (body := Zd.law_under_b1) (i := 3) (a := .bi .dict (.cons (.v 0) .nil)) (k := 1) (ρ := [.shr (.ptp (c.map roP)), a1, .own (f.map PV.str), .own ((w' ++ [x]).map PV.str), s4]) (v := .dct (rK c) (rV c)) (q := .str x) (p := leP l) (xs := (w' ++ [x]).map PV.str) (ys := l.2.1.map paP) (by have dc := hc.dict; generalize c.map roP = CC at *; simp [dc]) rfl (by rw [List.map_append]; simp) lk rfl
        have dl : ((w' ++ [x]).map PV.str).dropLast = w'.map PV.str := by rw [List.map_append]; simp
        rw [dl] at eq
        have ep' : forL (stepF φ κ cx wf (.tn 4) Zd.law_under_b1) (l.2.1.map paP) (List.set [.shr (.ptp (c.map roP)), a1, .own (f.map PV.str), .own ((w' ++ [x]).map PV.str), s4] 3 (.own (w'.map PV.str))) = _ := ep
        rw [ep'] at eq
        have eq2 : evS φ κ cx wf (.scons (.sfd (.tn 4) 3 (.bi .dict (.cons (.v 0) .nil)) 1 Zd.law_under_b1) .snil) [.shr (.ptp (c.map roP)), a1, .own (f.map PV.str), .own ((w' ++ [x]).map PV.str), s4] = (match evS φ κ cx wf (.sfd (.tn 4) 3 (.bi .dict (.cons (.v 0) .nil)) 1 Zd.law_under_b1) [.shr (.ptp (c.map roP)), a1, .own (f.map PV.str), .own ((w' ++ [x]).map PV.str), s4] with
          | .nx ρ' => evS φ κ cx wf .snil ρ'
          | o => o) := rfl
        rw [eq2, eq]
        rfl
      obtain ⟨f', v4, P', e3⟩ := ih (fuel - 1) _ u4 PS (by omega) (by omega) (by omega)
      refine ⟨f', v4, P', ?_⟩
      match fuel, hf with
      | k + 1, _ =>
        rw [whL_step (ρ' := _) ?_ b1]
        · exact e3
        · have cm : cmpP .ne (.lst ((w' ++ [x]).map PV.str)) (.lst []) = .ok (.bl true) := by
            show (if dep (.lst ((w' ++ [x]).map PV.str)) 20 && dep (.lst []) 20 then Res.ok (PV.bl (!eqP (.lst ((w' ++ [x]).map PV.str)) (.lst []))) else .bad) = _
            rw [show dep (.lst ((w' ++ [x]).map PV.str)) 20 = true from depSs _ 19, List.map_append]
            cases w'.map PV.str <;> rfl
          generalize (w' ++ [x]).map PV.str = W1 at *
          simp [cm]
theorem under_ok (h249 : TT 249 = some Zd.d_law_under) (hwf : 100 < wf) {c : List Row1} (hc : OkCa c) {x : Nm} (hx : x ∈ c.map (·.1)) :
    ∃ f : List Nm, f.Nodup ∧ (∀ y, y ∈ f ↔ Rch c x y) ∧ callN TT κ cx wf (n + 1) 249 [.ptp (c.map roP), .str x] = .ok (.shr (.lst ((sortN f).map PV.str))) := by
  have hcl := hc.len
  obtain ⟨f, u4, P, e⟩ := un_loop (κ := κ) (cx := cx) (wf := wf) (callN TT κ cx wf n) hc hx (.shr (.str x)) (2 * c.length + 1) wf ([], [x]) .un (PB.start c x) (by simp) (by simp) (by omega)
  refine ⟨f, P.nd, P.all, ?_⟩
  rw [callN_eq h249 rfl]
  unfold Zd.d_law_under startS
  have so := sorted_Ls f
  simp only [List.map_cons, List.map_nil] at e
  generalize c.map roP = CC at *
  generalize (sortN f).map PV.str = S at *
  generalize f.map PV.str = K1 at *
  apply seq_step
  · simp
    exact rfl
  apply seq_step
  · simp
    exact rfl
  apply seq_step
  · simp only [es_wh]
    exact e
  simp [so]
/-! ### below, above -/
theorem below_g (T : HBl TT κ wf) {c : List Row1} (hc : OkCa c) {x : Nm} (hx : x ∈ c.map (·.1)) : ∃ f : List Nm, f.Nodup ∧ (∀ y, y ∈ f ↔ Rch c x y) ∧ callN TT κ cx wf (n + 8) 204 [caP c, .str x] = .ok (.shr (.lst ((sortN f).map PV.str))) := by
  obtain ⟨f, h1, h2, e2⟩ := below_P (κ := κ) (cx := cx) (wf := wf) (n := n + 5) T.h123 T.h193 T.h203 T.wf1 hc hx
  refine ⟨f, h1, h2, ?_⟩
  have e1 := look3_ok (κ := κ) (cx := cx) (wf := wf) (n := n) T.toHC hc
  rw [callN_eq T.h204 rfl]
  unfold Zd.d_below_2 startS
  generalize caP c = CC at *
  generalize (sortN f).map PV.str = S at *
  simp [e1, e2]
open Classical in
theorem above_g (T : HBl TT κ wf) {c : List Row1} (hc : OkCa c) {x : Nm} (hx : x ∈ c.map (·.1)) : callN TT κ cx wf (n + 8) 205 [caP c, .str x] = .ok (.own (((c.map (·.1)).filter fun y => decide (Rch c y x)).map PV.str)) := by
  have e1 := look3_ok (κ := κ) (cx := cx) (wf := wf) (n := n) T.toHC hc
  have e2 := letter_of_ok (κ := κ) (cx := cx) (wf := wf) (n := n + 6) T.h193 c x
  have e4 := names_of_ok (κ := κ) (cx := cx) (wf := wf) (n := n + 6) T.h123 c
  have fn := find_names c x
  rw [decide_eq_true hx] at fn
  obtain ⟨l, e⟩ := Option.isSome_iff_exists.mp fn
  rw [e] at e2
  have cm : compL (stepC (callN TT κ cx wf (n + 7)) κ [2] (.tn 2) (.cmp .inn (.v 1) (.call 203 (.cons (.v 0) (.cons (.v 2) .nil)))) (.v 2) [.shr (caP c), .shr (.str x), .un]) ((c.map (·.1)).map PV.str) = .ok (((c.map (·.1)).filter fun y => decide (Rch c y x)).map PV.str) := by
    refine compL_filter fun y hy => ?_
    obtain ⟨f, h1, hL, e3'⟩ := below_P (κ := κ) (cx := cx) (wf := wf) (n := n + 5) T.h123 T.h193 T.h203 T.wf1 hc hy
    have ci := in_way (sortN f) x
    have mm : x ∈ sortN f ↔ x ∈ f := (List.mergeSort_perm f _).mem_iff
    have dd : (decide (x ∈ sortN f)) = decide (Rch c y x) := by
      by_cases h : x ∈ sortN f
      · rw [decide_eq_true h, decide_eq_true ((hL x).mp (mm.mp h))]
      · rw [decide_eq_false h, decide_eq_false fun z => h (mm.mpr ((hL x).mpr z))]
    rw [dd] at ci
    generalize caP c = CC at *
    generalize (sortN f).map PV.str = LL at *
    cases hb : decide (Rch c y x) <;> rw [hb] at ci <;> simp [stepC, e3', ci]
  rw [callN_eq T.h205 rfl]
  unfold Zd.d_above startS
  generalize ((c.map (·.1)).filter fun y => decide (Rch c y x)).map PV.str = R at *
  generalize (c.map (·.1)).map PV.str = NS at *
  generalize caP c = CC at *
  have sq : itemsP (.lst NS) = .ok (.lst NS) := rfl
  simp [e1, e2, e4, sq, cm]
end
end Zp
end
section
/-! k14: letters put together -/
namespace Zp
open Z PySem
structure H14 (TT : Nat → Option FnD) (κ : Cons) (cx : Nat → Nat → Bool) (wf : Nat) : Prop extends HFl TT κ cx, HM4 TT where
  h123 : TT 123 = some Zd.d_names_of
  h203 : TT 203 = some Zd.d_parts_below_2
  h204 : TT 204 = some Zd.d_below_2
  h205 : TT 205 = some Zd.d_above
  h197 : TT 197 = some Zd.d_law_case_2
  h243 : TT 243 = some Zd.d_law_flat
  h249 : TT 249 = some Zd.d_law_under
  h250 : TT 250 = some Zd.d_law_no_letter
  h251 : TT 251 = some Zd.d_law_43
  wf1 : 100 < wf
theorem H14.bl {TT : Nat → Option FnD} {κ : Cons} {cx : Nat → Nat → Bool} {wf : Nat} (T : H14 TT κ cx wf) : HBl TT κ wf := ⟨T.toHC, T.h193, T.h123, T.h203, T.h204, T.h205, T.wf1⟩
theorem dep_flP' (r : Fl) : dep (flP r) 20 = true := by
  cases r with
  | ok s => exact dep_mono (dep_sh s) (by decide)
  | ring x => rfl
  | none x => rfl
  | deep => rfl
theorem whL_exc {c : List Slot → Res Bool} {g : List Slot → Out} {ρ ρ' : List Slot} {k : Nat} {o : Option PV} : ∀ {n : Nat}, 0 < n → c ρ = .ok true → g ρ = .exc k o ρ' → whL c g n ρ = .exc k o ρ'
  | n + 1, _, h, h2 => by
    show (match c ρ with
      | .ok true => (match g ρ with
        | .nx ρ' => whL c g n ρ'
        | .ct ρ' => whL c g n ρ'
        | .bk ρ' => .nx ρ'
        | o => o)
      | .ok false => .nx ρ
      | .exc c p => .exc c p ρ
      | .bad => .bad) = _
    rw [h, h2]
section
variable {TT : Nat → Option FnD} {κ : Cons} {cx : Nat → Nat → Bool} {wf : Nat} {n : Nat}
/-- a name that is none -/
structure OddN (TT : Nat → Option FnD) (κ : Cons) (cx : Nat → Nat → Bool) (wf : Nat) (c : List Row1) (v : PV) : Prop where
  lt : ∀ n, callN TT κ cx wf (n + 1) 193 [caP c, v] = .exc 8 (some v)
  ni : cmpP .inn v (.lst []) = .ok (.bl false)
  dp : dep v 18 = true
theorem odd_v (T : H14 TT κ cx wf) {c : List Row1} {v : PV} (h1 : isiP .str v = false) (h2 : cmpP .inn v (.lst []) = .ok (.bl false)) (h3 : dep v 18 = true) : OddN TT κ cx wf c v := ⟨fun n => by
  rw [callN_eq T.h193 rfl]
  unfold Zd.d_letter_of_2 startS caP
  have e : compL (stepC (callN TT κ cx wf n) κ [3, 4] (.tt (.cons (.tn 3) (.cons (.tn 4) .nil))) (.an (.isi .str (.v 1)) (.cmp .eq (.v 3) (.v 1))) (.v 4) [.shr (.tup (c.map roP)), .shr v, .un, .un, .un]) (c.map roP) = .ok [] := by
    rw [compL_ft (p := fun _ => false) (f := fun _ => PV.non) fun r hr => ?_]
    · simp
    · show stepC _ _ _ _ _ _ _ (PV.tup [.str r.1, leP r.2]) = _
      generalize leP r.2 = ll
      simp [stepC, h1]
  simp [e], h2, h3⟩
theorem odd_s (T : H14 TT κ cx wf) {c : List Row1} {x : Nm} (h : x ∉ c.map (·.1)) : OddN TT κ cx wf c (.str x) := ⟨fun n => by
  have e2 := letter_of_ok (κ := κ) (cx := cx) (wf := wf) (n := n) T.h193 c x
  have fn := find_names c x
  rw [decide_eq_false h] at fn
  cases e : findL c x with
  | none => rw [e] at e2; exact e2
  | some l => rw [e] at fn; (cases fn), in_way [] x, rfl⟩
theorem odd_told (T : H14 TT κ cx wf) {c : List Row1} (hc : OkCa c) {v : PV} (h : OddN TT κ cx wf c v) : callN TT κ cx wf (n + 10) 207 [caP c, v] = .ok (.shr (.lst [.str noneM, v])) := by
  have e1 := look3_ok (κ := κ) (cx := cx) (wf := wf) (n := n + 1) T.toHC hc
  have e2 := h.lt (n + 6)
  have ni := h.ni
  have e3 : callN TT κ cx wf (n + 8) 201 [caP c, v, .lst []] = .exc 8 (some v) := by
    rw [callN_eq T.h201 rfl]
    unfold Zd.d_flat_of_2 startS
    generalize caP c = CC at *
    simp [ni, e2]
  have e4 : callN TT κ cx wf (n + 9) 202 [caP c, v] = .exc 8 (some v) := by
    rw [callN_eq T.h202 rfl]
    unfold Zd.d_flat_2 startS
    generalize caP c = CC at *
    simp [e1, e3]
  rw [callN_eq T.h207 rfl]
  unfold Zd.d_law_flat_told startS
  generalize caP c = CC at *
  simp [e4, T.c89, T.c88, T.c80, T.c87, suite0, evX, okI', Nat.blt, lstOf, Res.bind, truP]
theorem odd_below (T : H14 TT κ cx wf) {c : List Row1} (hc : OkCa c) {v : PV} (h : OddN TT κ cx wf c v) : callN TT κ cx wf (n + 9) 204 [caP c, v] = .exc 8 (some v) := by
  have e1 := look3_ok (κ := κ) (cx := cx) (wf := wf) (n := n + 1) T.toHC hc
  have e2 := h.lt (n + 6)
  have e3 : callN TT κ cx wf (n + 8) 203 [caP c, v] = .exc 8 (some v) := by
    rw [callN_eq T.h203 rfl]
    unfold Zd.d_parts_below_2 startS
    generalize caP c = CC at *
    have eq := es_sfpx (φ := callN TT κ cx wf (n + 7)) (κ := κ) (cx := cx) (wf := wf) (tg := .tt (.cons (.tn 4) (.cons (.tn 5) (.cons (.tn 6) .nil)))) (body := Zd.parts_below_2_b1) (i := 3) (f := 193) (a := .v 0) (k := 1) (ρ := [.shr CC, .shr v, .owd [] [], .own [v], .un, .un, .un]) (v := CC) (q := v) (xs := [v]) rfl rfl rfl e2
    have b1 : evS (callN TT κ cx wf (n + 7)) κ cx wf Zd.parts_below_2_b2 [.shr CC, .shr v, .owd [] [], .own [v], .un, .un, .un] = .exc 8 (some v) [.shr CC, .shr v, .owd [] [], .own [], .un, .un, .un] := by
      unfold Zd.parts_below_2_b2
      have eq2 : evS (callN TT κ cx wf (n + 7)) κ cx wf (.scons (.sfp (.tt (.cons (.tn 4) (.cons (.tn 5) (.cons (.tn 6) .nil)))) 3 193 (.v 0) 1 Zd.parts_below_2_b1) .snil) [.shr CC, .shr v, .owd [] [], .own [v], .un, .un, .un] = (match evS (callN TT κ cx wf (n + 7)) κ cx wf (.sfp (.tt (.cons (.tn 4) (.cons (.tn 5) (.cons (.tn 6) .nil)))) 3 193 (.v 0) 1 Zd.parts_below_2_b1) [.shr CC, .shr v, .owd [] [], .own [v], .un, .un, .un] with
          | .nx ρ' => evS (callN TT κ cx wf (n + 7)) κ cx wf .snil ρ'
          | o => o) := rfl
      rw [eq2, eq]
      rfl
    have wl := whL_exc (c := fun ρ' => (ev (callN TT κ cx wf (n + 7)) κ (.rd 3) ρ').bind truP) (n := wf) (Nat.lt_trans (by decide) T.wf1) (ρ := [.shr CC, .shr v, .owd [] [], .own [v], .un, .un, .un]) rfl b1
    apply seq_step
    · simp
      exact rfl
    apply seq_step
    · simp
      exact rfl
    have wl2 : whL (fun ρ' => (getR ρ'[3]?).bind truP) (fun ρ' => evS (callN TT κ cx wf (n + 7)) κ cx wf Zd.parts_below_2_b2 ρ') wf [.shr CC, .shr v, .owd [] [], .own [v], .un, .un, .un] = _ := wl
    simp
    rw [wl2]
    rfl
  rw [callN_eq T.h204 rfl]
  unfold Zd.d_below_2 startS
  generalize caP c = CC at *
  simp [e1, e3]
theorem odd_above (T : H14 TT κ cx wf) {c : List Row1} (hc : OkCa c) {v : PV} (h : OddN TT κ cx wf c v) : callN TT κ cx wf (n + 9) 205 [caP c, v] = .exc 8 (some v) := by
  have e1 := look3_ok (κ := κ) (cx := cx) (wf := wf) (n := n + 1) T.toHC hc
  have e2 := h.lt (n + 7)
  rw [callN_eq T.h205 rfl]
  unfold Zd.d_above startS
  generalize caP c = CC at *
  simp [e1, e2]
theorem odd_no (T : H14 TT κ cx wf) {c : List Row1} (hc : OkCa c) {v : PV} (h : OddN TT κ cx wf c v) : callN TT κ cx wf (n + 10) 250 [caP c, v] = .ok (.own [v, v]) := by
  have e1 := odd_below (n := n) T hc h
  have e2 := odd_above (n := n) T hc h
  have eg : rngP (.int 0) (.int 2) = .ok (.lst (upL 0 2)) := rng_of (by omega) (by omega) (by omega) (by omega) (by omega)
  have eu : upL 0 2 = [.int 0, .int 1] := rfl
  rw [eu] at eg
  have f1 : fits 1 = true := rfl
  have f2 : fits 2 = true := rfl
  rw [callN_eq T.h250 rfl]
  unfold Zd.d_law_no_letter startS
  generalize caP c = CC at *
  have s1 : stepF (callN TT κ cx wf (n + 9)) κ cx wf (.tn 3) Zd.law_no_letter_b1 (.int 0) [.shr CC, .shr v, .own [], .un, .un] = .nx [.shr CC, .shr v, .own [v], .shr (.int 0), .un] := by
    unfold Zd.law_no_letter_b1
    simp [stepF, e1, T.c88, suite0, evX, okI', Nat.blt, ownAt, lift, f1]
  have s2 : stepF (callN TT κ cx wf (n + 9)) κ cx wf (.tn 3) Zd.law_no_letter_b1 (.int 1) [.shr CC, .shr v, .own [v], .shr (.int 0), .un] = .nx [.shr CC, .shr v, .own [v, v], .shr (.int 1), .un] := by
    unfold Zd.law_no_letter_b1
    simp [stepF, e2, T.c88, suite0, evX, okI', Nat.blt, ownAt, lift, f2]
  simp [eg, forL_cons, s1, s2]
/-! ### the loop -/
theorem step14 (T : H14 TT κ cx wf) {c : List Row1} (hc : OkCa c) (hl : c.length ≤ 7) {x : Nm} (hx : x ∈ c.map (·.1)) (a0 a1 s4 : Slot) : stepF (callN TT κ cx wf (n + 11)) κ cx wf (.tn 4) Zd.law_43_b1 (.str x) [a0, a1, .shr (.ptp (c.map roP)), .shr (.lst ((c.map (·.1)).map PV.str)), s4, .un, .un, .un] = .nx [a0, a1, .shr (.ptp (c.map roP)), .shr (.lst ((c.map (·.1)).map PV.str)), .shr (.str x), .un, .un, .un] := by
  have e1 := told_g (κ := κ) (cx := cx) (wf := wf) (n := n) T.toHFl hc hl x
  have nd : flF c 8 [] x ≠ .deep := flF_deep 8 [] x (by simp) (fun y hy => by cases hy) (by simp; omega)
  obtain ⟨rv, e2, er⟩ := law_flat_ok (κ := κ) (cx := cx) (wf := wf) (n := n + 3) T.h243 hc 8 (by decide) [] x (by decide) nd
  have e2 : callN TT κ cx wf (n + 11) 243 [.ptp (c.map roP), .str x, .lst []] = .ok rv := e2
  have c1 := cmp_ne_self (dep_flP' (flF c 8 [] x))
  obtain ⟨f, h1, h2, e3⟩ := below_g (κ := κ) (cx := cx) (wf := wf) (n := n + 3) T.bl hc hx
  obtain ⟨f', h1', h2', e4⟩ := under_ok (κ := κ) (cx := cx) (wf := wf) (n := n + 10) T.h249 T.wf1 hc hx
  rw [sortN_same h1 h1' fun y => (h2' y).trans (h2 y).symm] at e4
  have c2 : cmpP .ne (.lst ((sortN f).map PV.str)) (.lst ((sortN f).map PV.str)) = .ok (.bl false) := cmp_ne_self (depSs _ 19)
  have e5 := above_g (κ := κ) (cx := cx) (wf := wf) (n := n + 3) T.bl hc hx
  have cm : compL (stepC (callN TT κ cx wf (n + 11)) κ [7] (.tn 7) (.cmp .inn (.v 4) (.call 249 (.cons (.v 2) (.cons (.v 7) .nil)))) (.v 7) [a0, a1, .shr (.ptp (c.map roP)), .shr (.lst ((c.map (·.1)).map PV.str)), .shr (.str x), .un, .un, .un]) ((c.map (·.1)).map PV.str) = .ok (((c.map (·.1)).filter fun y => @decide (Rch c y x) (Classical.propDecidable _)).map PV.str) := by
    refine compL_filter fun y hy => ?_
    obtain ⟨g, k1, hL, e3'⟩ := under_ok (κ := κ) (cx := cx) (wf := wf) (n := n + 10) T.h249 T.wf1 hc hy
    have ci := in_way (sortN g) x
    have mm : x ∈ sortN g ↔ x ∈ g := (List.mergeSort_perm g _).mem_iff
    have dd : (decide (x ∈ sortN g)) = @decide (Rch c y x) (Classical.propDecidable _) := by
      by_cases h : x ∈ sortN g
      · rw [decide_eq_true h]
        exact (@decide_eq_true _ (Classical.propDecidable _) ((hL x).mp (mm.mp h))).symm
      · rw [decide_eq_false h]
        exact (@decide_eq_false _ (Classical.propDecidable _) fun z => h (mm.mpr ((hL x).mpr z))).symm
    rw [dd] at ci
    generalize @decide (Rch c y x) (Classical.propDecidable _) = b at *
    generalize (c.map (·.1)).map PV.str = NS at *
    generalize c.map roP = CC at *
    generalize (sortN g).map PV.str = LL at *
    cases b <;> simp [stepC, e3', ci]
  have c3 : cmpP .ne (.lst (((c.map (·.1)).filter fun y => @decide (Rch c y x) (Classical.propDecidable _)).map PV.str)) (.lst (((c.map (·.1)).filter fun y => @decide (Rch c y x) (Classical.propDecidable _)).map PV.str)) = .ok (.bl false) := cmp_ne_self (depSs _ 19)
  have cr : caP c = .tup (c.map roP) := rfl
  rw [cr] at e1 e3 e5
  have un : unpP (.ptp (c.map roP)) = .ok (.tup (c.map roP)) := rfl
  have sq : itemsP (.lst ((c.map (·.1)).map PV.str)) = .ok (.lst ((c.map (·.1)).map PV.str)) := rfl
  generalize ((c.map (·.1)).filter fun y => @decide (Rch c y x) (Classical.propDecidable _)).map PV.str = AB at *
  generalize (c.map (·.1)).map PV.str = NS at *
  generalize c.map roP = CC at *
  generalize (sortN f).map PV.str = LL at *
  generalize flP (flF c 8 [] x) = FF at *
  unfold Zd.law_43_b1
  simp [stepF, un, e1, e2, er, c1, e3, e4, c2, e5, sq, cm, c3]
theorem loop14 (T : H14 TT κ cx wf) {c : List Row1} (hc : OkCa c) (hl : c.length ≤ 7) (a0 a1 : Slot) : ∀ (xs : List Nm) (s4 : Slot), (∀ x ∈ xs, x ∈ c.map (·.1)) → ∃ u4, forL (stepF (callN TT κ cx wf (n + 11)) κ cx wf (.tn 4) Zd.law_43_b1) (xs.map PV.str) [a0, a1, .shr (.ptp (c.map roP)), .shr (.lst ((c.map (·.1)).map PV.str)), s4, .un, .un, .un] = .nx [a0, a1, .shr (.ptp (c.map roP)), .shr (.lst ((c.map (·.1)).map PV.str)), u4, .un, .un, .un]
  | [], s4, _ => ⟨s4, rfl⟩
  | x :: xs, s4, h => by
    obtain ⟨u4, e⟩ := loop14 T hc hl a0 a1 xs (.shr (.str x)) fun y hy => h y (List.mem_cons_of_mem _ hy)
    refine ⟨u4, ?_⟩
    rw [List.map_cons, forL_cons, step14 T hc hl (h x List.mem_cons_self), next_nx, e]
abbrev odds : List PV := [.non, .str [], .str [110, 111, 115, 117, 99, 104], .int 7, .tup [.str [97]]]
theorem odd_all (T : H14 TT κ cx wf) {c : List Row1} (g : GoodC c) {v : PV} (hv : v ∈ odds) : OddN TT κ cx wf c v := by
  have nm : ∀ x : Nm, x ∉ n12 → x ∉ c.map (·.1) := fun x h z => by
    obtain ⟨r, hr, rfl⟩ := List.mem_map.mp z
    exact h (g.nm r hr)
  simp only [odds, List.mem_cons, List.not_mem_nil, or_false] at hv
  rcases hv with rfl | rfl | rfl | rfl | rfl
  · exact odd_v T rfl rfl rfl
  · exact odd_s T (nm _ (by decide))
  · exact odd_s T (nm _ (by decide))
  · exact odd_v T rfl rfl rfl
  · exact odd_v T rfl rfl rfl
theorem plain14 (T : H14 TT κ cx wf) (ns : List Int) : callN TT κ cx wf (n + 12) 251 [.scr ns] = .ok (.shr (.bl true)) := by
  obtain ⟨r, hr, er⟩ := row_ok (κ := κ) (cx := cx) (wf := wf) (n := n + 9) T.h9 T.h11 (ns := ns) (at_ := 4) (by decide)
  obtain ⟨c, g, ec⟩ := lcase_ok (κ := κ) (cx := cx) (wf := wf) (n := n + 8) T.toHM4 T.h197 (ns := ns) (a := 2) (by decide)
  obtain ⟨v0, _, _, q0⟩ := row_at hr (i := 0) (by decide) (by decide)
  have hc := g.ok
  have l7 := g.len
  have m0 := fmod_rng v0 (b := 5) (by decide)
  obtain ⟨v, hv, eo⟩ := ix_ex (xs := odds) (v := v0.fmod 5) m0.1 m0.2
  have O := odd_all T g hv
  obtain ⟨u4, el⟩ := loop14 (n := n) T hc l7 (.shr (.scr ns)) (.shr (.lst (r.map PV.int))) (c.map (·.1)) .un fun y hy => hy
  have e1 := odd_told (n := n + 1) T hc O
  have e2 := odd_no (n := n + 1) T hc O
  have d1 : dep (.lst [.str noneM, v]) 20 = true := by
    have z : dep v 19 = true := dep_mono O.dp (by decide)
    show (true && (dep v 19 && true)) = true
    rw [z]
    rfl
  have d2 : dep (.lst [v, v]) 20 = true := by
    have z : dep v 19 = true := dep_mono O.dp (by decide)
    show (dep v 19 && (dep v 19 && true)) = true
    rw [z]
    rfl
  have c1 := cmp_eq_self d1
  have c2 := cmp_eq_self d2
  have cs : compL (stepC (callN TT κ cx wf (n + 11)) κ [4, 6] (.tt (.cons (.tn 4) (.cons (.tn 6) .nil))) (.k (.bl true)) (.v 4) [.shr (.scr ns), .shr (.lst (r.map PV.int)), .shr (.ptp (c.map roP)), .un, .un, .un, .un, .un]) (c.map roP) = .ok ((c.map (·.1)).map PV.str) := by
    rw [List.map_map]
    refine compL_of fun q _ => ?_
    show stepC _ _ _ _ _ _ _ (PV.tup [.str q.1, leP q.2]) = _
    generalize leP q.2 = ll
    simp [stepC]
  have cr : caP c = .tup (c.map roP) := rfl
  rw [cr] at e1 e2
  have un : unpP (.ptp (c.map roP)) = .ok (.tup (c.map roP)) := rfl
  have it : itemsP (.tup (c.map roP)) = .ok (.lst (c.map roP)) := rfl
  have sq : itemsP (.lst ((c.map (·.1)).map PV.str)) = .ok (.lst ((c.map (·.1)).map PV.str)) := rfl
  rw [callN_eq T.h251 rfl]
  unfold Zd.d_law_43 startS
  generalize (c.map (·.1)).map PV.str = NS at *
  generalize c.map roP = CC at *
  generalize r.map PV.int = RR at *
  apply seq_step
  · simp [er]
    exact rfl
  apply seq_step
  · simp [ec]
    exact rfl
  apply seq_step
  · simp [un, it, cs]
    exact rfl
  apply seq_step
  · simp [sq, el]
    exact rfl
  apply seq_step
  · simp [q0, bin_mod, eo]
    exact rfl
  simp [un, e1, e2, c1, c2]
end
end Zp
end
section
open PySem PySem.Spec PyProof.Rows L2 Z
namespace Zd
end Zd
namespace Zw
abbrev PP : Program := PySem.Challenge.pw_typehall_k14_letters_put_together
def top (i : Nat) : Stmt := PP.main.body.getD i (.Pass ⟨0, 0, 0, 0⟩)
def Fs : List (Nat × Str × Z.FnD) := [(0, ("is_within" : Str), Zd.d_is_within),
  (1, ("is_point" : Str), Zd.d_is_point),
  (2, ("is_contour" : Str), Zd.d_is_contour),
  (3, ("is_shape" : Str), Zd.d_is_shape),
  (5, ("moved_of" : Str), Zd.d_moved_of),
  (117, ("is_name" : Str), Zd.d_is_name),
  (118, ("is_part" : Str), Zd.d_is_part),
  (119, ("is_letter" : Str), Zd.d_is_letter),
  (120, ("is_case" : Str), Zd.d_is_case),
  (121, ("look" : Str), Zd.d_look_3),
  (193, ("letter_of" : Str), Zd.d_letter_of_2),
  (123, ("names_of" : Str), Zd.d_names_of),
  (201, ("flat_of" : Str), Zd.d_flat_of_2),
  (202, ("flat" : Str), Zd.d_flat_2),
  (203, ("parts_below" : Str), Zd.d_parts_below_2),
  (204, ("below" : Str), Zd.d_below_2),
  (205, ("above" : Str), Zd.d_above),
  (9, ("_law_cell" : Str), Zd.d_law_cell),
  (11, ("_law_row" : Str), Zd.d_law_row),
  (13, ("_law_contour" : Str), Zd.d_law_contour),
  (133, ("_law_name" : Str), Zd.d_law_name),
  (197, ("_law_case" : Str), Zd.d_law_case_2),
  (243, ("_law_flat" : Str), Zd.d_law_flat),
  (207, ("_law_flat_told" : Str), Zd.d_law_flat_told),
  (249, ("_law_under" : Str), Zd.d_law_under),
  (250, ("_law_no_letter" : Str), Zd.d_law_no_letter),
  (251, ("law" : Str), Zd.d_law_43)]
def Cs : List (Nat × Str × PV) := [(0, ("MOST_PLACE" : Str), .int 2000), (1, ("MOST_POINTS" : Str), .int 20), (2, ("MOST_CONTOURS" : Str), .int 8), (8, ("SMALL" : Str), .str [97, 98, 99, 100, 101, 102, 103, 104, 105, 106, 107, 108, 109, 110, 111, 112, 113, 114, 115, 116, 117, 118, 119, 120, 121, 122]), (9, ("MOST_NAME" : Str), .int 8), (10, ("MOST_LETTERS" : Str), .int 40), (11, ("MOST_PARTS" : Str), .int 4), (12, ("MOST_WIDE" : Str), .int 4000)]
def Xs : List (Nat × Str) := [(0, ("CastError" : Str)), (7, ("BadCase" : Str)), (8, ("NoLetter" : Str)), (9, ("Ring" : Str))]
def cx : Nat → Nat → Bool := fun a b => (([(0, [0]), (7, [7, 0]), (8, [8, 0]), (9, [9, 0])] : List (Nat × List Nat)).lookup a |>.getD []).contains b
def Xf : List (Nat × Str) := [(8, ("name" : Str)), (9, ("name" : Str))]
abbrev B : Tb := tbL Fs Cs Xs Xf cx 100000
abbrev more : PySem.W.Frag → Bool := moreB Cs Xs Xf cx
def fa : List He.Fa := [.glo ("is_within" : Str), .glo ("is_point" : Str), .glo ("is_contour" : Str), .glo ("is_shape" : Str), .glo ("moved_of" : Str), .glo ("is_name" : Str), .glo ("is_part" : Str), .glo ("is_letter" : Str), .glo ("is_case" : Str), .glo ("look" : Str), .glo ("letter_of" : Str), .glo ("names_of" : Str), .glo ("flat_of" : Str), .glo ("flat" : Str), .glo ("parts_below" : Str), .glo ("below" : Str), .glo ("above" : Str), .glo ("_law_cell" : Str), .glo ("_law_row" : Str), .glo ("_law_contour" : Str), .glo ("_law_name" : Str), .glo ("_law_case" : Str), .glo ("_law_flat" : Str), .glo ("_law_flat_told" : Str), .glo ("_law_under" : Str), .glo ("_law_no_letter" : Str), .glo ("law" : Str), .meth ("NoLetter" : Str) ("__init__" : Str), .meth ("Ring" : Str) ("__init__" : Str)]
abbrev de (x nm : Str) (i : Nat) : He.DefD := ⟨(x, none), nm, nm, defArgs (top i), defBody (top i), defScope (top i), [], []⟩
def fn : List He.DefD := [de ("is_within" : Str) ("is_within" : Str) 6, de ("is_point" : Str) ("is_point" : Str) 11, de ("is_contour" : Str) ("is_contour" : Str) 12, de ("is_shape" : Str) ("is_shape" : Str) 13, de ("moved_of" : Str) ("moved_of" : Str) 14, de ("is_name" : Str) ("is_name" : Str) 21, de ("is_part" : Str) ("is_part" : Str) 22, de ("is_letter" : Str) ("is_letter" : Str) 23, de ("is_case" : Str) ("is_case" : Str) 24, de ("look" : Str) ("look" : Str) 25, de ("letter_of" : Str) ("letter_of" : Str) 26, de ("names_of" : Str) ("names_of" : Str) 27, de ("flat_of" : Str) ("flat_of" : Str) 28, de ("flat" : Str) ("flat" : Str) 29, de ("parts_below" : Str) ("parts_below" : Str) 30, de ("below" : Str) ("below" : Str) 31, de ("above" : Str) ("above" : Str) 32, de ("_law_cell" : Str) ("_law_cell" : Str) 34, de ("_law_row" : Str) ("_law_row" : Str) 35, de ("_law_contour" : Str) ("_law_contour" : Str) 36, de ("_law_name" : Str) ("_law_name" : Str) 37, de ("_law_case" : Str) ("_law_case" : Str) 38, de ("_law_flat" : Str) ("_law_flat" : Str) 39, de ("_law_flat_told" : Str) ("_law_flat_told" : Str) 40, de ("_law_under" : Str) ("_law_under" : Str) 41, de ("_law_no_letter" : Str) ("_law_no_letter" : Str) 42, de ("law" : Str) ("law" : Str) 43, deM ("NoLetter" : Str) ("__init__" : Str) ("__init__" : Str) ("NoLetter.__init__" : Str) ((clsBody (top 3)).getD 0 (.Pass ⟨0, 0, 0, 0⟩)), deM ("Ring" : Str) ("__init__" : Str) ("__init__" : Str) ("Ring.__init__" : Str) ((clsBody (top 4)).getD 0 (.Pass ⟨0, 0, 0, 0⟩))]
abbrev R : PySem.W.OpenRow := PySem.W.OpenLaw.row PySem.Challenge.rw_typehall_k14_letters_put_together
abbrev hk : PySem.W.Hook := hookZ 5 fa fn more
def ob (s : PySem.W.SharedT) : Bool × He.AlD := obsZ 5 fa fn more (HandSHeadRun.getT s)
theorem ob_eq (s : PySem.W.SharedT) : ob s = hk.obs s.abs := obsZ_eq (HandSHeadRun.getT_eq s)
def loose0 : List PySem.Str := ["CastError", "BadCase", "NoLetter", "Ring", "is_within", "MOST_PLACE", "MOST_POINTS", "MOST_CONTOURS", "is_point", "is_contour", "is_shape", "moved_of", "SMALL", "MOST_NAME", "MOST_LETTERS", "MOST_PARTS", "MOST_WIDE", "is_name", "is_part", "is_letter", "is_case", "look", "letter_of", "names_of", "flat_of", "flat", "parts_below", "below", "above", "_law_cell"]
def loose1 : List PySem.Str := ["_law_row", "_law_contour", "_law_name", "_law_case", "_law_flat", "_law_flat_told", "_law_under", "_law_no_letter"]
abbrev loose : List PySem.Str := loose0 ++ loose1
theorem run (w : World) : HandSHeadRun.RunEq R (PySem.W.view R.prog [43]) hk ob 4000 loose w := by
  intro os
  kernel_rfl
section
variable {K : PySem.W.Frag} {mg : Str → Option Value} {h : Heap}
theorem sc0 : FnScope ["thing", "low", "high"] ["thing", "low", "high"] (defScope (top 6)) := ⟨rfl, rfl, rfl, by decide +kernel, rfl, by decide +kernel, by decide +kernel⟩
theorem ck0 : (cks B ["thing", "low", "high"] Zd.d_is_within.body).b (defScope (top 6)) (defBody (top 6)) = true := by decide +kernel
theorem fs0 (X : K.In h) (G : h.Ns mainGlobals mg) (c : He.SaysD fa fn K) : FS B K mg "is_within" Zd.d_is_within := fs_of X G c 0 0 rfl rfl sc0 (fun _ _ _ _ _ _ us hl => match us, hl with | [_, _, _], _ => rfl) rfl rfl ck0
theorem sc1 : FnScope ["thing"] ["thing"] (defScope (top 11)) := ⟨rfl, rfl, rfl, by decide +kernel, rfl, by decide +kernel, by decide +kernel⟩
theorem ck1 : (cks B ["thing"] Zd.d_is_point.body).b (defScope (top 11)) (defBody (top 11)) = true := by decide +kernel
theorem fs1 (X : K.In h) (G : h.Ns mainGlobals mg) (c : He.SaysD fa fn K) : FS B K mg "is_point" Zd.d_is_point := fs_of X G c 1 1 rfl rfl sc1 (fun _ _ _ _ _ _ us hl => match us, hl with | [_], _ => rfl) rfl rfl ck1
theorem sc2 : FnScope ["thing", "one"] ["thing"] (defScope (top 12)) := ⟨rfl, rfl, rfl, by decide +kernel, rfl, by decide +kernel, by decide +kernel⟩
theorem ck2 : (cks B ["thing", "one"] Zd.d_is_contour.body).b (defScope (top 12)) (defBody (top 12)) = true := by decide +kernel
theorem fs2 (X : K.In h) (G : h.Ns mainGlobals mg) (c : He.SaysD fa fn K) : FS B K mg "is_contour" Zd.d_is_contour := fs_of X G c 2 2 rfl rfl sc2 (fun _ _ _ _ _ _ us hl => match us, hl with | [_], _ => rfl) rfl rfl ck2
theorem sc3 : FnScope ["thing", "one"] ["thing"] (defScope (top 13)) := ⟨rfl, rfl, rfl, by decide +kernel, rfl, by decide +kernel, by decide +kernel⟩
theorem ck3 : (cks B ["thing", "one"] Zd.d_is_shape.body).b (defScope (top 13)) (defBody (top 13)) = true := by decide +kernel
theorem fs3 (X : K.In h) (G : h.Ns mainGlobals mg) (c : He.SaysD fa fn K) : FS B K mg "is_shape" Zd.d_is_shape := fs_of X G c 3 3 rfl rfl sc3 (fun _ _ _ _ _ _ us hl => match us, hl with | [_], _ => rfl) rfl rfl ck3
theorem sc4 : FnScope ["shape", "across", "up", "contour", "x", "y", "on"] ["shape", "across", "up"] (defScope (top 14)) := ⟨rfl, rfl, rfl, by decide +kernel, rfl, by decide +kernel, by decide +kernel⟩
theorem ck4 : (cks B ["shape", "across", "up", "contour", "x", "y", "on"] Zd.d_moved_of.body).b (defScope (top 14)) (defBody (top 14)) = true := by decide +kernel
theorem fs4 (X : K.In h) (G : h.Ns mainGlobals mg) (c : He.SaysD fa fn K) : FS B K mg "moved_of" Zd.d_moved_of := fs_of X G c 4 4 rfl rfl sc4 (fun _ _ _ _ _ _ us hl => match us, hl with | [_, _, _], _ => rfl) rfl rfl ck4
theorem sc5 : FnScope ["thing", "one"] ["thing"] (defScope (top 21)) := ⟨rfl, rfl, rfl, by decide +kernel, rfl, by decide +kernel, by decide +kernel⟩
theorem ck5 : (cks B ["thing", "one"] Zd.d_is_name.body).b (defScope (top 21)) (defBody (top 21)) = true := by decide +kernel
theorem fs5 (X : K.In h) (G : h.Ns mainGlobals mg) (c : He.SaysD fa fn K) : FS B K mg "is_name" Zd.d_is_name := fs_of X G c 5 5 rfl rfl sc5 (fun _ _ _ _ _ _ us hl => match us, hl with | [_], _ => rfl) rfl rfl ck5
theorem sc6 : FnScope ["thing"] ["thing"] (defScope (top 22)) := ⟨rfl, rfl, rfl, by decide +kernel, rfl, by decide +kernel, by decide +kernel⟩
theorem ck6 : (cks B ["thing"] Zd.d_is_part.body).b (defScope (top 22)) (defBody (top 22)) = true := by decide +kernel
theorem fs6 (X : K.In h) (G : h.Ns mainGlobals mg) (c : He.SaysD fa fn K) : FS B K mg "is_part" Zd.d_is_part := fs_of X G c 6 6 rfl rfl sc6 (fun _ _ _ _ _ _ us hl => match us, hl with | [_], _ => rfl) rfl rfl ck6
theorem sc7 : FnScope ["thing", "one"] ["thing"] (defScope (top 23)) := ⟨rfl, rfl, rfl, by decide +kernel, rfl, by decide +kernel, by decide +kernel⟩
theorem ck7 : (cks B ["thing", "one"] Zd.d_is_letter.body).b (defScope (top 23)) (defBody (top 23)) = true := by decide +kernel
theorem fs7 (X : K.In h) (G : h.Ns mainGlobals mg) (c : He.SaysD fa fn K) : FS B K mg "is_letter" Zd.d_is_letter := fs_of X G c 7 7 rfl rfl sc7 (fun _ _ _ _ _ _ us hl => match us, hl with | [_], _ => rfl) rfl rfl ck7
theorem sc8 : FnScope ["thing", "row", "one", "other"] ["thing"] (defScope (top 24)) := ⟨rfl, rfl, rfl, by decide +kernel, rfl, by decide +kernel, by decide +kernel⟩
theorem ck8 : (cks B ["thing", "row", "one", "other"] Zd.d_is_case.body).b (defScope (top 24)) (defBody (top 24)) = true := by decide +kernel
theorem fs8 (X : K.In h) (G : h.Ns mainGlobals mg) (c : He.SaysD fa fn K) : FS B K mg "is_case" Zd.d_is_case := fs_of X G c 8 8 rfl rfl sc8 (fun _ _ _ _ _ _ us hl => match us, hl with | [_], _ => rfl) rfl rfl ck8
theorem sc9 : FnScope ["case"] ["case"] (defScope (top 25)) := ⟨rfl, rfl, rfl, by decide +kernel, rfl, by decide +kernel, by decide +kernel⟩
theorem ck9 : (cks B ["case"] Zd.d_look_3.body).b (defScope (top 25)) (defBody (top 25)) = true := by decide +kernel
theorem fs9 (X : K.In h) (G : h.Ns mainGlobals mg) (c : He.SaysD fa fn K) : FS B K mg "look" Zd.d_look_3 := fs_of X G c 9 9 rfl rfl sc9 (fun _ _ _ _ _ _ us hl => match us, hl with | [_], _ => rfl) rfl rfl ck9
theorem sc10 : FnScope ["case", "name", "found", "one", "letter"] ["case", "name"] (defScope (top 26)) := ⟨rfl, rfl, rfl, by decide +kernel, rfl, by decide +kernel, by decide +kernel⟩
theorem ck10 : (cks B ["case", "name", "found", "one", "letter"] Zd.d_letter_of_2.body).b (defScope (top 26)) (defBody (top 26)) = true := by decide +kernel
theorem fs10 (X : K.In h) (G : h.Ns mainGlobals mg) (c : He.SaysD fa fn K) : FS B K mg "letter_of" Zd.d_letter_of_2 := fs_of X G c 10 10 rfl rfl sc10 (fun _ _ _ _ _ _ us hl => match us, hl with | [_, _], _ => rfl) rfl rfl ck10
theorem sc11 : FnScope ["case", "name", "letter"] ["case"] (defScope (top 27)) := ⟨rfl, rfl, rfl, by decide +kernel, rfl, by decide +kernel, by decide +kernel⟩
theorem ck11 : (cks B ["case", "name", "letter"] Zd.d_names_of.body).b (defScope (top 27)) (defBody (top 27)) = true := by decide +kernel
theorem fs11 (X : K.In h) (G : h.Ns mainGlobals mg) (c : He.SaysD fa fn K) : FS B K mg "names_of" Zd.d_names_of := fs_of X G c 11 11 rfl rfl sc11 (fun _ _ _ _ _ _ us hl => match us, hl with | [_], _ => rfl) rfl rfl ck11
theorem sc12 : FnScope ["case", "name", "way", "shape", "parts", "wide", "found", "one", "across", "up"] ["case", "name", "way"] (defScope (top 28)) := ⟨rfl, rfl, rfl, by decide +kernel, rfl, by decide +kernel, by decide +kernel⟩
theorem ck12 : (cks B ["case", "name", "way", "shape", "parts", "wide", "found", "one", "across", "up"] Zd.d_flat_of_2.body).b (defScope (top 28)) (defBody (top 28)) = true := by decide +kernel
theorem fs12 (X : K.In h) (G : h.Ns mainGlobals mg) (c : He.SaysD fa fn K) : FS B K mg "flat_of" Zd.d_flat_of_2 := fs_of X G c 12 12 rfl rfl sc12 (fun _ _ _ _ _ _ us hl => match us, hl with | [_, _, _], _ => rfl) rfl rfl ck12
theorem sc13 : FnScope ["case", "name"] ["case", "name"] (defScope (top 29)) := ⟨rfl, rfl, rfl, by decide +kernel, rfl, by decide +kernel, by decide +kernel⟩
theorem ck13 : (cks B ["case", "name"] Zd.d_flat_2.body).b (defScope (top 29)) (defBody (top 29)) = true := by decide +kernel
theorem fs13 (X : K.In h) (G : h.Ns mainGlobals mg) (c : He.SaysD fa fn K) : FS B K mg "flat" Zd.d_flat_2 := fs_of X G c 13 13 rfl rfl sc13 (fun _ _ _ _ _ _ us hl => match us, hl with | [_, _], _ => rfl) rfl rfl ck13
theorem sc14 : FnScope ["case", "name", "found", "waiting", "one", "across", "up"] ["case", "name"] (defScope (top 30)) := ⟨rfl, rfl, rfl, by decide +kernel, rfl, by decide +kernel, by decide +kernel⟩
theorem ck14 : (cks B ["case", "name", "found", "waiting", "one", "across", "up"] Zd.d_parts_below_2.body).b (defScope (top 30)) (defBody (top 30)) = true := by decide +kernel
theorem fs14 (X : K.In h) (G : h.Ns mainGlobals mg) (c : He.SaysD fa fn K) : FS B K mg "parts_below" Zd.d_parts_below_2 := fs_of X G c 14 14 rfl rfl sc14 (fun _ _ _ _ _ _ us hl => match us, hl with | [_, _], _ => rfl) rfl rfl ck14
theorem sc15 : FnScope ["case", "name"] ["case", "name"] (defScope (top 31)) := ⟨rfl, rfl, rfl, by decide +kernel, rfl, by decide +kernel, by decide +kernel⟩
theorem ck15 : (cks B ["case", "name"] Zd.d_below_2.body).b (defScope (top 31)) (defBody (top 31)) = true := by decide +kernel
theorem fs15 (X : K.In h) (G : h.Ns mainGlobals mg) (c : He.SaysD fa fn K) : FS B K mg "below" Zd.d_below_2 := fs_of X G c 15 15 rfl rfl sc15 (fun _ _ _ _ _ _ us hl => match us, hl with | [_, _], _ => rfl) rfl rfl ck15
theorem sc16 : FnScope ["case", "name", "one"] ["case", "name"] (defScope (top 32)) := ⟨rfl, rfl, rfl, by decide +kernel, rfl, by decide +kernel, by decide +kernel⟩
theorem ck16 : (cks B ["case", "name", "one"] Zd.d_above.body).b (defScope (top 32)) (defBody (top 32)) = true := by decide +kernel
theorem fs16 (X : K.In h) (G : h.Ns mainGlobals mg) (c : He.SaysD fa fn K) : FS B K mg "above" Zd.d_above := fs_of X G c 16 16 rfl rfl sc16 (fun _ _ _ _ _ _ us hl => match us, hl with | [_, _], _ => rfl) rfl rfl ck16
theorem sc17 : FnScope ["script", "k"] ["script", "k"] (defScope (top 34)) := ⟨rfl, rfl, rfl, by decide +kernel, rfl, by decide +kernel, by decide +kernel⟩
theorem ck17 : (cks B ["script", "k"] Zd.d_law_cell.body).b (defScope (top 34)) (defBody (top 34)) = true := by decide +kernel
theorem fs17 (X : K.In h) (G : h.Ns mainGlobals mg) (c : He.SaysD fa fn K) : FS B K mg "_law_cell" Zd.d_law_cell := fs_of X G c 17 17 rfl rfl sc17 (fun _ _ _ _ _ _ us hl => match us, hl with | [_, _], _ => rfl) rfl rfl ck17
theorem sc18 : FnScope ["script", "at", "cell", "found", "time"] ["script", "at"] (defScope (top 35)) := ⟨rfl, rfl, rfl, by decide +kernel, rfl, by decide +kernel, by decide +kernel⟩
theorem ck18 : (cks B ["script", "at", "cell", "found", "time"] Zd.d_law_row.body).b (defScope (top 35)) (defBody (top 35)) = true := by decide +kernel
theorem fs18 (X : K.In h) (G : h.Ns mainGlobals mg) (c : He.SaysD fa fn K) : FS B K mg "_law_row" Zd.d_law_row := fs_of X G c 18 18 rfl rfl sc18 (fun _ _ _ _ _ _ us hl => match us, hl with | [_, _], _ => rfl) rfl rfl ck18
theorem sc19 : FnScope ["row", "at", "far_wide", "found", "time", "spot", "x", "y"] ["row", "at", "far_wide"] (defScope (top 36)) := ⟨rfl, rfl, rfl, by decide +kernel, rfl, by decide +kernel, by decide +kernel⟩
theorem ck19 : (cks B ["row", "at", "far_wide", "found", "time", "spot", "x", "y"] Zd.d_law_contour.body).b (defScope (top 36)) (defBody (top 36)) = true := by decide +kernel
theorem fs19 (X : K.In h) (G : h.Ns mainGlobals mg) (c : He.SaysD fa fn K) : FS B K mg "_law_contour" Zd.d_law_contour := fs_of X G c 19 19 rfl rfl sc19 (fun _ _ _ _ _ _ us hl => match us, hl with | [_, _, _], _ => rfl) rfl rfl ck19
theorem sc20 : FnScope ["number"] ["number"] (defScope (top 37)) := ⟨rfl, rfl, rfl, by decide +kernel, rfl, by decide +kernel, by decide +kernel⟩
theorem ck20 : (cks B ["number"] Zd.d_law_name.body).b (defScope (top 37)) (defBody (top 37)) = true := by decide +kernel
theorem fs20 (X : K.In h) (G : h.Ns mainGlobals mg) (c : He.SaysD fa fn K) : FS B K mg "_law_name" Zd.d_law_name := fs_of X G c 20 20 rfl rfl sc20 (fun _ _ _ _ _ _ us hl => match us, hl with | [_], _ => rfl) rfl rfl ck20
theorem sc21 : FnScope ["script", "at", "row", "found", "time", "spot", "name", "near", "shape", "parts", "number", "part", "across"] ["script", "at"] (defScope (top 38)) := ⟨rfl, rfl, rfl, by decide +kernel, rfl, by decide +kernel, by decide +kernel⟩
theorem ck21 : (cks B ["script", "at", "row", "found", "time", "spot", "name", "near", "shape", "parts", "number", "part", "across"] Zd.d_law_case_2.body).b (defScope (top 38)) (defBody (top 38)) = true := by decide +kernel
theorem fs21 (X : K.In h) (G : h.Ns mainGlobals mg) (c : He.SaysD fa fn K) : FS B K mg "_law_case" Zd.d_law_case_2 := fs_of X G c 21 21 rfl rfl sc21 (fun _ _ _ _ _ _ us hl => match us, hl with | [_, _], _ => rfl) rfl rfl ck21
theorem sc22 : FnScope ["case", "name", "way", "shape", "parts", "width", "found", "part", "across", "up", "inner", "contour", "row", "x", "y", "on"] ["case", "name", "way"] (defScope (top 39)) := ⟨rfl, rfl, rfl, by decide +kernel, rfl, by decide +kernel, by decide +kernel⟩
theorem ck22 : (cks B ["case", "name", "way", "shape", "parts", "width", "found", "part", "across", "up", "inner", "contour", "row", "x", "y", "on"] Zd.d_law_flat.body).b (defScope (top 39)) (defBody (top 39)) = true := by decide +kernel
theorem fs22 (X : K.In h) (G : h.Ns mainGlobals mg) (c : He.SaysD fa fn K) : FS B K mg "_law_flat" Zd.d_law_flat := fs_of X G c 22 22 rfl rfl sc22 (fun _ _ _ _ _ _ us hl => match us, hl with | [_, _, _], _ => rfl) rfl rfl ck22
theorem sc23 : FnScope ["case", "name", "e"] ["case", "name"] (defScope (top 40)) := ⟨rfl, rfl, rfl, by decide +kernel, rfl, by decide +kernel, by decide +kernel⟩
theorem ck23 : (cks B ["case", "name", "e"] Zd.d_law_flat_told.body).b (defScope (top 40)) (defBody (top 40)) = true := by decide +kernel
theorem fs23 (X : K.In h) (G : h.Ns mainGlobals mg) (c : He.SaysD fa fn K) : FS B K mg "_law_flat_told" Zd.d_law_flat_told := fs_of X G c 23 23 rfl rfl sc23 (fun _ _ _ _ _ _ us hl => match us, hl with | [_, _], _ => rfl) rfl rfl ck23
theorem sc24 : FnScope ["case", "name", "found", "waiting", "part"] ["case", "name"] (defScope (top 41)) := ⟨rfl, rfl, rfl, by decide +kernel, rfl, by decide +kernel, by decide +kernel⟩
theorem ck24 : (cks B ["case", "name", "found", "waiting", "part"] Zd.d_law_under.body).b (defScope (top 41)) (defBody (top 41)) = true := by decide +kernel
theorem fs24 (X : K.In h) (G : h.Ns mainGlobals mg) (c : He.SaysD fa fn K) : FS B K mg "_law_under" Zd.d_law_under := fs_of X G c 24 24 rfl rfl sc24 (fun _ _ _ _ _ _ us hl => match us, hl with | [_, _], _ => rfl) rfl rfl ck24
theorem sc25 : FnScope ["case", "name", "found", "way", "e"] ["case", "name"] (defScope (top 42)) := ⟨rfl, rfl, rfl, by decide +kernel, rfl, by decide +kernel, by decide +kernel⟩
theorem ck25 : (cks B ["case", "name", "found", "way", "e"] Zd.d_law_no_letter.body).b (defScope (top 42)) (defBody (top 42)) = true := by decide +kernel
theorem fs25 (X : K.In h) (G : h.Ns mainGlobals mg) (c : He.SaysD fa fn K) : FS B K mg "_law_no_letter" Zd.d_law_no_letter := fs_of X G c 25 25 rfl rfl sc25 (fun _ _ _ _ _ _ us hl => match us, hl with | [_, _], _ => rfl) rfl rfl ck25
theorem sc26 : FnScope ["script", "row", "case", "some", "name", "odd", "letter", "one"] ["script"] (defScope (top 43)) := ⟨rfl, rfl, rfl, by decide +kernel, rfl, by decide +kernel, by decide +kernel⟩
theorem ck26 : (cks B ["script", "row", "case", "some", "name", "odd", "letter", "one"] Zd.d_law_43.body).b (defScope (top 43)) (defBody (top 43)) = true := by decide +kernel
theorem fs26 (X : K.In h) (G : h.Ns mainGlobals mg) (c : He.SaysD fa fn K) : FS B K mg "law" Zd.d_law_43 := fs_of X G c 26 26 rfl rfl sc26 (fun _ _ _ _ _ _ us hl => match us, hl with | [_], _ => rfl) rfl rfl ck26
theorem xi0 (X : K.In h) (G : h.Ns mainGlobals mg) (m : more K = true) (c : He.SaysD fa fn K) : IniOk K mg (He.ga K "NoLetter") "name" := ini_of (bn := "CastError") (pn := "name") X G c 27 27 rfl rfl (more_bs (c := 0) m rfl rfl) ⟨rfl, rfl, rfl, by decide +kernel, rfl, by decide +kernel, by decide +kernel⟩ (fun _ _ _ _ _ _ us hl => match us, hl with | [_, _], _ => rfl) (by decide +kernel)
theorem xi1 (X : K.In h) (G : h.Ns mainGlobals mg) (m : more K = true) (c : He.SaysD fa fn K) : IniOk K mg (He.ga K "Ring") "name" := ini_of (bn := "CastError") (pn := "name") X G c 28 28 rfl rfl (more_bs (c := 0) m rfl rfl) ⟨rfl, rfl, rfl, by decide +kernel, rfl, by decide +kernel, by decide +kernel⟩ (fun _ _ _ _ _ _ us hl => match us, hl with | [_, _], _ => rfl) (by decide +kernel)
theorem ws (X : K.In h) (G : h.Ns mainGlobals mg) (m : more K = true) (c : He.SaysD fa fn K) : WS B K mg := by
  refine ws_of X G (fun e he => ?_) (fun e he x hx => ?_) m
  unfold Fs at he
  simp only [List.mem_cons, List.not_mem_nil, or_false] at he
  rcases he with rfl | rfl | rfl | rfl | rfl | rfl | rfl | rfl | rfl | rfl | rfl | rfl | rfl | rfl | rfl | rfl | rfl | rfl | rfl | rfl | rfl | rfl | rfl | rfl | rfl | rfl | rfl
  · exact .inl (fs0 X G c)
  · exact .inl (fs1 X G c)
  · exact .inl (fs2 X G c)
  · exact .inl (fs3 X G c)
  · exact .inl (fs4 X G c)
  · exact .inl (fs5 X G c)
  · exact .inl (fs6 X G c)
  · exact .inl (fs7 X G c)
  · exact .inl (fs8 X G c)
  · exact .inl (fs9 X G c)
  · exact .inl (fs10 X G c)
  · exact .inl (fs11 X G c)
  · exact .inl (fs12 X G c)
  · exact .inl (fs13 X G c)
  · exact .inl (fs14 X G c)
  · exact .inl (fs15 X G c)
  · exact .inl (fs16 X G c)
  · exact .inl (fs17 X G c)
  · exact .inl (fs18 X G c)
  · exact .inl (fs19 X G c)
  · exact .inl (fs20 X G c)
  · exact .inl (fs21 X G c)
  · exact .inl (fs22 X G c)
  · exact .inl (fs23 X G c)
  · exact .inl (fs24 X G c)
  · exact .inl (fs25 X G c)
  · exact .inl (fs26 X G c)
  · unfold Xf at he
    simp only [List.mem_cons, List.not_mem_nil, or_false] at he
    rcases he with rfl | rfl
    · cases hx; exact xi0 X G m c
    · cases hx; exact xi1 X G m c
theorem lawf {w : World} {n : Nat} {fl : Addr} (X : K.In h) (G : h.Ns mainGlobals mg) (m : more K = true) (c : He.SaysD fa fn K) (hm : mg ("law" : Str) = some (.ref fl)) :
    ∃ fd : FuncData, (∀ (s : Shared) (u : Value), BindsTo s fd ⟨[u], []⟩ [("script", u)]) ∧ ∀ base : Heap, FnOk PP w K mg base (CXA PP) (3 * (n + 1) + 5) fl fd ["script"] (spF B K (XIs B K mg) (n + 1) 251 1) :=
  law_of X G c 26 26 rfl rfl sc26 (fun _ _ _ _ _ _ us hl => match us, hl with | [_], _ => rfl) rfl rfl ck26 (ws X G m c) rfl hm
end
end Zw
open PySem PySem.W PySem.Calls PyProof.Rows in
theorem Zw.holds_of (n : Nat) (hn : 3 * (n + 1) + 5 ≤ 60) (plain : ∀ ns : List Int, ns.length ≤ 63 → callN Zw.B.TT Zw.B.κ Zw.B.cx Zw.B.wf (n + 1) 251 [.scr ns] = .ok (.shr (.bl true))) : PySem.Challenge.rw_typehall_k14_letters_put_together.Holds := by
  w_on; o_law
  refine HandSHeadRun.head_any (r := OpenLaw.row PySem.Challenge.rw_typehall_k14_letters_put_together) (q := view (OpenLaw.row PySem.Challenge.rw_typehall_k14_letters_put_together).prog [43]) (H := Zw.hk) (ob := Zw.ob) (M := 4000) (loose := Zw.loose)
    (d := HandSHeadRun.topDef (OpenLaw.row PySem.Challenge.rw_typehall_k14_letters_put_together).prog 43) (kwd := []) Zw.ob_eq
    (by kernel_rfl) (fun s => by kernel_rfl) Zw.run (by kernel_rfl) (by kernel_rfl) (by kernel_rfl) (by rfl) (by first | assumption | decide +kernel) (by decide +kernel) ⟨rfl, rfl, rfl, rfl, rfl, by decide +kernel⟩ ?hw ?hc
  case hw => w_witness2
  case hc =>
    refine L2.walk_ofE (l := PySem.Challenge.rw_typehall_k14_letters_put_together) (n := 63) (k := 60) (x := "script") (CX := CXA Zw.PP) rfl (by decide) (by kernel_rfl) ⟨rfl, by decide, by decide⟩ ?F (fun H s e s' => cxa_no H s e s')
    intro w mg fl h Y G hmg0
    obtain ⟨K, KX, m, c⟩ := Y
    have hmg : mg ("law" : PySem.Str) = some (.ref fl) := by
      have e : (HandSHeadRun.topDef (OpenLaw.row PySem.Challenge.rw_typehall_k14_letters_put_together).prog 43).name = ("law" : PySem.Str) := by kernel_rfl
      rw [← e]
      exact hmg0
    obtain ⟨fd, hb, hF⟩ := Zw.lawf (w := w) (n := n) KX G m c hmg
    exact ⟨K, fd, _, KX, hb, fun H a ns hl _ hS => law_sp hS (plain ns hl), fun base _ _ => (hF base).mono (by omega)⟩
end
section
theorem Zp.Y14 : Zp.H14 Zw.B.TT Zw.B.κ Zw.B.cx Zw.B.wf := by repeat' (first | rfl | decide | constructor)
end
theorem PySem.Challenge.cw_typehall_k14_letters_put_together_holds : PySem.Challenge.rw_typehall_k14_letters_put_together.Holds := by
  exact Zw.holds_of 11 (by decide) fun ns _ => Zp.plain14 (n := 0) Zp.Y14 ns
