import PyProof.Rows.All
import Wide.All
import OpenK.AllK
import Wide.FinOn
import HandS.ForMost
import HandS.TupAny
import KE.KeyNested
import KE.KDictKeyed
import KE.KDictDisplayH
import KE.KDictWalk
import HandS.Deep
import HandS.Style
import HandS.SortRule
import HandS.SortInts
import HandS.TupLe
import HandS.More
import HandS.IsInst
import HandS.AnyAll
import KE.GoesEnum
import PySem.Challenge.RW_toldbytrials_k43_whole_covers_and_growin
set_option Elab.async false
set_option linter.all false
set_option maxRecDepth 100000
namespace TB
open PySem PySem.Spec PyProof.Rows L2

/-! ### values of our own -/
inductive D where
  | non
  | bl (b : Bool)
  | int (i : Int)
  | str (x : Str)
  | tup (xs : List D)
  | lst (xs : List D)
  | dic (ks vs : List D)
  | ref (n : Nat)
  | scr (xs : List D)          -- the script

inductive Ob where
  | lst (xs : List D)
  | dic (ks vs : List D)

abbrev Fr := List (Option D)
abbrev Hs := List Ob
abbrev EF := Fr → Hs → Option (D × Hs)
abbrev AF := Fr → Hs → Option (List D × Hs)
inductive Out where
  | nx (σ : Fr) (h : Hs)
  | rt (d : D) (h : Hs)
  | bk (σ : Fr) (h : Hs)
  | ct (σ : Fr) (h : Hs)
abbrev SF := Fr → Hs → Option Out

/-! ### how they stand for the layer's values -/
structure Zx where
  P : Program
  w : World
  K : PySem.W.Frag

/-- a list that is to be read: tracked or known, nobody's to change -/
def Fr0 (O : Addr → Prop) (ρ : List Addr) (H : Hp) (a : Addr) (vs : List V) : Prop := H a = some (.lst vs) ∧ a ∉ ρ ∧ ¬ O a
/-- the script: known, nobody's to change -/
def Fz (K : PySem.W.Frag) (O : Addr → Prop) (ρ : List Addr) (H : Hp) (a : Addr) (vs : List V) : Prop :=
  (Rd H a (.lst vs) ∧ a ∉ ρ ∧ ¬ O a) ∨
    ∃ (o : Obj) (its : Array Value) (n : Nat), K.lookup a = some o ∧ o.cls = .type "list" ∧ o.dict = none ∧ o.data = .seq its n ∧ its.size ≤ sizeLine ∧ Vals vs its.toList

/-- keys of a dict: all whole numbers, or all tuples of such (nested) -/
def D.nk : D → NestedKey
  | .non => .none
  | .bl b => .num (if b then 1 else 0)
  | .int i => .num i
  | .str x => .text x
  | .tup xs => .tup (nkA xs)
  | _ => .none
where nkA : List D → List NestedKey
  | [] => []
  | x :: xs => D.nk x :: nkA xs
mutual
def D.hk : D → Nat → Bool
  | .non, _ => true
  | .bl _, _ => true
  | .int _, _ => true
  | .str _, _ => true
  | .tup xs, n => match n with | 0 => false | m + 1 => hkA xs m
  | .lst _, _ => false
  | .dic _ _, _ => false
  | .ref _, _ => false
  | .scr _, _ => false
def hkA : List D → Nat → Bool
  | [], _ => true
  | x :: xs, n => D.hk x n && hkA xs n
end
def keysT0 : List D → Bool
  | [] => true
  | .tup xs :: r => hkA xs 7 && keysT0 r
  | _ :: _ => false
def keysT (ks : List D) : Bool := !ks.isEmpty && keysT0 ks
/-- a dict whose keys are tuples, as the object at a: its keys, their tuples, its values -/
def DPhi (P : Program) (w : World) (a : Addr) (ks : List NestedKey) (bs : List Addr) (us : List V) : Heap → Prop := fun h => ks.length ≤ sizeLine ∧ (a == sysModules) = false ∧
  ∃ xs : List (NestedKey × Addr × Value), xs.map (·.1) = ks ∧ xs.map (·.2.1) = bs ∧ Vals us (xs.map (·.2.2)) ∧
    ∃ o es ep, h.get? a = some o ∧ o.ExactDict ∧ o.data = .dict es ep ∧ es.toList = xs.map (entryOfKey (nestedKind P w)) ∧ ks.Nodup
section
variable (Z : Zx) (O : Addr → Prop) (ρ : List Addr) (H : Hp)
mutual
inductive Rep : D → V → Prop
  | non : Rep .non .non
  | bl (b) : Rep (.bl b) (.bl b)
  | int (i) : Rep (.int i) (.int i)
  | str (x) : Rep (.str x) (.str x)
  | tup {xs a vs} : H a = some (.tup vs) → a ∉ ρ → Reps xs vs → Rep (.tup xs) (.ref a)
  | lst {xs a vs} : Fr0 O ρ H a vs → Reps xs vs → Rep (.lst xs) (.ref a)
  | scr {xs a vs} : Fz Z.K O ρ H a vs → Reps xs vs → Rep (.scr xs) (.ref a)
  | ref {n a} : ρ[n]? = some a → Rep (.ref n) (.ref a)
  | dicK {ks us a od} {l : List (Key × V)} : H a = some (.frz od (.dK l)) → a ∉ ρ → ¬ O a → Reps ks (l.map fun p => kV p.1) → Reps us (l.map (·.2)) → Rep (.dic ks us) (.ref a)
  | dicT {ks us a od vs} {bs : List Addr} : H a = some (.frz od (.ext (DPhi Z.P Z.w a (D.nk.nkA ks) bs vs))) → a ∉ ρ → ¬ O a → keysT ks = true → Reps ks (bs.map V.ref) → Reps us vs → Rep (.dic ks us) (.ref a)
inductive Reps : List D → List V → Prop
  | nil : Reps [] []
  | cons {d v ds vs} : Rep d v → Reps ds vs → Reps (d :: ds) (v :: vs)
end
end

/-- what has come since: new objects of ours, the others as they stood -/
structure Mv (ρ : List Addr) (H : Hp) (ρ' : List Addr) (H' : Hp) : Prop where
  pre : ∃ l, ρ' = ρ ++ l ∧ ∀ a ∈ l, H a = none
  keep : ∀ a o, H a = some o → a ∉ ρ → H' a = some o
theorem Mv.refl {ρ : List Addr} {H : Hp} : Mv ρ H ρ H := ⟨⟨[], by simp, by simp⟩, fun _ _ h _ => h⟩
theorem Mv.out {ρ ρ' : List Addr} {H H' : Hp} {a : Addr} {o : HO} (m : Mv ρ H ρ' H') (h : H a = some o) (n : a ∉ ρ) : a ∉ ρ' := by
  obtain ⟨l, e, hl⟩ := m.pre
  rw [e, List.mem_append]
  rintro (x | x)
  · exact n x
  · rw [hl a x] at h; cases h
theorem Mv.at {ρ ρ' : List Addr} {H H' : Hp} {a : Addr} {n : Nat} (m : Mv ρ H ρ' H') (h : ρ[n]? = some a) : ρ'[n]? = some a := by
  obtain ⟨l, e, hl⟩ := m.pre
  rw [e, List.getElem?_append_left (List.getElem?_eq_some_iff.mp h).1]
  exact h

theorem Fz.mv {K : PySem.W.Frag} {O : Addr → Prop} {ρ ρ' : List Addr} {H H' : Hp} {a : Addr} {vs : List V} (m : Mv ρ H ρ' H') (f : Fz K O ρ H a vs) : Fz K O ρ' H' a vs := by
  rcases f with ⟨r, n, o⟩ | f
  · rcases r with r | ⟨ob, r⟩
    · exact .inl ⟨.inl (m.keep a _ r n), m.out r n, o⟩
    · exact .inl ⟨.inr ⟨ob, m.keep a _ r n⟩, m.out r n, o⟩
  · exact .inr f
theorem Fz.sq {K : PySem.W.Frag} {O : Addr → Prop} {ρ : List Addr} {H : Hp} {a : Addr} {vs : List V} (f : Fz K O ρ H a vs) : SqL K H a vs := by
  rcases f with ⟨r, _⟩ | f
  · exact .inl r
  · exact .inr f

mutual
theorem Rep.mv {Z : Zx} {O : Addr → Prop} {ρ ρ' : List Addr} {H H' : Hp} (m : Mv ρ H ρ' H') : ∀ {d : D} {v : V}, Rep Z O ρ H d v → Rep Z O ρ' H' d v
  | _, _, .non => .non
  | _, _, .bl b => .bl b
  | _, _, .int i => .int i
  | _, _, .str x => .str x
  | _, _, .tup h n r => .tup (m.keep _ _ h n) (m.out h n) (Reps.mv m r)
  | _, _, .lst f r => .lst ⟨m.keep _ _ f.1 f.2.1, m.out f.1 f.2.1, f.2.2⟩ (Reps.mv m r)
  | _, _, .scr f r => .scr (f.mv m) (Reps.mv m r)
  | _, _, .ref h => .ref (m.at h)
  | _, _, .dicK h n o r t => .dicK (m.keep _ _ h n) (m.out h n) o (Reps.mv m r) (Reps.mv m t)
  | _, _, .dicT h n o q r t => .dicT (m.keep _ _ h n) (m.out h n) o q (Reps.mv m r) (Reps.mv m t)
theorem Reps.mv {Z : Zx} {O : Addr → Prop} {ρ ρ' : List Addr} {H H' : Hp} (m : Mv ρ H ρ' H') : ∀ {ds : List D} {vs : List V}, Reps Z O ρ H ds vs → Reps Z O ρ' H' ds vs
  | _, _, .nil => .nil
  | _, _, .cons h t => .cons (Rep.mv m h) (Reps.mv m t)
end
theorem Mv.trans {ρ ρ' ρ2 : List Addr} {H H' H2 : Hp} (m : Mv ρ H ρ' H') (n : Mv ρ' H' ρ2 H2) (hd : ∀ a ∈ ρ', ∃ o, H' a = some o) : Mv ρ H ρ2 H2 := by
  obtain ⟨l, e, hl⟩ := m.pre
  obtain ⟨l2, e2, hl2⟩ := n.pre
  refine ⟨⟨l ++ l2, by rw [e2, e, List.append_assoc], fun a ha => ?_⟩, fun a o h k => n.keep a o (m.keep a o h k) (m.out h k)⟩
  rcases List.mem_append.mp ha with q | q
  · exact hl a q
  · cases z : H a with
    | none => rfl
    | some o =>
      by_cases ka : a ∈ ρ
      · obtain ⟨o', ho⟩ := hd a (by rw [e]; exact List.mem_append_left _ ka)
        rw [hl2 a q] at ho; cases ho
      · have := m.keep a o z ka
        rw [hl2 a q] at this; cases this

section
variable {Z : Zx} {O : Addr → Prop} {ρ : List Addr} {H : Hp}
theorem Reps.length : ∀ {ds : List D} {vs : List V}, Reps Z O ρ H ds vs → ds.length = vs.length
  | _, _, .nil => rfl
  | _, _, .cons _ t => by rw [List.length_cons, List.length_cons, t.length]
theorem Reps.get : ∀ {ds : List D} {vs : List V} {i : Nat} {d : D}, Reps Z O ρ H ds vs → ds[i]? = some d → ∃ v, vs[i]? = some v ∧ Rep Z O ρ H d v
  | _, _, _, _, .nil, e => by simp at e
  | _, _, 0, _, .cons h _, e => by simp at e; subst e; exact ⟨_, rfl, h⟩
  | _, _, i + 1, d, .cons _ t, e => by
    obtain ⟨v, h1, h2⟩ := Reps.get (i := i) (d := d) t (by simpa using e)
    exact ⟨v, by simpa using h1, h2⟩
theorem Reps.getV : ∀ {ds : List D} {vs : List V} {i : Nat} {v : V}, Reps Z O ρ H ds vs → vs[i]? = some v → ∃ d, ds[i]? = some d ∧ Rep Z O ρ H d v
  | _, _, _, _, .nil, e => by simp at e
  | _, _, 0, _, .cons h _, e => by simp at e; subst e; exact ⟨_, rfl, h⟩
  | _, _, i + 1, v, .cons _ t, e => by
    obtain ⟨d, h1, h2⟩ := Reps.getV (i := i) (v := v) t (by simpa using e)
    exact ⟨d, by simpa using h1, h2⟩
theorem Reps.append : ∀ {ds es : List D} {vs us : List V}, Reps Z O ρ H ds vs → Reps Z O ρ H es us → Reps Z O ρ H (ds ++ es) (vs ++ us)
  | _, _, _, _, .nil, s => s
  | _, _, _, _, .cons r t, s => .cons r (Reps.append t s)
theorem Reps.set {x : D} {u : V} (r : Rep Z O ρ H x u) : ∀ {ds : List D} {vs : List V} (i : Nat), Reps Z O ρ H ds vs → Reps Z O ρ H (ds.set i x) (vs.set i u)
  | _, _, _, .nil => .nil
  | _, _, 0, .cons _ t => .cons r t
  | _, _, i + 1, .cons q t => .cons q (Reps.set r i t)
theorem Reps.take : ∀ {ds : List D} {vs : List V} (n : Nat), Reps Z O ρ H ds vs → Reps Z O ρ H (ds.take n) (vs.take n)
  | _, _, 0, _ => .nil
  | _, _, _ + 1, .nil => .nil
  | _, _, n + 1, .cons r t => .cons r (Reps.take n t)
theorem Reps.drop : ∀ {ds : List D} {vs : List V} (n : Nat), Reps Z O ρ H ds vs → Reps Z O ρ H (ds.drop n) (vs.drop n)
  | _, _, 0, r => r
  | _, _, _ + 1, .nil => .nil
  | _, _, n + 1, .cons _ t => Reps.drop n t
theorem Reps.reverse : ∀ {ds : List D} {vs : List V}, Reps Z O ρ H ds vs → Reps Z O ρ H ds.reverse vs.reverse
  | _, _, .nil => .nil
  | _, _, .cons r t => by rw [List.reverse_cons, List.reverse_cons]; exact t.reverse.append (.cons r .nil)
theorem Reps.nil_of {vs : List V} : Reps Z O ρ H [] vs → vs = [] | .nil => rfl
theorem Reps.consD {d : D} {ds : List D} {vs : List V} : Reps Z O ρ H (d :: ds) vs → ∃ v r, vs = v :: r ∧ Rep Z O ρ H d v ∧ Reps Z O ρ H ds r | .cons h t => ⟨_, _, rfl, h, t⟩
theorem Reps.consV {v : V} {ds : List D} {vs : List V} : Reps Z O ρ H ds (v :: vs) → ∃ d r, ds = d :: r ∧ Rep Z O ρ H d v ∧ Reps Z O ρ H r vs | .cons h t => ⟨_, _, rfl, h, t⟩
theorem Reps.snoc {ds : List D} {vs : List V} {d : D} {v : V} (r : Reps Z O ρ H ds vs) (h : Rep Z O ρ H d v) : Reps Z O ρ H (ds ++ [d]) (vs ++ [v]) := r.append (.cons h .nil)
theorem Rep.intE {i : Int} {v : V} : Rep Z O ρ H (.int i) v → v = .int i | .int _ => rfl
theorem Rep.blE {b : Bool} {v : V} : Rep Z O ρ H (.bl b) v → v = .bl b | .bl _ => rfl
theorem Rep.strE {x : Str} {v : V} : Rep Z O ρ H (.str x) v → v = .str x | .str _ => rfl
theorem Rep.nonE {v : V} : Rep Z O ρ H .non v → v = .non | .non => rfl
theorem Rep.tupE {xs : List D} {v : V} : Rep Z O ρ H (.tup xs) v → ∃ a vs, v = .ref a ∧ H a = some (.tup vs) ∧ a ∉ ρ ∧ Reps Z O ρ H xs vs | .tup h n r => ⟨_, _, rfl, h, n, r⟩
theorem Rep.lstE {xs : List D} {v : V} : Rep Z O ρ H (.lst xs) v → ∃ a vs, v = .ref a ∧ Fr0 O ρ H a vs ∧ Reps Z O ρ H xs vs | .lst h r => ⟨_, _, rfl, h, r⟩
theorem Rep.scrE {xs : List D} {v : V} : Rep Z O ρ H (.scr xs) v → ∃ a vs, v = .ref a ∧ Fz Z.K O ρ H a vs ∧ Reps Z O ρ H xs vs | .scr h r => ⟨_, _, rfl, h, r⟩
theorem Rep.refE {n : Nat} {v : V} : Rep Z O ρ H (.ref n) v → ∃ a, v = .ref a ∧ ρ[n]? = some a | .ref h => ⟨_, rfl, h⟩
end

/-- a local object -/
def RepO (Z : Zx) (O : Addr → Prop) (ρ : List Addr) (H : Hp) (a : Addr) : Ob → Prop
  | .lst xs => ∃ vs, H a = some (.lst vs) ∧ Reps Z O ρ H xs vs
  | .dic ks us => (∃ l : List (Key × V), H a = some (.dK l) ∧ Reps Z O ρ H ks (l.map fun p => kV p.1) ∧ Reps Z O ρ H us (l.map (·.2))) ∨
    ∃ (bs : List Addr) (vs : List V), H a = some (.ext (DPhi Z.P Z.w a (D.nk.nkA ks) bs vs)) ∧ keysT ks = true ∧ Reps Z O ρ H ks (bs.map V.ref) ∧ Reps Z O ρ H us vs ∧ us.length = ks.length
structure Rl (Z : Zx) (O : Addr → Prop) (ρ : List Addr) (h : Hs) (H : Hp) : Prop where
  len : ρ.length = h.length
  nd : ρ.Nodup
  dis : ∀ a ∈ ρ, ¬ O a
  dom : ∀ a, O a → ∃ o, H a = some o
  obj : ∀ (n : Nat) (a : Addr) (o : Ob), ρ[n]? = some a → h[n]? = some o → RepO Z O ρ H a o
theorem RepO.there {Z : Zx} {O : Addr → Prop} {ρ : List Addr} {H : Hp} {a : Addr} {o : Ob} (r : RepO Z O ρ H a o) : ∃ u, H a = some u := by
  cases o with
  | lst xs => obtain ⟨vs, h, _⟩ := r; exact ⟨_, h⟩
  | dic ks vs => rcases r with ⟨_, h, _⟩ | ⟨_, _, h, _⟩ <;> exact ⟨_, h⟩
theorem Rl.there {Z : Zx} {O : Addr → Prop} {ρ : List Addr} {h : Hs} {H : Hp} (R : Rl Z O ρ h H) {a : Addr} (ha : a ∈ ρ) : ∃ o, H a = some o := by
  obtain ⟨n, hn, e⟩ := List.getElem_of_mem ha
  have h1 : ρ[n]? = some a := by rw [List.getElem?_eq_getElem hn, e]
  have h2 : h[n]? = some (h[n]'(by rw [← R.len]; exact hn)) := List.getElem?_eq_getElem (by rw [← R.len]; exact hn)
  exact (R.obj n a _ h1 h2).there
theorem Rl.ob {Z : Zx} {O : Addr → Prop} {ρ : List Addr} {h : Hs} {H : Hp} (R : Rl Z O ρ h H) {n : Nat} {a : Addr} (e : ρ[n]? = some a) : ∃ o, h[n]? = some o ∧ RepO Z O ρ H a o := by
  have hn := (List.getElem?_eq_some_iff.mp e).1
  have h2 : h[n]? = some (h[n]'(by rw [← R.len]; exact hn)) := List.getElem?_eq_getElem (by rw [← R.len]; exact hn)
  exact ⟨_, h2, R.obj n a _ e h2⟩

/-- the slots -/
def RepS (Z : Zx) (O : Addr → Prop) (ρ : List Addr) (H : Hp) (σ : Fr) (τ : L2.St) : Prop := σ.length = τ.length ∧ ∀ (i : Nat) (d : D), σ[i]? = some (some d) → ∃ v, τ[i]? = some (some v) ∧ Rep Z O ρ H d v
theorem RepS.mv {Z : Zx} {O : Addr → Prop} {ρ ρ' : List Addr} {H H' : Hp} {σ : Fr} {τ : L2.St} (m : Mv ρ H ρ' H') (r : RepS Z O ρ H σ τ) : RepS Z O ρ' H' σ τ :=
  ⟨r.1, fun i d e => let ⟨v, h1, h2⟩ := r.2 i d e; ⟨v, h1, h2.mv m⟩⟩
theorem RepS.set {Z : Zx} {O : Addr → Prop} {ρ : List Addr} {H : Hp} {σ : Fr} {τ : L2.St} {d : D} {v : V} (r : RepS Z O ρ H σ τ) (i : Nat) (h : Rep Z O ρ H d v) : RepS Z O ρ H (σ.set i (some d)) (τ.set i (some v)) := by
  refine ⟨by rw [List.length_set, List.length_set, r.1], fun j x e => ?_⟩
  by_cases hij : i = j
  · subst hij
    by_cases hl : i < σ.length
    · rw [List.getElem?_set_self hl] at e
      cases e
      exact ⟨v, List.getElem?_set_self (by rw [← r.1]; exact hl), h⟩
    · rw [List.getElem?_eq_none (by rw [List.length_set]; omega)] at e; cases e
  · rw [List.getElem?_set_ne hij] at e
    obtain ⟨u, h1, h2⟩ := r.2 j x e
    exact ⟨u, by rw [List.getElem?_set_ne hij]; exact h1, h2⟩

/-- all that holds at a place -/
structure Rw (Z : Zx) (O : Addr → Prop) (ρ : List Addr) (σ : Fr) (h : Hs) (τ : L2.St) (H : Hp) : Prop where
  l : Rl Z O ρ h H
  s : RepS Z O ρ H σ τ

/-! ### readings -/
/-- lists and tuples have a largest length -/
def BH (K : PySem.W.Frag) (H : Hp) : Prop := (∀ a xs, SqL K H a xs → xs.length ≤ sizeLine) ∧ (∀ a xs, SqT K H a xs → xs.length ≤ sizeLine)
theorem bh_of {X : Cx} {pins : List (Addr × Obj)} {τ : L2.St} {H : Hp} {s : Shared} (I : Inv X pins τ H s) : BH X.K H :=
  ⟨fun a xs h => (I.list h).elim fun _ q => q.2.2, fun a xs h => (I.tuple h).elim fun _ q => q.2.2⟩
def Zx.of (X : Cx) : Zx := ⟨X.prog, X.w, X.K⟩
def tE (Z : Zx) (f : EF) : TE := fun τ H Q => BH Z.K H → ∃ O ρ σ h d h', Rw Z O ρ σ h τ H ∧ f σ h = some (d, h') ∧
  ∀ v ρ' H', BH Z.K H' → Mv ρ H ρ' H' → Rl Z O ρ' h' H' → Rep Z O ρ' H' d v → Q v H'
/-- as a test -/
def tT (Z : Zx) (f : EF) : TT := fun τ H Q => BH Z.K H → ∃ O ρ σ h b h', Rw Z O ρ σ h τ H ∧ f σ h = some (.bl b, h') ∧
  ∀ ρ' H', BH Z.K H' → Mv ρ H ρ' H' → Rl Z O ρ' h' H' → Q b H'
def tA (Z : Zx) (f : AF) : TA := fun τ H Q => BH Z.K H → ∃ O ρ σ h ds h', Rw Z O ρ σ h τ H ∧ f σ h = some (ds, h') ∧
  ∀ vs ρ' H', BH Z.K H' → Mv ρ H ρ' H' → Rl Z O ρ' h' H' → Reps Z O ρ' H' ds vs → Q vs H'
def endOk (Z : Zx) (O : Addr → Prop) (ρ : List Addr) (H : Hp) (De : Ends) : Out → Prop
  | .nx σ' h' => ∀ τ' ρ' H', BH Z.K H' → Mv ρ H ρ' H' → Rw Z O ρ' σ' h' τ' H' → De.nx τ' H'
  | .bk σ' h' => ∀ τ' ρ' H', BH Z.K H' → Mv ρ H ρ' H' → Rw Z O ρ' σ' h' τ' H' → De.bk τ' H'
  | .ct σ' h' => ∀ τ' ρ' H', BH Z.K H' → Mv ρ H ρ' H' → Rw Z O ρ' σ' h' τ' H' → De.ct τ' H'
  | .rt d h' => ∀ v ρ' H', BH Z.K H' → Mv ρ H ρ' H' → Rl Z O ρ' h' H' → Rep Z O ρ' H' d v → De.rt v H'
def tS (Z : Zx) (f : SF) : TS := fun De τ H => BH Z.K H → ∃ O ρ σ h o, Rw Z O ρ σ h τ H ∧ f σ h = some o ∧ endOk Z O ρ H De o
def SE (X : Cx) (e : Expr) (f : EF) : Prop := PE X e (tE (Zx.of X) f)
def ST (X : Cx) (e : Expr) (f : EF) : Prop := PT X e (tT (Zx.of X) f)
def SA (X : Cx) (es : List Expr) (f : AF) : Prop := PA X es (tA (Zx.of X) f)
def SS (X : Cx) (st : Stmt) (f : SF) : Prop := PS X st (tS (Zx.of X) f)
def SSs (X : Cx) (st : List Stmt) (f : SF) : Prop := PSs X st (tS (Zx.of X) f)

section
variable {X : Cx}
theorem imE {e : Expr} {t u : TE} (h : PE X e t) (k : ∀ τ H Q, BH X.K H → u τ H Q → t τ H fun v H' => BH X.K H' → Q v H') : PE X e u := ⟨fun p s τ H Q I q =>
  thn (h.run p s τ H _ I (k τ H Q (bh_of I) q)) fun _ _ ⟨v, H', I', r, q⟩ => ⟨v, H', I', r, q (bh_of I')⟩⟩
theorem imT {e : Expr} {t u : TT} (h : PT X e t) (k : ∀ τ H Q, BH X.K H → u τ H Q → t τ H fun v H' => BH X.K H' → Q v H') : PT X e u := ⟨fun p s τ H Q I q =>
  thn (h.run p s τ H _ I (k τ H Q (bh_of I) q)) fun _ _ ⟨H', I', q⟩ => ⟨H', I', q (bh_of I')⟩⟩
theorem imA {es : List Expr} {t u : TA} (h : PA X es t) (k : ∀ τ H Q, BH X.K H → u τ H Q → t τ H fun v H' => BH X.K H' → Q v H') : PA X es u := ⟨fun o p s τ H Q I q =>
  thn (h.run o p s τ H _ I (k τ H Q (bh_of I) q)) fun _ _ ⟨v, H', I', r, q⟩ => ⟨v, H', I', r, q (bh_of I')⟩⟩
def bhEnds (K : PySem.W.Frag) (De : Ends) : Ends := { nx := fun τ H => BH K H → De.nx τ H, rt := fun v H => BH K H → De.rt v H, bk := fun τ H => BH K H → De.bk τ H, ct := fun τ H => BH K H → De.ct τ H }
theorem sp_bh {pins : List (Addr × Obj)} {De : Ends} {f : Flow} {s : Shared} (h : SP X pins (bhEnds X.K De) f s) : SP X pins De f s := by
  cases f with
  | next => obtain ⟨τ, H, I, q⟩ := h; exact ⟨τ, H, I, q (bh_of I)⟩
  | brk => obtain ⟨τ, H, I, q⟩ := h; exact ⟨τ, H, I, q (bh_of I)⟩
  | cont => obtain ⟨τ, H, I, q⟩ := h; exact ⟨τ, H, I, q (bh_of I)⟩
  | ret u => obtain ⟨v, τ, H, I, r, q⟩ := h; exact ⟨v, τ, H, I, r, q (bh_of I)⟩
theorem imS {st : Stmt} {t u : TS} (h : PS X st t) (k : ∀ De τ H, BH X.K H → u De τ H → t (bhEnds X.K De) τ H) : PS X st u := ⟨fun p s τ H De I q =>
  thn (h.run p s τ H _ I (k De τ H (bh_of I) q)) fun _ _ q => sp_bh q⟩
theorem imSs {st : List Stmt} {t u : TS} (h : PSs X st t) (k : ∀ De τ H, BH X.K H → u De τ H → t (bhEnds X.K De) τ H) : PSs X st u := ⟨fun p s τ H De I q =>
  thn (h.run p s τ H _ I (k De τ H (bh_of I) q)) fun _ _ q => sp_bh q⟩
end

section
variable {Z : Zx} {O : Addr → Prop} {ρ ρ' : List Addr} {σ : Fr} {h h' : Hs} {τ : L2.St} {H H' : Hp}
theorem Rw.mv (R : Rw Z O ρ σ h τ H) (m : Mv ρ H ρ' H') (r : Rl Z O ρ' h' H') : Rw Z O ρ' σ h' τ H' := ⟨r, R.s.mv m⟩
theorem Rw.tr {ρ2 : List Addr} {H2 : Hp} (m : Mv ρ H ρ' H') (r : Rl Z O ρ' h' H') (n : Mv ρ' H' ρ2 H2) : Mv ρ H ρ2 H2 := m.trans n fun _ ha => r.there ha

/-- two in a row -/
theorem two {fa fb : EF} {d1 d2 : D} {h1 h2 : Hs} (R : Rw Z O ρ σ h τ H) (ea : fa σ h = some (d1, h1)) (eb : fb σ h1 = some (d2, h2)) {Q : V → V → Hp → Prop}
    (k : ∀ v1 v2 ρ' H', BH Z.K H' → Mv ρ H ρ' H' → Rl Z O ρ' h2 H' → Rep Z O ρ' H' d1 v1 → Rep Z O ρ' H' d2 v2 → Q v1 v2 H') :
    tE Z fa τ H fun x H1 => tE Z fb τ H1 fun y H2 => Q x y H2 :=
  fun _ => ⟨O, ρ, σ, h, d1, h1, R, ea, fun v1 ρ1 H1 _ m1 r1 p1 _ => ⟨O, ρ1, σ, h1, d2, h2, R.mv m1 r1, eb, fun v2 ρ2 H2 b2 m2 r2 p2 => k v1 v2 ρ2 H2 b2 (Rw.tr m1 r1 m2) r2 (p1.mv m2) p2⟩⟩
theorem one {fa : EF} {d1 : D} {h1 : Hs} (R : Rw Z O ρ σ h τ H) (ea : fa σ h = some (d1, h1)) {Q : V → Hp → Prop}
    (k : ∀ v1 ρ' H', BH Z.K H' → Mv ρ H ρ' H' → Rl Z O ρ' h1 H' → Rep Z O ρ' H' d1 v1 → Q v1 H') : tE Z fa τ H Q := fun _ => ⟨O, ρ, σ, h, d1, h1, R, ea, k⟩
/-- a new object that is nobody's: the state goes on -/
theorem fresh_mv {p : Addr} {o : HO} (hp : H p = none) : Mv ρ H ρ (upd H p o) := ⟨⟨[], by simp, by simp⟩, fun a u e _ => by rw [upd_ne (ne_of_none e hp)]; exact e⟩
theorem RepO.mv {a : Addr} {o : Ob} (m : Mv ρ H ρ' H') (e : H' a = H a) (r : RepO Z O ρ H a o) : RepO Z O ρ' H' a o := by
  cases o with
  | lst xs => obtain ⟨vs, h1, h2⟩ := r; exact ⟨vs, by rw [e]; exact h1, h2.mv m⟩
  | dic ks vs =>
    rcases r with ⟨l, h1, h2, h3⟩ | ⟨bs, vs, h1, h2, h3, h4, h5⟩
    · exact .inl ⟨l, by rw [e]; exact h1, h2.mv m, h3.mv m⟩
    · exact .inr ⟨bs, vs, by rw [e]; exact h1, h2, h3.mv m, h4.mv m, h5⟩
theorem Rl.fresh {p : Addr} {o : HO} (R : Rl Z O ρ h H) (hp : H p = none) : Rl Z O ρ h (upd H p o) := by
  refine ⟨R.len, R.nd, R.dis, fun a ha => ?_, fun n a u e1 e2 => ?_⟩
  · obtain ⟨u, e⟩ := R.dom a ha
    exact ⟨u, by rw [upd_ne (ne_of_none e hp)]; exact e⟩
  · have r := R.obj n a u e1 e2
    obtain ⟨z, hz⟩ := r.there
    exact r.mv (fresh_mv hp) (upd_ne (ne_of_none hz hp))
theorem Rl.free {p : Addr} (R : Rl Z O ρ h H) (hp : H p = none) : p ∉ ρ ∧ ¬ O p := by
  refine ⟨fun m => ?_, fun m => ?_⟩
  · obtain ⟨o, e⟩ := R.there m
    rw [hp] at e; cases e
  · obtain ⟨o, e⟩ := R.dom p m
    rw [hp] at e; cases e
/-- a new tuple -/
theorem new_tup {p : Addr} {ds : List D} {vs : List V} (R : Rl Z O ρ h H) (hp : H p = none) (r : Reps Z O ρ H ds vs) : Rep Z O ρ (upd H p (.tup vs)) (.tup ds) (.ref p) :=
  .tup upd_same (R.free hp).1 (r.mv (fresh_mv hp))
/-- a new list that nobody changes -/
theorem new_lst {p : Addr} {ds : List D} {vs : List V} (R : Rl Z O ρ h H) (hp : H p = none) (r : Reps Z O ρ H ds vs) : Rep Z O ρ (upd H p (.lst vs)) (.lst ds) (.ref p) :=
  .lst ⟨upd_same, R.free hp⟩ (r.mv (fresh_mv hp))
end
end TB
namespace TB
open PySem PySem.Spec PyProof.Rows L2

/-! ### values: data, equality -/
mutual
def D.toP : D → PyData
  | .non => .none
  | .bl b => .bool b
  | .int i => .int i
  | .str x => .str x
  | .tup xs => .tuple (toPA xs)
  | .lst xs => .list (toPA xs)
  | .dic _ _ => .none
  | .ref _ => .none
  | .scr _ => .none
def toPA : List D → List PyData
  | [] => []
  | x :: xs => D.toP x :: toPA xs
end
mutual
/-- data of at most so many levels -/
def D.fit : D → Nat → Bool
  | .non, _ => true
  | .bl _, _ => true
  | .int _, _ => true
  | .str x, _ => PyData.strOk x
  | .tup xs, n => match n with | 0 => false | m + 1 => fitA xs m
  | .lst xs, n => match n with | 0 => false | m + 1 => fitA xs m
  | .dic _ _, _ => false
  | .ref _, _ => false
  | .scr _, _ => false
def fitA : List D → Nat → Bool
  | [], _ => true
  | x :: xs, n => D.fit x n && fitA xs n
end
mutual
def D.eqv : D → D → Bool
  | .non, y => match y with | .non => true | _ => false
  | .bl a, y => match y with | .bl b => a == b | .int j => (if a then 1 else 0) == j | _ => false
  | .int i, y => match y with | .bl b => i == (if b then 1 else 0) | .int j => i == j | _ => false
  | .str x, y => match y with | .str z => x == z | _ => false
  | .tup xs, y => match y with | .tup ys => eqvA xs ys | _ => false
  | .lst xs, y => match y with | .lst ys => eqvA xs ys | _ => false
  | .dic _ _, _ => false
  | .ref _, _ => false
  | .scr _, _ => false
def eqvA : List D → List D → Bool
  | [], ys => match ys with | [] => true | _ :: _ => false
  | x :: xs, ys => match ys with | [] => false | y :: ys => D.eqv x y && eqvA xs ys
end
mutual
theorem fit_shape : ∀ (d : D) (n : Nat), d.fit n = true → d.toP.canLay0 = true ∧ d.toP.depth ≤ n
  | .non, _, _ => ⟨rfl, Nat.zero_le _⟩
  | .bl _, _, _ => ⟨rfl, Nat.zero_le _⟩
  | .int _, _, _ => ⟨rfl, Nat.zero_le _⟩
  | .str x, _, h => ⟨by simpa [D.fit, D.toP, PyData.canLay0] using h, Nat.zero_le _⟩
  | .tup xs, 0, h => by simp [D.fit] at h
  | .lst xs, 0, h => by simp [D.fit] at h
  | .tup xs, n + 1, h => by
    have q := fit_shapeA xs n (by simpa [D.fit] using h)
    exact ⟨by simpa [D.toP, PyData.canLay0] using q.1, by simp only [D.toP, PyData.depth]; omega⟩
  | .lst xs, n + 1, h => by
    have q := fit_shapeA xs n (by simpa [D.fit] using h)
    exact ⟨by simpa [D.toP, PyData.canLay0] using q.1, by simp only [D.toP, PyData.depth]; omega⟩
  | .dic _ _, _, h => by simp [D.fit] at h
  | .ref _, _, h => by simp [D.fit] at h
  | .scr _, _, h => by simp [D.fit] at h
theorem fit_shapeA : ∀ (ds : List D) (n : Nat), fitA ds n = true → PyData.canLayAll0 (toPA ds) = true ∧ PyData.depthAll (toPA ds) ≤ n
  | [], _, _ => ⟨rfl, Nat.zero_le _⟩
  | x :: xs, n, h => by
    simp only [fitA, Bool.and_eq_true] at h
    have q := fit_shape x n h.1
    have r := fit_shapeA xs n h.2
    exact ⟨by simp [toPA, PyData.canLayAll0, q.1, r.1], by simp only [toPA, PyData.depthAll]; omega⟩
end
theorem fit_shaped {d : D} (h : d.fit 60 = true) : SeqAt.shaped d.toP = true := by
  have q := fit_shape d 60 h
  simp only [SeqAt.shaped, Bool.and_eq_true, decide_eq_true_eq]
  exact ⟨q.1, by omega⟩
mutual
theorem eqv_toP : ∀ (a b : D) (n m : Nat), a.fit n = true → b.fit m = true → PyData.eqv a.toP b.toP = a.eqv b
  | .non, b, _, _, _, hb => by cases b <;> simp_all [D.toP, PyData.eqv, D.eqv, D.fit]
  | .bl a, b, _, _, _, hb => by cases b <;> simp_all [D.toP, PyData.eqv, D.eqv, D.fit]
  | .int i, b, _, _, _, hb => by cases b <;> simp_all [D.toP, PyData.eqv, D.eqv, D.fit]
  | .str x, b, _, _, _, hb => by cases b <;> simp_all [D.toP, PyData.eqv, D.eqv, D.fit]
  | .tup xs, b, 0, _, ha, hb => by simp [D.fit] at ha
  | .lst xs, b, 0, _, ha, hb => by simp [D.fit] at ha
  | .tup xs, b, n + 1, m, ha, hb => by
    cases b with
    | tup ys =>
      cases m with
      | zero => simp [D.fit] at hb
      | succ m =>
        simp only [D.toP, PyData.eqv, D.eqv]
        exact eqv_toPA xs ys n m (by simpa [D.fit] using ha) (by simpa [D.fit] using hb)
    | _ => simp_all [D.toP, PyData.eqv, D.eqv, D.fit]
  | .lst xs, b, n + 1, m, ha, hb => by
    cases b with
    | lst ys =>
      cases m with
      | zero => simp [D.fit] at hb
      | succ m =>
        simp only [D.toP, PyData.eqv, D.eqv]
        exact eqv_toPA xs ys n m (by simpa [D.fit] using ha) (by simpa [D.fit] using hb)
    | _ => simp_all [D.toP, PyData.eqv, D.eqv, D.fit]
  | .dic _ _, _, _, _, h, _ => by simp [D.fit] at h
  | .ref _, _, _, _, h, _ => by simp [D.fit] at h
  | .scr _, _, _, _, h, _ => by simp [D.fit] at h
theorem eqv_toPA : ∀ (a b : List D) (n m : Nat), fitA a n = true → fitA b m = true → PyData.eqvAll (toPA a) (toPA b) = eqvA a b
  | [], [], _, _, _, _ => by simp [toPA, PyData.eqvAll, eqvA]
  | [], _ :: _, _, _, _, _ => by simp [toPA, PyData.eqvAll, eqvA]
  | _ :: _, [], _, _, _, _ => by simp [toPA, PyData.eqvAll, eqvA]
  | x :: xs, y :: ys, n, m, ha, hb => by
    simp only [fitA, Bool.and_eq_true] at ha hb
    simp only [toPA, PyData.eqvAll, eqvA]
    rw [eqv_toP x y n m ha.1 hb.1, eqv_toPA xs ys n m ha.2 hb.2]
end
section
variable {Z : Zx} {O : Addr → Prop} {ρ : List Addr} {H : Hp}
mutual
theorem Rep.dp : ∀ {d : D} {v : V} (n : Nat), d.fit n = true → Rep Z O ρ H d v → Dp Z.K H v d.toP
  | _, _, _, _, .non => .non
  | _, _, _, _, .bl b => .bl b
  | _, _, _, _, .int i => .int i
  | _, _, _, _, .str x => .str x
  | _, _, 0, h, .tup _ _ _ => by simp [D.fit] at h
  | _, _, 0, h, .lst _ _ => by simp [D.fit] at h
  | _, _, n + 1, h, .tup e _ r => by
    simp only [D.toP]
    exact .tup (SqT.of e) (Reps.dp n (by simpa [D.fit] using h) r)
  | _, _, n + 1, h, .lst f r => by
    simp only [D.toP]
    exact .lst (SqL.of f.1) (Reps.dp n (by simpa [D.fit] using h) r)
  | _, _, _, h, .ref _ => by simp [D.fit] at h
  | _, _, _, h, .dicK _ _ _ _ _ => by simp [D.fit] at h
  | _, _, _, h, .dicT _ _ _ _ _ _ => by simp [D.fit] at h
  | _, _, _, h, .scr _ _ => by simp [D.fit] at h
theorem Reps.dp : ∀ {ds : List D} {vs : List V} (n : Nat), fitA ds n = true → Reps Z O ρ H ds vs → DpAll Z.K H vs (toPA ds)
  | _, _, _, _, .nil => .nil
  | _, _, n, h, .cons q t => by
    simp only [fitA, Bool.and_eq_true] at h
    exact .cons (Rep.dp n h.1 q) (Reps.dp n h.2 t)
end
end

/-! ### views -/
def viewT : D → Option (List D) | .tup xs => some xs | _ => none
def viewL (h : Hs) : D → Option (List D)
  | .lst xs => some xs
  | .ref n => match h[n]? with | some (.lst xs) => some xs | _ => none
  | _ => none
section
variable {Z : Zx} {O : Addr → Prop} {ρ : List Addr} {h : Hs} {H : Hp}
theorem viewT_rep {d : D} {xs : List D} {v : V} (e : viewT d = some xs) (r : Rep Z O ρ H d v) : ∃ a vs, v = .ref a ∧ H a = some (.tup vs) ∧ a ∉ ρ ∧ Reps Z O ρ H xs vs := by
  cases d with
  | tup ys => simp only [viewT, Option.some.injEq] at e; subst e; exact r.tupE
  | _ => simp [viewT] at e
theorem viewL_rep {d : D} {xs : List D} {v : V} (R : Rl Z O ρ h H) (e : viewL h d = some xs) (r : Rep Z O ρ H d v) : ∃ a vs, v = .ref a ∧ H a = some (.lst vs) ∧ Reps Z O ρ H xs vs := by
  cases d with
  | lst ys =>
    simp only [viewL, Option.some.injEq] at e; subst e
    obtain ⟨a, vs, e, f, r⟩ := r.lstE
    exact ⟨a, vs, e, f.1, r⟩
  | ref n =>
    obtain ⟨a, rfl, hn⟩ := r.refE
    obtain ⟨o, ho, ro⟩ := R.ob hn
    simp only [viewL, ho] at e
    cases o with
    | lst ys => simp only [Option.some.injEq] at e; subst e; obtain ⟨vs, h1, h2⟩ := ro; exact ⟨a, vs, rfl, h1, h2⟩
    | dic _ _ => simp at e
  | _ => simp [viewL] at e
end
/-- the length and the items of a list, a tuple, the script -/
def viewQ (h : Hs) (d : D) : Option (List D) := match d with | .tup xs => some xs | .scr xs => some xs | d => viewL h d
theorem viewQ_rep {Z : Zx} {O : Addr → Prop} {ρ : List Addr} {h : Hs} {H : Hp} {d : D} {xs : List D} {v : V} (R : Rl Z O ρ h H) (e : viewQ h d = some xs) (r : Rep Z O ρ H d v) :
    ∃ a vs, v = .ref a ∧ (SqL Z.K H a vs ∨ SqT Z.K H a vs) ∧ Reps Z O ρ H xs vs := by
  cases d with
  | tup ys => simp only [viewQ, Option.some.injEq] at e; subst e; obtain ⟨a, vs, e, f, _, r⟩ := r.tupE; exact ⟨a, vs, e, .inr (SqT.of f), r⟩
  | scr ys => simp only [viewQ, Option.some.injEq] at e; subst e; obtain ⟨a, vs, e, f, r⟩ := r.scrE; exact ⟨a, vs, e, .inl f.sq, r⟩
  | lst ys => obtain ⟨a, vs, e, f, r⟩ := viewL_rep R (show viewL h (.lst ys) = some xs from e) r; exact ⟨a, vs, e, .inl (SqL.of f), r⟩
  | ref n => obtain ⟨a, vs, e, f, r⟩ := viewL_rep R (show viewL h (.ref n) = some xs from e) r; exact ⟨a, vs, e, .inl (SqL.of f), r⟩
  | non => simp [viewQ, viewL] at e
  | bl _ => simp [viewQ, viewL] at e
  | int _ => simp [viewQ, viewL] at e
  | str _ => simp [viewQ, viewL] at e
  | dic _ _ => simp [viewQ, viewL] at e

/-! ### functions -/
def szL : Nat := 16777216
theorem szL_eq : szL = sizeLine := by rw [sizeLine_eq]; rfl
def eVar (i : Nat) : EF := fun σ h => match σ[i]? with | some (some d) => some (d, h) | _ => none
def eC (d : D) : EF := fun _ h => some (d, h)
def bin2 (fa fb : EF) (op : Hs → D → D → Option D) : EF := fun σ h => match fa σ h with
  | none => none
  | some (a, h1) => match fb σ h1 with
    | none => none
    | some (b, h2) => match op h2 a b with
      | none => none
      | some c => some (c, h2)
def un1 (fa : EF) (op : Hs → D → Option D) : EF := fun σ h => match fa σ h with
  | none => none
  | some (a, h1) => match op h1 a with
    | none => none
    | some c => some (c, h1)
theorem bin2_some {fa fb : EF} {op : Hs → D → D → Option D} {σ : Fr} {h h' : Hs} {d : D} (e : bin2 fa fb op σ h = some (d, h')) :
    ∃ a h1 b, fa σ h = some (a, h1) ∧ fb σ h1 = some (b, h') ∧ op h' a b = some d := by
  unfold bin2 at e
  cases ea : fa σ h with
  | none => rw [ea] at e; cases e
  | some p =>
    obtain ⟨a, h1⟩ := p
    rw [ea] at e
    cases eb : fb σ h1 with
    | none => simp only [eb] at e; cases e
    | some q =>
      obtain ⟨b, h2⟩ := q
      simp only [eb] at e
      cases ec : op h2 a b with
      | none => simp only [ec] at e; cases e
      | some c => simp only [ec, Option.some.injEq, Prod.mk.injEq] at e; obtain ⟨rfl, rfl⟩ := e; exact ⟨a, h1, b, rfl, eb, ec⟩
theorem un1_some {fa : EF} {op : Hs → D → Option D} {σ : Fr} {h h' : Hs} {d : D} (e : un1 fa op σ h = some (d, h')) :
    ∃ a, fa σ h = some (a, h') ∧ op h' a = some d := by
  unfold un1 at e
  cases ea : fa σ h with
  | none => rw [ea] at e; cases e
  | some p =>
    obtain ⟨a, h1⟩ := p
    rw [ea] at e
    cases ec : op h1 a with
    | none => simp only [ec] at e; cases e
    | some c => simp only [ec, Option.some.injEq, Prod.mk.injEq] at e; obtain ⟨rfl, rfl⟩ := e; exact ⟨a, rfl, ec⟩

/-- an operator that makes its value out of two -/
def OpOk (X : Cx) (r : R2) (op : Hs → D → D → Option D) : Prop := ∀ (O : Addr → Prop) (ρ : List Addr) (h : Hs) (H : Hp) (a b d : D) (x y : V) (Q : VK), BH X.K H → Rl (Zx.of X) O ρ h H → Rep (Zx.of X) O ρ H a x → Rep (Zx.of X) O ρ H b y → op h a b = some d →
  (∀ v H', Mv ρ H ρ H' → Rl (Zx.of X) O ρ h H' → Rep (Zx.of X) O ρ H' d v → Q v H') → r x y H Q
def UnOk (X : Cx) (r : V → Hp → VK → Prop) (op : Hs → D → Option D) : Prop := ∀ (O : Addr → Prop) (ρ : List Addr) (h : Hs) (H : Hp) (a d : D) (x : V) (Q : VK), BH X.K H → Rl (Zx.of X) O ρ h H → Rep (Zx.of X) O ρ H a x → op h a = some d →
  (∀ v H', Mv ρ H ρ H' → Rl (Zx.of X) O ρ h H' → Rep (Zx.of X) O ρ H' d v → Q v H') → r x H Q
section
variable {X : Cx} {fa fb fc : EF}
theorem tOp_of {r : R2} {op : Hs → D → D → Option D} (ho : OpOk X r op) {τ : L2.St} {H : Hp} {Q : VK} (b0 : BH X.K H) (q : tE (Zx.of X) (bin2 fa fb op) τ H Q) : tOp r (tE (Zx.of X) fa) (tE (Zx.of X) fb) τ H fun v H' => BH X.K H' → Q v H' := by
  obtain ⟨O, ρ, σ, h, d, h', R, e, k⟩ := q b0
  obtain ⟨a, h1, b, ea, eb, eo⟩ := bin2_some e
  exact two R ea eb fun v1 v2 ρ' H' bh m r p1 p2 => ho O ρ' h' H' a b d v1 v2 _ bh r p1 p2 eo fun v H2 m2 r2 p b2 => k v ρ' H2 b2 (Rw.tr m r m2) r2 p
theorem tUn_of {r : V → Hp → VK → Prop} {op : Hs → D → Option D} (ho : UnOk X r op) {τ : L2.St} {H : Hp} {Q : VK} (b0 : BH X.K H) (q : tE (Zx.of X) (un1 fa op) τ H Q) : tUn r (tE (Zx.of X) fa) τ H fun v H' => BH X.K H' → Q v H' := by
  obtain ⟨O, ρ, σ, h, d, h', R, e, k⟩ := q b0
  obtain ⟨a, ea, eo⟩ := un1_some e
  exact one R ea fun v1 ρ' H' bh m r p1 => ho O ρ' h' H' a d v1 _ bh r p1 eo fun v H2 m2 r2 p b2 => k v ρ' H2 b2 (Rw.tr m r m2) r2 p
/-- where the value is just made -/
theorem OpOk.or {r r' : R2} {op op' : Hs → D → D → Option D} (h : OpOk X r op) (h' : OpOk X r' op') : OpOk X (fun x y H Q => r x y H Q ∨ r' x y H Q) (fun h a b => match op h a b with | some c => some c | none => op' h a b) := by
  intro O ρ h0 H a b d x y Q bh R ra rb e k
  cases eo : op h0 a b with
  | some c => simp only [eo, Option.some.injEq] at e; subst e; exact .inl (h O ρ h0 H a b c x y Q bh R ra rb eo k)
  | none => simp only [eo] at e; exact .inr (h' O ρ h0 H a b d x y Q bh R ra rb e k)
theorem s_bin {op : Operator} {r : R2} {f : Hs → D → D → Option D} {a b : Expr} {pos : Pos} (hr : OpR X (binaryOp op) r) (ho : OpOk X r f) (ha : SE X a fa) (hb : SE X b fb) : SE X (.BinOp a op b pos) (bin2 fa fb f) :=
  imE (pe_op hr ha hb) fun _ _ _ b0 q => tOp_of ho b0 q
theorem s_cmp {op : CmpOp} {r : R2} {f : Hs → D → D → Option D} {a b : Expr} {pos : Pos} (hr : OpR X (compareOp op) r) (ho : OpOk X r f) (ha : SE X a fa) (hb : SE X b fb) (hm : behindInMarks op b = false) : SE X (.Compare a [op] [b] pos) (bin2 fa fb f) :=
  imE (pe_cmpR hr ha hb hm) fun _ _ _ b0 q => tOp_of ho b0 q
theorem t_of_e {a : Expr} {τ : L2.St} {H : Hp} {Q : Bool → Hp → Prop} {f : EF} (b0 : BH X.K H) (q : tT (Zx.of X) f τ H Q) : tE (Zx.of X) f τ H fun v H' => ∃ c, v = .bl c ∧ (BH X.K H' → Q c H') := by
  intro _
  obtain ⟨O, ρ, σ, h, b, h', R, e, k⟩ := q b0
  exact ⟨O, ρ, σ, h, _, h', R, e, fun v ρ' H' bh m r p => ⟨b, p.blE, fun _ => k ρ' H' bh m r⟩⟩
theorem s_t {a : Expr} (ha : SE X a fa) (he : ∀ whole, isTrue a X.env whole = (do let v ← whole; standAt a.pos; holding [v] (truthy v)) := by intro _; rfl) : ST X a fa :=
  imT (pt_val ha he) fun _ _ _ b0 q => t_of_e (a := a) b0 q
theorem s_tcmp {op : CmpOp} {r : R2} {f : Hs → D → D → Option D} {a b : Expr} {pos : Pos} (hr : OpR X (compareOp op) r) (ho : OpOk X r f) (ha : SE X a fa) (hb : SE X b fb) (hm : behindInMarks op b = false) : ST X (.Compare a [op] [b] pos) (bin2 fa fb f) := by
  refine imT (pt_cmpR hr ha hb hm) fun τ H Q b0 q => ?_
  obtain ⟨O, ρ, σ, h, c, h', R, e, k⟩ := q b0
  obtain ⟨a', h1, b', ea, eb, eo⟩ := bin2_some e
  refine two R ea eb fun v1 v2 ρ' H' bh m r p1 p2 => ?_
  exact ho O ρ' h' H' a' b' _ v1 v2 _ bh r p1 p2 eo fun v H2 m2 r2 p => ⟨c, p.blE, fun b2 => k ρ' H2 b2 (Rw.tr m r m2) r2⟩
end
end TB
namespace TB
open PySem PySem.Spec PyProof.Rows L2
section
variable {X : Cx}
theorem frT {Z : Zx} {O : Addr → Prop} {ρ : List Addr} {h : Hs} {H : Hp} (R : Rl Z O ρ h H) {ds : List D} {vs : List V} (r : Reps Z O ρ H ds vs) {Q : VK}
    (k : ∀ v H', Mv ρ H ρ H' → Rl Z O ρ h H' → Rep Z O ρ H' (.tup ds) v → Q v H') : ∀ p, H p = none → Q (.ref p) (upd H p (.tup vs)) :=
  fun p hp => k _ _ (fresh_mv hp) (R.fresh hp) (new_tup R hp r)
theorem frL {Z : Zx} {O : Addr → Prop} {ρ : List Addr} {h : Hs} {H : Hp} (R : Rl Z O ρ h H) {ds : List D} {vs : List V} (r : Reps Z O ρ H ds vs) {Q : VK}
    (k : ∀ v H', Mv ρ H ρ H' → Rl Z O ρ h H' → Rep Z O ρ H' (.lst ds) v → Q v H') : ∀ p, H p = none → Q (.ref p) (upd H p (.lst vs)) :=
  fun p hp => k _ _ (fresh_mv hp) (R.fresh hp) (new_lst R hp r)
theorem Rl.mv0 {Z : Zx} {O : Addr → Prop} {ρ : List Addr} {h : Hs} {H : Hp} (R : Rl Z O ρ h H) : Mv ρ H ρ H := Mv.refl

/-! ### + -/
def addI (_ : Hs) (a b : D) : Option D := match a with | .int i => (match b with | .int j => some (.int (i + j)) | _ => none) | _ => none
def addT (_ : Hs) (a b : D) : Option D := match viewT a with | some xs => (match viewT b with | some ys => if xs.length + ys.length ≤ szL then some (.tup (xs ++ ys)) else none | none => none) | none => none
def addL (h : Hs) (a b : D) : Option D := match viewL h a with | some xs => (match viewL h b with | some ys => if xs.length + ys.length ≤ szL then some (.lst (xs ++ ys)) else none | none => none) | none => none
def addD (h : Hs) (a b : D) : Option D := match addI h a b with | some c => some c | none => match addT h a b with | some c => some c | none => addL h a b
theorem addI_ok : OpOk X (rI0 fun i j => .int (i + j)) addI := by
  intro O ρ h H a b d x y Q bh R ra rb e k
  unfold addI at e
  cases a with
  | int i =>
    cases b with
    | int j => simp only [Option.some.injEq] at e; subst e; exact ⟨i, j, ra.intE, rb.intE, k _ _ Mv.refl R (.int _)⟩
    | _ => simp at e
  | _ => simp at e
theorem addT_ok : OpOk X (rCatA X.K) addT := by
  intro O ρ h H a b d x y Q bh R ra rb e k
  unfold addT at e
  cases e1 : viewT a with
  | none => simp [e1] at e
  | some xs =>
    cases e2 : viewT b with
    | none => simp [e1, e2] at e
    | some ys =>
      simp only [e1, e2] at e
      by_cases hz : xs.length + ys.length ≤ szL
      · rw [if_pos hz] at e
        cases e
        obtain ⟨p, vs, rfl, hp, np, rs⟩ := viewT_rep e1 ra
        obtain ⟨q, us, rfl, hq, nq, rt⟩ := viewT_rep e2 rb
        have hl : vs.length + us.length ≤ sizeLine := by rw [← rs.length, ← rt.length, ← szL_eq]; exact hz
        refine ⟨p, q, vs, us, rfl, rfl, SqT.of hp, SqT.of hq, hl, fun z => ?_, fun _ z => ?_, fun _ _ => frT R (rs.append rt) k⟩
        · subst z
          cases rs
          exact k _ _ Mv.refl R (by rw [List.nil_append]; exact .tup hq nq rt)
        · subst z
          cases rt
          exact k _ _ Mv.refl R (by rw [List.append_nil]; exact .tup hp np rs)
      · rw [if_neg hz] at e; cases e
theorem addL_ok : OpOk X rCat addL := by
  intro O ρ h H a b d x y Q bh R ra rb e k
  unfold addL at e
  cases e1 : viewL h a with
  | none => simp [e1] at e
  | some xs =>
    cases e2 : viewL h b with
    | none => simp [e1, e2] at e
    | some ys =>
      simp only [e1, e2] at e
      by_cases hz : xs.length + ys.length ≤ szL
      · rw [if_pos hz] at e
        cases e
        obtain ⟨p, vs, rfl, hp, rs⟩ := viewL_rep R e1 ra
        obtain ⟨q, us, rfl, hq, rt⟩ := viewL_rep R e2 rb
        have hl : vs.length + us.length ≤ sizeLine := by rw [← rs.length, ← rt.length, ← szL_eq]; exact hz
        exact ⟨p, q, vs, us, rfl, rfl, hp, hq, hl, frL R (rs.append rt) k⟩
      · rw [if_neg hz] at e; cases e
theorem s_add {a b : Expr} {pos : Pos} {fa fb : EF} (ha : SE X a fa) (hb : SE X b fb) : SE X (.BinOp a .Add b pos) (bin2 fa fb addD) :=
  s_bin (OpR.or op_add (OpR.or op_catA op_cat)) (OpOk.or addI_ok (OpOk.or addT_ok addL_ok)) ha hb

/-! ### the other operators -/
def int2 (C : Int → Int → Bool) (g : Int → Int → D) (_ : Hs) (a b : D) : Option D := match a with | .int i => (match b with | .int j => if C i j = true then some (g i j) else none | _ => none) | _ => none
theorem int2_ok {C : Int → Int → Bool} {C' : Int → Int → Prop} {g : Int → Int → Int} (hC : ∀ i j, C i j = true → C' i j) : OpOk X (rI C' fun i j => .int (g i j)) (int2 C fun i j => .int (g i j)) := by
  intro O ρ h H a b d x y Q bh R ra rb e k
  unfold int2 at e
  cases a with
  | int i =>
    cases b with
    | int j =>
      simp only at e
      by_cases hc : C i j = true
      · rw [if_pos hc] at e; cases e
        exact ⟨i, j, ra.intE, rb.intE, hC i j hc, k _ _ Mv.refl R (.int _)⟩
      · rw [if_neg hc] at e; cases e
    | _ => simp at e
  | _ => simp at e
theorem int2_ok0 {g : Int → Int → Int} : OpOk X (rI0 fun i j => .int (g i j)) (int2 (fun _ _ => true) fun i j => .int (g i j)) := by
  intro O ρ h H a b d x y Q bh R ra rb e k
  unfold int2 at e
  cases a with
  | int i =>
    cases b with
    | int j => simp only [if_true, Option.some.injEq] at e; subst e; exact ⟨i, j, ra.intE, rb.intE, k _ _ Mv.refl R (.int _)⟩
    | _ => simp at e
  | _ => simp at e
theorem int2_okB {g : Int → Int → Bool} : OpOk X (rI0 fun i j => .bl (g i j)) (int2 (fun _ _ => true) fun i j => .bl (g i j)) := by
  intro O ρ h H a b d x y Q bh R ra rb e k
  unfold int2 at e
  cases a with
  | int i =>
    cases b with
    | int j => simp only [if_true, Option.some.injEq] at e; subst e; exact ⟨i, j, ra.intE, rb.intE, k _ _ Mv.refl R (.bl _)⟩
    | _ => simp at e
  | _ => simp at e
def subD := int2 (fun _ _ => true) fun i j => .int (i - j)
def p64 : Int := 18446744073709551616
def mulI := int2 (fun i j => (decide (-p64 < i) && decide (i < p64)) || (decide (-p64 < j) && decide (j < p64))) fun i j => .int (i * j)
def mulL (h : Hs) (a b : D) : Option D := match viewL h a with
  | some xs => (match b with | .int k => if (decide (0 ≤ k) && decide (k < 1000000) && decide (xs.length * k.toNat ≤ szL)) = true then some (.lst (List.replicate k.toNat xs).flatten) else none | _ => none)
  | none => none
def mulD (h : Hs) (a b : D) : Option D := match mulI h a b with | some c => some c | none => mulL h a b
def modD := int2 (fun _ j => decide (0 < j)) fun i j => .int (i % j)
def divD := int2 (fun _ j => decide (0 < j) && decide (j < 1073741824)) fun i j => .int (i / j)
def powD := int2 (fun i j => decide (0 ≤ j) && decide (j ≤ 1000000) && decide (i.natAbs < 18446744073709551616)) fun i j => .int (i ^ j.toNat)
def ltI := int2 (fun _ _ => true) fun i j => .bl (decide (i < j))
def leI := int2 (fun _ _ => true) fun i j => .bl (decide (i ≤ j))
def gtI := int2 (fun _ _ => true) fun i j => .bl (decide (j < i))
def geI := int2 (fun _ _ => true) fun i j => .bl (decide (j ≤ i))
section
variable {a b : Expr} {pos : Pos} {fa fb : EF}
theorem s_sub (ha : SE X a fa) (hb : SE X b fb) : SE X (.BinOp a .Sub b pos) (bin2 fa fb subD) := s_bin op_sub int2_ok0 ha hb
theorem mulI_ok : OpOk X (rI CMul fun i j => .int (i * j)) mulI := int2_ok fun i j h => by
  simp only [Bool.or_eq_true, Bool.and_eq_true, decide_eq_true_eq] at h
  have e : (2 : Int) ^ 64 = p64 := rfl
  unfold CMul
  rw [e]
  exact h
theorem Reps.rep {Z : Zx} {O : Addr → Prop} {ρ : List Addr} {H : Hp} {ds : List D} {vs : List V} (r : Reps Z O ρ H ds vs) : ∀ n, Reps Z O ρ H (List.replicate n ds).flatten (List.replicate n vs).flatten
  | 0 => .nil
  | n + 1 => by rw [List.replicate_succ, List.replicate_succ, List.flatten_cons, List.flatten_cons]; exact r.append (Reps.rep r n)
theorem mulL_ok : OpOk X rRep mulL := by
  intro O ρ h H a b d x y Q bh R ra rb e k
  unfold mulL at e
  cases e1 : viewL h a with
  | none => simp [e1] at e
  | some xs =>
    simp only [e1] at e
    cases b with
    | int j =>
      simp only at e
      split at e
      · rename_i hc
        cases e
        simp only [Bool.and_eq_true, decide_eq_true_eq] at hc
        obtain ⟨p, vs, rfl, hp, rs⟩ := viewL_rep R e1 ra
        exact ⟨p, j, vs, rfl, rb.intE, hp, by omega, by omega, by rw [← rs.length, ← szL_eq]; exact hc.2, frL R (Reps.rep rs _) k⟩
      · cases e
    | _ => simp at e
theorem s_mul (ha : SE X a fa) (hb : SE X b fb) : SE X (.BinOp a .Mult b pos) (bin2 fa fb mulD) := s_bin (OpR.or op_mul op_rep) (OpOk.or mulI_ok mulL_ok) ha hb
theorem s_mod (ha : SE X a fa) (hb : SE X b fb) : SE X (.BinOp a .Mod b pos) (bin2 fa fb modD) := s_bin op_mod (int2_ok fun i j h => of_decide_eq_true h) ha hb
theorem s_div (ha : SE X a fa) (hb : SE X b fb) : SE X (.BinOp a .FloorDiv b pos) (bin2 fa fb divD) := s_bin op_fdiv (int2_ok fun i j h => by
  simp only [Bool.and_eq_true, decide_eq_true_eq] at h
  exact h) ha hb
theorem s_pow (ha : SE X a fa) (hb : SE X b fb) : SE X (.BinOp a .Pow b pos) (bin2 fa fb powD) := s_bin op_pow (int2_ok fun i j h => by
  simp only [Bool.and_eq_true, decide_eq_true_eq] at h
  exact ⟨h.1.1, h.1.2, h.2⟩) ha hb
def negD (_ : Hs) (a : D) : Option D := match a with | .int i => some (.int (-i)) | _ => none
theorem s_neg (ha : SE X a fa) : SE X (.UnaryOp .USub a pos) (un1 fa negD) := imE (pe_un un_neg ha) fun _ _ _ b0 q => tUn_of (fun O ρ h H a d x Q bh R ra e k => by
  unfold negD at e
  cases a with
  | int i => simp only [Option.some.injEq] at e; subst e; exact ⟨i, ra.intE, k _ _ Mv.refl R (.int _)⟩
  | _ => simp at e) b0 q

/-! ### comparisons: each as a value and as a test -/
def eqD (_ : Hs) (a b : D) : Option D := if a.fit 60 && b.fit 60 then some (.bl (a.eqv b)) else none
def neD (_ : Hs) (a b : D) : Option D := if a.fit 60 && b.fit 60 then some (.bl (!a.eqv b)) else none
theorem eqD_ok : OpOk X (rEqD X.K) eqD := by
  intro O ρ h H a b d x y Q bh R ra rb e k
  unfold eqD at e
  split at e
  · rename_i hc
    cases e
    simp only [Bool.and_eq_true] at hc
    exact ⟨_, _, ra.dp 60 hc.1, rb.dp 60 hc.2, fit_shaped hc.1, fit_shaped hc.2, by rw [eqv_toP a b 60 60 hc.1 hc.2]; exact k _ _ Mv.refl R (.bl _)⟩
  · cases e
theorem neD_ok : OpOk X (rNeD X.K) neD := by
  intro O ρ h H a b d x y Q bh R ra rb e k
  unfold neD at e
  split at e
  · rename_i hc
    cases e
    simp only [Bool.and_eq_true] at hc
    exact ⟨_, _, ra.dp 60 hc.1, rb.dp 60 hc.2, fit_shaped hc.1, fit_shaped hc.2, by rw [eqv_toP a b 60 60 hc.1 hc.2]; exact k _ _ Mv.refl R (.bl _)⟩
  · cases e
def D.isNon : D → Bool | .non => true | _ => false
theorem isNon_rep {Z : Zx} {O : Addr → Prop} {ρ : List Addr} {H : Hp} {a : D} {x : V} (r : Rep Z O ρ H a x) : decide (x = V.non) = a.isNon := by cases r <;> simp [D.isNon]
def isN (_ : Hs) (a b : D) : Option D := match b with | .non => some (.bl a.isNon) | .bl k => (match a with | .bl j => some (.bl (decide (j = k))) | _ => none) | _ => none
def notN (_ : Hs) (a b : D) : Option D := match b with | .non => some (.bl (!a.isNon)) | .bl k => (match a with | .bl j => some (.bl (!decide (j = k))) | _ => none) | _ => none
theorem isN_ok : OpOk X (fun x y H Q => (y = .non ∧ Q (.bl (decide (x = .non))) H) ∨ rIsB x y H Q) isN := by
  intro O ρ h H a b d x y Q bh R ra rb e k
  unfold isN at e
  cases b with
  | non =>
    simp only [Option.some.injEq] at e; subst e
    refine .inl ⟨rb.nonE, ?_⟩
    rw [isNon_rep ra]
    exact k _ _ Mv.refl R (.bl _)
  | bl j =>
    cases a with
    | bl i => simp only [Option.some.injEq] at e; subst e; exact .inr ⟨i, j, ra.blE, rb.blE, k _ _ Mv.refl R (.bl _)⟩
    | _ => simp at e
  | _ => simp at e
theorem notN_ok : OpOk X (fun x y H Q => (y = .non ∧ Q (.bl (!decide (x = .non))) H) ∨ rNotB x y H Q) notN := by
  intro O ρ h H a b d x y Q bh R ra rb e k
  unfold notN at e
  cases b with
  | non =>
    simp only [Option.some.injEq] at e; subst e
    refine .inl ⟨rb.nonE, ?_⟩
    rw [isNon_rep ra]
    exact k _ _ Mv.refl R (.bl _)
  | bl j =>
    cases a with
    | bl i => simp only [Option.some.injEq] at e; subst e; exact .inr ⟨i, j, ra.blE, rb.blE, k _ _ Mv.refl R (.bl _)⟩
    | _ => simp at e
  | _ => simp at e
theorem s_lt (ha : SE X a fa) (hb : SE X b fb) : SE X (.Compare a [.Lt] [b] pos) (bin2 fa fb ltI) := s_cmp op_lt int2_okB ha hb (nomark _)
theorem s_le (ha : SE X a fa) (hb : SE X b fb) : SE X (.Compare a [.LtE] [b] pos) (bin2 fa fb leI) := s_cmp op_le int2_okB ha hb (nomark _)
theorem s_gt (ha : SE X a fa) (hb : SE X b fb) : SE X (.Compare a [.Gt] [b] pos) (bin2 fa fb gtI) := s_cmp op_gt int2_okB ha hb (nomark _)
theorem s_ge (ha : SE X a fa) (hb : SE X b fb) : SE X (.Compare a [.GtE] [b] pos) (bin2 fa fb geI) := s_cmp op_ge int2_okB ha hb (nomark _)
theorem s_eq (hu : X.A.units + 64 < cLine) (ha : SE X a fa) (hb : SE X b fb) : SE X (.Compare a [.Eq] [b] pos) (bin2 fa fb eqD) := s_cmp (op_eqD hu) eqD_ok ha hb (nomark _)
theorem s_ne (hu : X.A.units + 64 < cLine) (ha : SE X a fa) (hb : SE X b fb) : SE X (.Compare a [.NotEq] [b] pos) (bin2 fa fb neD) := s_cmp (op_neD hu) neD_ok ha hb (nomark _)
theorem s_is (ha : SE X a fa) (hb : SE X b fb) : SE X (.Compare a [.Is] [b] pos) (bin2 fa fb isN) := s_cmp (OpR.or op_isN op_isBl) isN_ok ha hb (nomark _)
theorem s_isnot (ha : SE X a fa) (hb : SE X b fb) : SE X (.Compare a [.IsNot] [b] pos) (bin2 fa fb notN) := s_cmp (OpR.or op_notN op_notBl) notN_ok ha hb (nomark _)
theorem s_tlt (ha : SE X a fa) (hb : SE X b fb) : ST X (.Compare a [.Lt] [b] pos) (bin2 fa fb ltI) := s_tcmp op_lt int2_okB ha hb (nomark _)
theorem s_tle (ha : SE X a fa) (hb : SE X b fb) : ST X (.Compare a [.LtE] [b] pos) (bin2 fa fb leI) := s_tcmp op_le int2_okB ha hb (nomark _)
theorem s_tgt (ha : SE X a fa) (hb : SE X b fb) : ST X (.Compare a [.Gt] [b] pos) (bin2 fa fb gtI) := s_tcmp op_gt int2_okB ha hb (nomark _)
theorem s_tge (ha : SE X a fa) (hb : SE X b fb) : ST X (.Compare a [.GtE] [b] pos) (bin2 fa fb geI) := s_tcmp op_ge int2_okB ha hb (nomark _)
theorem s_teq (hu : X.A.units + 64 < cLine) (ha : SE X a fa) (hb : SE X b fb) : ST X (.Compare a [.Eq] [b] pos) (bin2 fa fb eqD) := s_tcmp (op_eqD hu) eqD_ok ha hb (nomark _)
theorem s_tne (hu : X.A.units + 64 < cLine) (ha : SE X a fa) (hb : SE X b fb) : ST X (.Compare a [.NotEq] [b] pos) (bin2 fa fb neD) := s_tcmp (op_neD hu) neD_ok ha hb (nomark _)
theorem s_tis (ha : SE X a fa) (hb : SE X b fb) : ST X (.Compare a [.Is] [b] pos) (bin2 fa fb isN) := s_tcmp (OpR.or op_isN op_isBl) isN_ok ha hb (nomark _)
theorem s_tisnot (ha : SE X a fa) (hb : SE X b fb) : ST X (.Compare a [.IsNot] [b] pos) (bin2 fa fb notN) := s_tcmp (OpR.or op_notN op_notBl) notN_ok ha hb (nomark _)
end

/-! ### in, not in, a list or a tuple -/
def inQ (h : Hs) (a b : D) : Option D := match b with
  | .tup ys => if a.fit 60 && fitA ys 59 then some (.bl (ys.any fun z => z.eqv a)) else none
  | b => match viewL h b with | some ys => if a.fit 60 && fitA ys 59 then some (.bl (ys.any fun z => z.eqv a)) else none | none => none
theorem any_toP {a : D} {n m : Nat} (ha : a.fit m = true) : ∀ (ys : List D), fitA ys n = true → ((toPA ys).any fun z => PyData.eqv z a.toP) = ys.any fun z => z.eqv a
  | [], _ => rfl
  | y :: ys, h => by
    simp only [fitA, Bool.and_eq_true] at h
    simp only [toPA, List.any_cons]
    rw [eqv_toP y a n m h.1 ha, any_toP ha ys h.2]
def rInDT (K : PySem.W.Frag) : R2 := fun x y H Q => ∃ d ds, Dp K H x d ∧ Dp K H y (.tuple ds) ∧ SeqAt.shaped d = true ∧ SeqAt.shaped (.tuple ds) = true ∧ Q (.bl (ds.any fun z => PyData.eqv z d)) H
def rNotInDT (K : PySem.W.Frag) : R2 := fun x y H Q => ∃ d ds, Dp K H x d ∧ Dp K H y (.tuple ds) ∧ SeqAt.shaped d = true ∧ SeqAt.shaped (.tuple ds) = true ∧ Q (.bl (!ds.any fun z => PyData.eqv z d)) H
theorem op_inDT (hu : X.A.units + 65 < cLine) : OpR X (compareOp .In) (rInDT X.K) := by
  intro pins s σ H x y v u Q I rx ry h
  obtain ⟨d, ds, hd, he, sd, se, q⟩ := h
  obtain ⟨as, r1⟩ := Dp.reads I d x v hd rx
  obtain ⟨bs, r2⟩ := Dp.reads I (.tuple ds) y u he ry
  exact SeqAt.in_tuple_reads r2 r1 (SeqAt.canLay_of_shaped se) (SeqAt.canLay_of_shaped sd) (room_in_shaped sd hu) ⟨.bl _, H, I, rfl, q⟩
theorem op_notInDT (hu : X.A.units + 65 < cLine) : OpR X (compareOp .NotIn) (rNotInDT X.K) := by
  intro pins s σ H x y v u Q I rx ry h
  obtain ⟨d, ds, hd, he, sd, se, q⟩ := h
  obtain ⟨as, r1⟩ := Dp.reads I d x v hd rx
  obtain ⟨bs, r2⟩ := Dp.reads I (.tuple ds) y u he ry
  exact SeqAt.notIn_tuple_reads r2 r1 (SeqAt.canLay_of_shaped se) (SeqAt.canLay_of_shaped sd) (room_in_shaped sd hu) ⟨.bl _, H, I, rfl, q⟩
theorem sh_of {ys : List D} (h : fitA ys 59 = true) : SeqAt.shaped (.tuple (toPA ys)) = true ∧ SeqAt.shaped (.list (toPA ys)) = true := by
  have q := fit_shapeA ys 59 h
  have d1 : PyData.depth (.tuple (toPA ys)) ≤ 64 := by simp only [PyData.depth]; omega
  have d2 : PyData.depth (.list (toPA ys)) ≤ 64 := by simp only [PyData.depth]; omega
  simp only [SeqAt.shaped, Bool.and_eq_true, decide_eq_true_eq, PyData.canLay0]
  exact ⟨⟨q.1, d1⟩, q.1, d2⟩
def notQ (f : Hs → D → D → Option D) (h : Hs) (a b : D) : Option D := match f h a b with | some (.bl k) => some (.bl (!k)) | _ => none
theorem inQ_has {h : Hs} {a b d : D} (e : inQ h a b = some d) : ∃ ys, ((b = .tup ys) ∨ (viewL h b = some ys)) ∧ a.fit 60 = true ∧ fitA ys 59 = true ∧ d = .bl (ys.any fun z => z.eqv a) := by
  unfold inQ at e
  split at e
  · rename_i ys
    split at e
    · rename_i hc
      simp only [Bool.and_eq_true] at hc
      cases e; exact ⟨ys, .inl rfl, hc.1, hc.2, rfl⟩
    · cases e
  · cases e1 : viewL h b with
    | none => simp [e1] at e
    | some ys =>
      simp only [e1] at e
      split at e
      · rename_i hc
        simp only [Bool.and_eq_true] at hc
        cases e; exact ⟨ys, .inr rfl, hc.1, hc.2, rfl⟩
      · cases e
theorem inQ_ok : OpOk X (fun x y H Q => rInD X.K x y H Q ∨ rInDT X.K x y H Q) inQ := by
  intro O ρ h H a b d x y Q bh R ra rb e k
  obtain ⟨ys, hy, fa, fy, rfl⟩ := inQ_has e
  rcases hy with rfl | hy
  · obtain ⟨p, vs, rfl, hp, np, rs⟩ := rb.tupE
    exact .inr ⟨_, _, ra.dp 60 fa, .tup (SqT.of hp) (rs.dp 59 fy), fit_shaped fa, (sh_of fy).1, by rw [any_toP fa ys fy]; exact k _ _ Mv.refl R (.bl _)⟩
  · obtain ⟨p, vs, rfl, hp, rs⟩ := viewL_rep R hy rb
    exact .inl ⟨_, _, ra.dp 60 fa, .lst (SqL.of hp) (rs.dp 59 fy), fit_shaped fa, (sh_of fy).2, by rw [any_toP fa ys fy]; exact k _ _ Mv.refl R (.bl _)⟩
theorem notQ_has {f : Hs → D → D → Option D} {h : Hs} {a b d : D} (e : notQ f h a b = some d) : ∃ k, f h a b = some (.bl k) ∧ d = .bl (!k) := by
  unfold notQ at e
  split at e
  · rename_i k hk; cases e; exact ⟨k, hk, rfl⟩
  · cases e
theorem notInQ_ok : OpOk X (fun x y H Q => rNotInD X.K x y H Q ∨ rNotInDT X.K x y H Q) (notQ inQ) := by
  intro O ρ h H a b d x y Q bh R ra rb e k
  obtain ⟨j, e', rfl⟩ := notQ_has e
  obtain ⟨ys, hy, fa, fy, ej⟩ := inQ_has e'
  cases ej
  rcases hy with rfl | hy
  · obtain ⟨p, vs, rfl, hp, np, rs⟩ := rb.tupE
    exact .inr ⟨_, _, ra.dp 60 fa, .tup (SqT.of hp) (rs.dp 59 fy), fit_shaped fa, (sh_of fy).1, by rw [any_toP fa ys fy]; exact k _ _ Mv.refl R (.bl _)⟩
  · obtain ⟨p, vs, rfl, hp, rs⟩ := viewL_rep R hy rb
    exact .inl ⟨_, _, ra.dp 60 fa, .lst (SqL.of hp) (rs.dp 59 fy), fit_shaped fa, (sh_of fy).2, by rw [any_toP fa ys fy]; exact k _ _ Mv.refl R (.bl _)⟩
end
end TB
namespace TB
open PySem PySem.Spec PyProof.Rows L2
section
variable {X : Cx}

/-! ### names, constants -/
theorem s_var {i : Nat} {x : Str} {pos : Pos} (hN : X.N[i]? = some x := by rfl) (hv : Vis X.env.scope x := by first | exact Or.inl rfl | exact Or.inr (Or.inl rfl) | exact Or.inr (Or.inr rfl)) (hd : (x == ("__debug__" : Str)) = false := by decide)
    (hcd : (x == ("__classdict__" : Str)) = false := by decide) : SE X (.Name x pos) (eVar i) := imE (pe_var hN hv hd hcd) fun τ H Q b0 q => by
  obtain ⟨O, ρ, σ, h, d, h', R, e, k⟩ := q b0
  unfold eVar at e
  cases es : σ[i]? with
  | none => rw [es] at e; cases e
  | some o =>
    rw [es] at e
    cases o with
    | none => cases e
    | some d' =>
      simp only [Option.some.injEq, Prod.mk.injEq] at e
      obtain ⟨rfl, rfl⟩ := e
      obtain ⟨v, hv, rv⟩ := R.s.2 i d' es
      exact ⟨v, hv, fun b => k v ρ H b Mv.refl R.l rv⟩
theorem c_of {c : D} {v : V} (hc : ∀ O ρ H, Rep (Zx.of X) O ρ H c v) {τ : L2.St} {H : Hp} {Q : VK} (b0 : BH X.K H) (q : tE (Zx.of X) (eC c) τ H Q) : tC v τ H fun v H' => BH X.K H' → Q v H' := by
  obtain ⟨O, ρ, σ, h, d, h', R, e, k⟩ := q b0
  cases e
  exact fun b => k v ρ H b Mv.refl R.l (hc _ _ _)
theorem s_int {i j pos} : SE X (.Constant (.int i) j pos) (eC (.int i)) := imE pe_int fun _ _ _ b0 q => c_of (fun _ _ _ => .int _) b0 q
theorem s_bl {b j pos} : SE X (.Constant (.bool b) j pos) (eC (.bl b)) := imE pe_bl fun _ _ _ b0 q => c_of (fun _ _ _ => .bl _) b0 q
theorem s_non {j pos} : SE X (.Constant .none j pos) (eC .non) := imE pe_non fun _ _ _ b0 q => c_of (fun _ _ _ => .non) b0 q
theorem s_str {x j pos} : SE X (.Constant (.str x) j pos) (eC (.str x)) := imE pe_str fun _ _ _ b0 q => c_of (fun _ _ _ => .str _) b0 q
theorem s_globI {x : Str} {i : Int} {t : Tok} {pos : Pos} (hg : Gl X x) (hm : X.mg x = some (.int i t)) (hd : (x == ("__debug__" : Str)) = false := by decide) : SE X (.Name x pos) (eC (.int i)) := imE (pe_glob (v := .int i) hg hm ⟨_, rfl⟩ hd) fun _ _ _ b0 q => c_of (fun _ _ _ => .int _) b0 q
theorem s_globS {x y : Str} {t : Tok} {pos : Pos} (hg : Gl X x) (hm : X.mg x = some (.str y t)) (hd : (x == ("__debug__" : Str)) = false := by decide) : SE X (.Name x pos) (eC (.str y)) := imE (pe_glob (v := .str y) hg hm ⟨_, rfl⟩ hd) fun _ _ _ b0 q => c_of (fun _ _ _ => .str _) b0 q

/-! ### and, or, not, if -/
def eAnd (fa fb : EF) : EF := fun σ h => match fa σ h with | some (.bl true, h1) => fb σ h1 | some (.bl false, h1) => some (.bl false, h1) | _ => none
def eOr (fa fb : EF) : EF := fun σ h => match fa σ h with | some (.bl true, h1) => some (.bl true, h1) | some (.bl false, h1) => fb σ h1 | _ => none
def eNot (fa : EF) : EF := fun σ h => match fa σ h with | some (.bl b, h1) => some (.bl (!b), h1) | _ => none
def eIf (fc fa fb : EF) : EF := fun σ h => match fc σ h with | some (.bl true, h1) => fa σ h1 | some (.bl false, h1) => fb σ h1 | _ => none
theorem bl_cases {f : EF} {σ : Fr} {h h' : Hs} {α : Type} {d : α} {ft ff : Hs → Option (α × Hs)} (e : (match f σ h with | some (.bl true, h1) => ft h1 | some (.bl false, h1) => ff h1 | _ => none) = some (d, h')) :
    ∃ b h1, f σ h = some (.bl b, h1) ∧ (if b = true then ft h1 else ff h1) = some (d, h') := by
  split at e
  · rename_i h1 e1; exact ⟨true, h1, e1, e⟩
  · rename_i h1 e1; exact ⟨false, h1, e1, e⟩
  · cases e
variable {a b c : Expr} {es rest : List Expr} {pos : Pos} {fa fb fc : EF}
theorem s_and (ha : SE X a fa) (hb : SE X (.BoolOp .And (b :: rest) pos) fb) : SE X (.BoolOp .And (a :: b :: rest) pos) (eAnd fa fb) := imE (pe_and ha hb) fun τ H Q b0 q => by
  obtain ⟨O, ρ, σ, h, d, h', R, e, k⟩ := q b0
  obtain ⟨c, h1, ea, e⟩ := bl_cases (α := D) (ft := fb σ) (ff := fun h1 => some (D.bl false, h1)) e
  refine one R ea fun v1 ρ1 H1 b1 m1 r1 p1 => ⟨c, p1.blE, ?_⟩
  cases c with
  | true =>
    rw [if_pos rfl] at e ⊢
    exact one (R.mv m1 r1) e fun v2 ρ2 H2 b2 m2 r2 p2 _ => k v2 ρ2 H2 b2 (Rw.tr m1 r1 m2) r2 p2
  | false =>
    rw [if_neg Bool.false_ne_true] at e ⊢
    cases e
    exact fun _ => k _ ρ1 H1 b1 m1 r1 (.bl false)
theorem s_or (ha : SE X a fa) (hb : SE X (.BoolOp .Or (b :: rest) pos) fb) : SE X (.BoolOp .Or (a :: b :: rest) pos) (eOr fa fb) := imE (pe_or ha hb) fun τ H Q b0 q => by
  obtain ⟨O, ρ, σ, h, d, h', R, e, k⟩ := q b0
  obtain ⟨c, h1, ea, e⟩ := bl_cases (α := D) (ft := fun h1 => some (D.bl true, h1)) (ff := fb σ) e
  refine one R ea fun v1 ρ1 H1 b1 m1 r1 p1 => ⟨c, p1.blE, ?_⟩
  cases c with
  | true =>
    rw [if_pos rfl] at e ⊢
    cases e
    exact fun _ => k _ ρ1 H1 b1 m1 r1 (.bl true)
  | false =>
    rw [if_neg Bool.false_ne_true] at e ⊢
    exact one (R.mv m1 r1) e fun v2 ρ2 H2 b2 m2 r2 p2 _ => k v2 ρ2 H2 b2 (Rw.tr m1 r1 m2) r2 p2
theorem s_one {op} (ha : SE X a fa) : SE X (.BoolOp op [a] pos) fa := pe_one ha
theorem s_not (ha : SE X a fa) : SE X (.UnaryOp .Not a pos) (eNot fa) := imE (pe_not ha) fun τ H Q b0 q => by
  obtain ⟨O, ρ, σ, h, d, h', R, e, k⟩ := q b0
  unfold eNot at e
  split at e
  · rename_i c h1 ea
    cases e
    exact one R ea fun v1 ρ1 H1 b1 m1 r1 p1 => ⟨c, p1.blE, fun _ => k _ ρ1 H1 b1 m1 r1 (.bl _)⟩
  · cases e
/-- a test, then the rest -/
theorem tone {f : EF} {O : Addr → Prop} {ρ : List Addr} {σ : Fr} {h h1 : Hs} {τ : L2.St} {H : Hp} {c : Bool} (R : Rw (Zx.of X) O ρ σ h τ H) (e : f σ h = some (.bl c, h1)) {Q : Bool → Hp → Prop}
    (k : ∀ ρ' H', BH X.K H' → Mv ρ H ρ' H' → Rl (Zx.of X) O ρ' h1 H' → Q c H') : tT (Zx.of X) f τ H Q := fun _ => ⟨O, ρ, σ, h, c, h1, R, e, k⟩
theorem w_one {op} (ha : ST X a fa) (h : ∀ {t : TT}, PT X a t → PW X (.BoolOp op [a] pos) t) : PW X (.BoolOp op [a] pos) (tT (Zx.of X) fa) := h ha
theorem imW {e : Expr} {t u : TT} (h : PW X e t) (k : ∀ τ H Q, BH X.K H → u τ H Q → t τ H fun v H' => BH X.K H' → Q v H') : PW X e u := ⟨fun wh p s τ H Q I q =>
  thn (h.run wh p s τ H _ I (k τ H Q (bh_of I) q)) fun _ _ ⟨H', I', q⟩ => ⟨H', I', q (bh_of I')⟩⟩
def SW (X : Cx) (e : Expr) (f : EF) : Prop := PW X e (tT (Zx.of X) f)
theorem w_and1 (ha : ST X a fa) : SW X (.BoolOp .And [a] pos) fa := pw_and1 ha
theorem w_or1 (ha : ST X a fa) : SW X (.BoolOp .Or [a] pos) fa := pw_or1 ha
theorem w_and (ha : ST X a fa) (hb : SW X (.BoolOp .And (b :: rest) pos) fb) : SW X (.BoolOp .And (a :: b :: rest) pos) (eAnd fa fb) := imW (pw_and ha hb) fun τ H Q b0 q => by
  obtain ⟨O, ρ, σ, h, d, h', R, e, k⟩ := q b0
  obtain ⟨c, h1, ea, e⟩ := bl_cases (α := D) (ft := fb σ) (ff := fun h1 => some (D.bl false, h1)) e
  refine tone R ea fun ρ1 H1 b1 m1 r1 => ?_
  cases c with
  | true =>
    rw [if_pos rfl] at e ⊢
    exact tone (R.mv m1 r1) e fun ρ2 H2 b2 m2 r2 _ => k ρ2 H2 b2 (Rw.tr m1 r1 m2) r2
  | false =>
    rw [if_neg Bool.false_ne_true] at e ⊢
    cases e
    exact fun _ => k ρ1 H1 b1 m1 r1
theorem w_or (ha : ST X a fa) (hb : SW X (.BoolOp .Or (b :: rest) pos) fb) : SW X (.BoolOp .Or (a :: b :: rest) pos) (eOr fa fb) := imW (pw_or ha hb) fun τ H Q b0 q => by
  obtain ⟨O, ρ, σ, h, d, h', R, e, k⟩ := q b0
  obtain ⟨c, h1, ea, e⟩ := bl_cases (α := D) (ft := fun h1 => some (D.bl true, h1)) (ff := fb σ) e
  refine tone R ea fun ρ1 H1 b1 m1 r1 => ?_
  cases c with
  | true =>
    rw [if_pos rfl] at e ⊢
    cases e
    exact fun _ => k ρ1 H1 b1 m1 r1
  | false =>
    rw [if_neg Bool.false_ne_true] at e ⊢
    exact tone (R.mv m1 r1) e fun ρ2 H2 b2 m2 r2 _ => k ρ2 H2 b2 (Rw.tr m1 r1 m2) r2
theorem SW.t (h : SW X a fa) : ST X a fa := PW.pt h
theorem s_tnot (ha : ST X a fa) : ST X (.UnaryOp .Not a pos) (eNot fa) := imT (pt_not ha) fun τ H Q b0 q => by
  obtain ⟨O, ρ, σ, h, d, h', R, e, k⟩ := q b0
  unfold eNot at e
  split at e
  · rename_i c h1 ea
    cases e
    exact tone R ea fun ρ1 H1 b1 m1 r1 _ => k ρ1 H1 b1 m1 r1
  · cases e
theorem s_if (hc : ST X c fc) (ha : SE X a fa) (hb : SE X b fb) : SE X (.IfExp c a b pos) (eIf fc fa fb) := imE (pe_ifExp hc ha hb) fun τ H Q b0 q => by
  obtain ⟨O, ρ, σ, h, d, h', R, e, k⟩ := q b0
  obtain ⟨c, h1, ea, e⟩ := bl_cases (α := D) (ft := fa σ) (ff := fb σ) e
  refine tone R ea fun ρ1 H1 b1 m1 r1 => ?_
  cases c with
  | true =>
    rw [if_pos rfl] at e ⊢
    exact one (R.mv m1 r1) e fun v2 ρ2 H2 b2 m2 r2 p2 _ => k v2 ρ2 H2 b2 (Rw.tr m1 r1 m2) r2 p2
  | false =>
    rw [if_neg Bool.false_ne_true] at e ⊢
    exact one (R.mv m1 r1) e fun v2 ρ2 H2 b2 m2 r2 p2 _ => k v2 ρ2 H2 b2 (Rw.tr m1 r1 m2) r2 p2

/-! ### argument lists, displays -/
def aNil : AF := fun _ h => some ([], h)
def aCons (fa : EF) (fr : AF) : AF := fun σ h => match fa σ h with
  | none => none
  | some (d, h1) => match fr σ h1 with
    | none => none
    | some (ds, h2) => some (d :: ds, h2)
theorem aCons_some {fr : AF} {σ : Fr} {h h' : Hs} {xs : List D} (e : aCons fa fr σ h = some (xs, h')) : ∃ d h1 ds, fa σ h = some (d, h1) ∧ fr σ h1 = some (ds, h') ∧ xs = d :: ds := by
  unfold aCons at e
  split at e
  · cases e
  · rename_i d h1 ea
    split at e
    · cases e
    · rename_i ds h2 er
      cases e
      exact ⟨d, h1, ds, ea, er, rfl⟩
theorem s_nil : SA X [] aNil := imA pa_nil fun τ H Q b0 q => by
  obtain ⟨O, ρ, σ, h, d, h', R, e, k⟩ := q b0
  cases e
  exact fun b => k [] ρ H b Mv.refl R.l .nil
theorem aone {f : AF} {O : Addr → Prop} {ρ : List Addr} {σ : Fr} {h h1 : Hs} {τ : L2.St} {H : Hp} {ds : List D} (R : Rw (Zx.of X) O ρ σ h τ H) (e : f σ h = some (ds, h1)) {Q : List V → Hp → Prop}
    (k : ∀ vs ρ' H', BH X.K H' → Mv ρ H ρ' H' → Rl (Zx.of X) O ρ' h1 H' → Reps (Zx.of X) O ρ' H' ds vs → Q vs H') : tA (Zx.of X) f τ H Q := fun _ => ⟨O, ρ, σ, h, ds, h1, R, e, k⟩
theorem s_cons {fr : AF} (ha : SE X a fa) (hr : SA X es fr) (hs : starEach (a :: es) X.env = (false, eval a X.env) :: starEach es X.env := by rfl) : SA X (a :: es) (aCons fa fr) := imA (pa_cons ha hr hs) fun τ H Q b0 q => by
  obtain ⟨O, ρ, σ, h, d, h', R, e, k⟩ := q b0
  obtain ⟨d, h1, ds, ea, er, rfl⟩ := aCons_some e
  exact one R ea fun v1 ρ1 H1 b1 m1 r1 p1 => aone (R.mv m1 r1) er fun vs ρ2 H2 b2 m2 r2 p2 _ => k _ ρ2 H2 b2 (Rw.tr m1 r1 m2) r2 (.cons (p1.mv m2) p2)
def eArgs (f : AF) (op : Hs → List D → Option D) : EF := fun σ h => match f σ h with
  | none => none
  | some (ds, h1) => match op h1 ds with
    | none => none
    | some d => some (d, h1)
theorem eArgs_some {f : AF} {op : Hs → List D → Option D} {σ : Fr} {h h' : Hs} {d : D} (e : eArgs f op σ h = some (d, h')) : ∃ ds, f σ h = some (ds, h') ∧ op h' ds = some d := by
  unfold eArgs at e
  split at e
  · cases e
  · rename_i ds h1 ea
    split at e
    · cases e
    · rename_i d' eo
      cases e
      exact ⟨ds, ea, eo⟩
def mkTup (_ : Hs) (ds : List D) : Option D := if ds.length ≤ szL then some (.tup ds) else none
def mkLst (_ : Hs) (ds : List D) : Option D := if ds.length ≤ szL then some (.lst ds) else none
theorem s_tup {fr : AF} {x1} (ha : SA X es fr) : SE X (.Tuple es x1 pos) (eArgs fr mkTup) := imE (pe_tup ha) fun τ H Q b0 q => by
  obtain ⟨O, ρ, σ, h, d, h', R, e, k⟩ := q b0
  obtain ⟨ds, ea, eo⟩ := eArgs_some e
  unfold mkTup at eo
  split at eo
  · rename_i hz
    cases eo
    exact aone R ea fun vs ρ1 H1 b1 m1 r1 p1 => ⟨by rw [← p1.length, ← szL_eq]; exact hz, frT r1 p1 fun v H' m r p b => k v ρ1 H' b (Rw.tr m1 r1 m) r p⟩
  · cases eo
theorem s_lst {fr : AF} (ha : SA X es fr) : SE X (.List es pos) (eArgs fr mkLst) := imE (pe_lst ha) fun τ H Q b0 q => by
  obtain ⟨O, ρ, σ, h, d, h', R, e, k⟩ := q b0
  obtain ⟨ds, ea, eo⟩ := eArgs_some e
  unfold mkLst at eo
  split at eo
  · rename_i hz
    cases eo
    exact aone R ea fun vs ρ1 H1 b1 m1 r1 p1 => ⟨by rw [← p1.length, ← szL_eq]; exact hz, frL r1 p1 fun v H' m r p b => k v ρ1 H' b (Rw.tr m1 r1 m) r p⟩
  · cases eo

/-! ### a list of our own -/
/-- what was just made becomes ours -/
def eOwn (f : EF) : EF := fun σ h => match f σ h with
  | some (.lst xs, h1) => some (.ref h1.length, h1 ++ [.lst xs])
  | _ => none
/-- making a list display: the address is new -/
def ownArgs (f : AF) : EF := fun σ h => match f σ h with
  | none => none
  | some (ds, h1) => if ds.length ≤ szL then some (.ref h1.length, h1 ++ [.lst ds]) else none
theorem own_mv {ρ : List Addr} {H : Hp} {p : Addr} (hp : H p = none) {u : HO} : Mv ρ H (ρ ++ [p]) (upd H p u) :=
  ⟨⟨[p], rfl, fun a ha => by rw [List.mem_singleton.mp ha]; exact hp⟩, fun a u e _ => by rw [upd_ne (ne_of_none e hp)]; exact e⟩
theorem own_new {Z : Zx} {O : Addr → Prop} {ρ : List Addr} {h : Hs} {H : Hp} (R : Rl Z O ρ h H) {p : Addr} (hp : H p = none) {u : HO} {o : Ob} (ro : RepO Z O (ρ ++ [p]) (upd H p u) p o) :
    Mv ρ H (ρ ++ [p]) (upd H p u) ∧ Rl Z O (ρ ++ [p]) (h ++ [o]) (upd H p u) ∧ Rep Z O (ρ ++ [p]) (upd H p u) (.ref h.length) (.ref p) := by
  have m : Mv ρ H (ρ ++ [p]) (upd H p u) := own_mv hp
  have f := R.free hp
  refine ⟨m, ⟨by rw [List.length_append, List.length_append, R.len]; rfl, ?_, fun a ha => ?_, fun a ha => ?_, fun n a o' e1 e2 => ?_⟩, .ref (by rw [← R.len]; simp)⟩
  · rw [List.nodup_append]
    exact ⟨R.nd, by simp, fun a ha b hb => by rw [List.mem_singleton.mp hb]; rintro rfl; exact f.1 ha⟩
  · rcases List.mem_append.mp ha with q | q
    · exact R.dis a q
    · rw [List.mem_singleton.mp q]; exact f.2
  · obtain ⟨z, e⟩ := R.dom a ha
    exact ⟨z, by rw [upd_ne (ne_of_none e hp)]; exact e⟩
  · by_cases hn : n < ρ.length
    · rw [List.getElem?_append_left hn] at e1
      rw [List.getElem?_append_left (by rw [← R.len]; exact hn)] at e2
      have r := R.obj n a o' e1 e2
      obtain ⟨z, hz⟩ := r.there
      exact r.mv m (upd_ne (ne_of_none hz hp))
    · have hlt := (List.getElem?_eq_some_iff.mp e1).1
      rw [List.length_append, List.length_singleton] at hlt
      have e : n = ρ.length := by omega
      subst e
      have e1' : a = p := by simpa using e1.symm
      have e2' : o' = o := by
        rw [R.len] at e2
        simpa using e2.symm
      rw [e1', e2']
      exact ro
theorem s_ownL {fr : AF} (ha : SA X es fr) : SE X (.List es pos) (ownArgs fr) := imE (pe_lst ha) fun τ H Q b0 q => by
  obtain ⟨O, ρ, σ, h, d, h', R, e, k⟩ := q b0
  unfold ownArgs at e
  split at e
  · cases e
  · rename_i ds h1 ea
    split at e
    · rename_i hz
      cases e
      refine aone R ea fun vs ρ1 H1 b1 m1 r1 p1 => ⟨by rw [← p1.length, ← szL_eq]; exact hz, fun p hp b => ?_⟩
      obtain ⟨m, rl, rp⟩ := own_new (u := .lst vs) (o := .lst ds) r1 hp ⟨vs, upd_same, p1.mv (own_mv hp)⟩
      exact k _ _ _ b (Rw.tr m1 r1 m) rl rp
    · cases e
end
end TB
namespace TB
open PySem PySem.Spec PyProof.Rows L2

/-! ### an object of ours is changed -/
theorem own_chg {Z : Zx} {O : Addr → Prop} {ρ : List Addr} {h : Hs} {H : Hp} (R : Rl Z O ρ h H) {n : Nat} {a : Addr} (hn : ρ[n]? = some a) (u : HO) : Mv ρ H ρ (upd H a u) :=
  ⟨⟨[], by simp, by simp⟩, fun b o e k => by rw [upd_ne (fun z => k (by rw [z]; exact List.mem_of_getElem? hn))]; exact e⟩
theorem own_upd {Z : Zx} {O : Addr → Prop} {ρ : List Addr} {h : Hs} {H : Hp} (R : Rl Z O ρ h H) {n : Nat} {a : Addr} (hn : ρ[n]? = some a) {u : HO} {o : Ob} (ro : RepO Z O ρ (upd H a u) a o) :
    Rl Z O ρ (h.set n o) (upd H a u) := by
  have m : Mv ρ H ρ (upd H a u) := own_chg R hn u
  refine ⟨by rw [List.length_set]; exact R.len, R.nd, R.dis, fun b hb => ?_, fun j b o' e1 e2 => ?_⟩
  · obtain ⟨z, e⟩ := R.dom b hb
    have : b ≠ a := fun q => R.dis a (List.mem_of_getElem? hn) (q ▸ hb)
    exact ⟨z, by rw [upd_ne this]; exact e⟩
  · by_cases hj : n = j
    · subst hj
      rw [hn] at e1; cases e1
      have hl : n < h.length := by rw [← R.len]; exact (List.getElem?_eq_some_iff.mp hn).1
      rw [List.getElem?_set_self hl] at e2
      cases e2
      exact ro
    · rw [List.getElem?_set_ne hj] at e2
      have r := R.obj j b o' e1 e2
      have hb : b ≠ a := fun q => hj (by
        subst q
        have h1 := (List.getElem?_eq_some_iff.mp hn)
        have h2 := (List.getElem?_eq_some_iff.mp e1)
        exact (List.getElem?_inj h1.1 R.nd).mp (hn.trans e1.symm))
      exact r.mv m (upd_ne hb)
section
variable {X : Cx} {a b c : Expr} {es rest : List Expr} {pos : Pos} {fa fb fc : EF} {fr : AF}

/-! ### subscripts -/
def ixS (h : Hs) (a b : D) : Option D := match viewQ h a with | some xs => (match b with | .int k => atI xs k | _ => none) | none => none
theorem Reps.atI {Z : Zx} {O : Addr → Prop} {ρ : List Addr} {H : Hp} {ds : List D} {vs : List V} {k : Int} {d : D} (r : Reps Z O ρ H ds vs) (e : L2.atI ds k = some d) : ∃ v, L2.atI vs k = some v ∧ Rep Z O ρ H d v := by
  unfold L2.atI at e ⊢
  rw [← r.length]
  cases ei : ixN ds.length k with
  | none => rw [ei] at e; cases e
  | some j => rw [ei] at e; exact r.get e
theorem ixS_ok : OpOk X (fun x y H Q => rIxL X.K x y H Q ∨ rIxT X.K x y H Q) ixS := by
  intro O ρ h H a b d x y Q bh R ra rb e k
  unfold ixS at e
  cases e1 : viewQ h a with
  | none => simp [e1] at e
  | some xs =>
    simp only [e1] at e
    cases b with
    | int i =>
      simp only at e
      obtain ⟨p, vs, rfl, hq, rs⟩ := viewQ_rep R e1 ra
      obtain ⟨v, hv, rv⟩ := rs.atI e
      rcases hq with hq | hq
      · exact .inl ⟨p, vs, i, v, rfl, rb.intE, hq, hv, k v H Mv.refl R rv⟩
      · exact .inr ⟨p, vs, i, v, rfl, rb.intE, hq, hv, k v H Mv.refl R rv⟩
    | _ => simp at e

/-! ### slices -/
def cutD (xs : List D) (lo hi : Option Int) : List D := (xs.drop (HT.sIx xs.length 0 lo)).take (HT.sIx xs.length xs.length hi - HT.sIx xs.length 0 lo)
theorem Reps.cut {Z : Zx} {O : Addr → Prop} {ρ : List Addr} {H : Hp} {ds : List D} {vs : List V} {lo hi : Option Int} (r : Reps Z O ρ H ds vs) : Reps Z O ρ H (cutD ds lo hi) (cutV vs lo hi) := by
  unfold cutD cutV
  rw [r.length]
  exact (r.drop _).take _
abbrev OF := Fr → Hs → Option (Option Int × Hs)
def oNone : OF := fun _ h => some (none, h)
def oSome (f : EF) : OF := fun σ h => match f σ h with | some (.int i, h1) => some (some i, h1) | _ => none
def tO (Z : Zx) (f : OF) : TO := fun τ H Q => BH Z.K H → ∃ O ρ σ h o h', Rw Z O ρ σ h τ H ∧ f σ h = some (o, h') ∧ ∀ ρ' H', BH Z.K H' → Mv ρ H ρ' H' → Rl Z O ρ' h' H' → Q o H'
def SO (X : Cx) (e : Option Expr) (f : OF) : Prop := PO X e (tO (Zx.of X) f)
theorem imO {e : Option Expr} {t u : TO} (h : PO X e t) (k : ∀ τ H Q, BH X.K H → u τ H Q → t τ H fun v H' => BH X.K H' → Q v H') : PO X e u := ⟨fun p s τ H Q I q =>
  thn (h.run p s τ H _ I (k τ H Q (bh_of I) q)) fun _ _ ⟨v, H', I', r, q⟩ => ⟨v, H', I', r, q (bh_of I')⟩⟩
theorem s_onone : SO X none oNone := imO po_none fun τ H Q b0 q => by
  obtain ⟨O, ρ, σ, h, o, h', R, e, k⟩ := q b0
  cases e
  exact fun b => k ρ H b Mv.refl R.l
theorem s_osome (ha : SE X a fa) : SO X (some a) (oSome fa) := imO (po_some ha) fun τ H Q b0 q => by
  obtain ⟨O, ρ, σ, h, o, h', R, e, k⟩ := q b0
  unfold oSome at e
  split at e
  · rename_i i h1 ea
    cases e
    exact one R ea fun v ρ1 H1 b1 m1 r1 p1 => ⟨i, p1.intE, fun _ => k ρ1 H1 b1 m1 r1⟩
  · cases e
def eSl (fa : EF) (fl fh : OF) : EF := fun σ h => match fa σ h with
  | none => none
  | some (d, h1) => match fl σ h1 with
    | none => none
    | some (lo, h2) => match fh σ h2 with
      | none => none
      | some (hi, h3) => match viewT d with
        | some xs => some (.tup (cutD xs lo hi), h3)
        | none => match viewL h3 d with
          | some xs => some (.lst (cutD xs lo hi), h3)
          | none => none
theorem whole {α : Type} (xs : List α) {lo hi : Option Int} (h : HT.sIx xs.length 0 lo = 0 ∧ HT.sIx xs.length xs.length hi = xs.length) : (xs.drop (HT.sIx xs.length 0 lo)).take (HT.sIx xs.length xs.length hi - HT.sIx xs.length 0 lo) = xs := by
  rw [h.1, h.2]
  simp
theorem s_slice {lo hi : Option Expr} {fl fh : OF} {p2 : Pos} (ha : SE X a fa) (hl : SO X lo fl) (hh : SO X hi fh) : SE X (.Subscript a (.Slice lo hi none p2) pos) (eSl fa fl fh) := imE (pe_slice (SlR.or sl_tupA sl_list) ha hl hh) fun τ H Q b0 q => by
  obtain ⟨O, ρ, σ, h, d, h', R, e, k⟩ := q b0
  unfold eSl at e
  split at e
  · cases e
  · rename_i d1 h1 ea
    split at e
    · cases e
    · rename_i l h2 el
      split at e
      · cases e
      · rename_i u h3 eh
        refine one R ea fun v1 ρ1 H1 b1 m1 r1 p1 => fun _ => ⟨O, ρ1, σ, h1, l, h2, R.mv m1 r1, el, fun ρ2 H2 b2 m2 r2 _ => ⟨O, ρ2, σ, h2, u, h3, (R.mv m1 r1).mv m2 r2, eh, fun ρ3 H3 b3 m3 r3 => ?_⟩⟩
        have p3 := (p1.mv m2).mv m3
        have m13 := Rw.tr (Rw.tr m1 r1 m2 |> fun m => m) r2 m3
        split at e
        · rename_i xs ex
          cases e
          obtain ⟨p, vs, rfl, hp, np, rs⟩ := viewT_rep ex p3
          refine .inl ⟨p, vs, rfl, SqT.of hp, fun z => ?_, fun _ => frT r3 rs.cut fun v H' m r p b => k v ρ3 H' b (Rw.tr m13 r3 m) r p⟩
          intro b
          refine k _ ρ3 H3 b m13 r3 ?_
          have e2 : cutD xs l u = xs := by
            unfold cutD
            rw [rs.length]
            rw [← rs.length] at z ⊢
            exact whole xs z
          rw [e2]
          exact .tup hp np rs
        · split at e
          · rename_i xs ex
            cases e
            obtain ⟨p, vs, rfl, hp, rs⟩ := viewL_rep r3 ex p3
            exact .inr ⟨p, vs, rfl, SqL.of hp, frL r3 rs.cut fun v H' m r p b => k v ρ3 H' b (Rw.tr m13 r3 m) r p⟩
          · cases e

/-! ### built-in calls by values -/
def FnR (X : Cx) (r : List V → Hp → VK → Prop) (op : Hs → List D → Option D) : Prop := ∀ (O : Addr → Prop) (ρ : List Addr) (h : Hs) (H : Hp) (ds : List D) (d : D) (vs : List V) (Q : VK), BH X.K H → Rl (Zx.of X) O ρ h H → Reps (Zx.of X) O ρ H ds vs → op h ds = some d →
  (∀ v H', Mv ρ H ρ H' → Rl (Zx.of X) O ρ h H' → Rep (Zx.of X) O ρ H' d v → Q v H') → r vs H Q
theorem tCB_of {r : List V → Hp → VK → Prop} {op : Hs → List D → Option D} (ho : FnR X r op) {τ : L2.St} {H : Hp} {Q : VK} (b0 : BH X.K H) (q : tE (Zx.of X) (eArgs fr op) τ H Q) : tCB r (tA (Zx.of X) fr) τ H fun v H' => BH X.K H' → Q v H' := by
  obtain ⟨O, ρ, σ, h, d, h', R, e, k⟩ := q b0
  obtain ⟨ds, ea, eo⟩ := eArgs_some e
  exact aone R ea fun vs ρ1 H1 b1 m1 r1 p1 => ho O ρ1 h' H1 ds d vs _ b1 r1 p1 eo fun v H2 m2 r2 p2 b2 => k v ρ1 H2 b2 (Rw.tr m1 r1 m2) r2 p2
theorem FnR.or {r r' : List V → Hp → VK → Prop} {op op' : Hs → List D → Option D} (h : FnR X r op) (h' : FnR X r' op') : FnR X (fun xs H Q => r xs H Q ∨ r' xs H Q) (fun h ds => match op h ds with | some c => some c | none => op' h ds) := by
  intro O ρ h0 H ds d vs Q bh R rs e k
  cases eo : op h0 ds with
  | some c => simp only [eo, Option.some.injEq] at e; subst e; exact .inl (h O ρ h0 H ds c vs Q bh R rs eo k)
  | none => simp only [eo] at e; exact .inr (h' O ρ h0 H ds d vs Q bh R rs e k)
theorem s_blt {x : Str} {id : String} {p : Pos} {r : List V → Hp → VK → Prop} {op : Hs → List D → Option D} (hr : CallR X (.builtin id) r) (ho : FnR X r op) (hg : Gl X x) (hm : X.mg x = none) (hv : bootBuiltins x = some (.builtin id)) (ha : SA X (a :: es) fr) (hn : x ≠ "__name__" := by decide) (hdb : (x == ("__debug__" : Str)) = false := by decide)
    (he : starEach (a :: es) X.env = (false, eval a X.env) :: starEach es X.env := by rfl) (hpl : (backTo pos (starEach es X.env)).any (·.1) = false := by rfl) : SE X (.Call (.Name x p) (a :: es) [] pos) (eArgs fr op) :=
  imE (pe_callB hr hg hm hv ha hn hdb he hpl) fun _ _ _ b0 q => tCB_of ho b0 q
theorem s_bty {x : Str} {T : String} {p : Pos} {r : List V → Hp → VK → Prop} {op : Hs → List D → Option D} (hr : CallR X (.type T) r) (ho : FnR X r op) (hg : Gl X x) (hm : X.mg x = none) (hv : bootBuiltins x = some (.type T)) (ha : SA X (a :: es) fr) (hn : x ≠ "__name__" := by decide) (hdb : (x == ("__debug__" : Str)) = false := by decide)
    (he : starEach (a :: es) X.env = (false, eval a X.env) :: starEach es X.env := by rfl) (hpl : (backTo pos (starEach es X.env)).any (·.1) = false := by rfl) : SE X (.Call (.Name x p) (a :: es) [] pos) (eArgs fr op) :=
  imE (pe_callTy hr hg hm hv ha hn hdb he hpl) fun _ _ _ b0 q => tCB_of ho b0 q
theorem Reps.one {Z : Zx} {O : Addr → Prop} {ρ : List Addr} {H : Hp} {d : D} {vs : List V} (r : Reps Z O ρ H [d] vs) : ∃ v, vs = [v] ∧ Rep Z O ρ H d v := by
  cases r with
  | cons h t => cases t; exact ⟨_, rfl, h⟩
theorem Reps.two {Z : Zx} {O : Addr → Prop} {ρ : List Addr} {H : Hp} {d e : D} {vs : List V} (r : Reps Z O ρ H [d, e] vs) : ∃ v u, vs = [v, u] ∧ Rep Z O ρ H d v ∧ Rep Z O ρ H e u := by
  cases r with
  | cons h t =>
    obtain ⟨u, rfl, h2⟩ := t.one
    exact ⟨_, _, rfl, h, h2⟩
def lenS (h : Hs) (ds : List D) : Option D := match ds with | [d] => (match viewQ h d with | some xs => some (.int xs.length) | none => none) | _ => none
theorem lenS_ok : FnR X (fun xs H Q => ∃ p ys, xs = [.ref p] ∧ (SqL X.K H p ys ∨ SqT X.K H p ys) ∧ Q (.int ys.length) H) lenS := by
  intro O ρ h H ds d vs Q bh R rs e k
  unfold lenS at e
  split at e
  · rename_i d1
    cases e1 : viewQ h d1 with
    | none => simp [e1] at e
    | some xs =>
      simp only [e1, Option.some.injEq] at e
      subst e
      obtain ⟨v, rfl, rv⟩ := rs.one
      obtain ⟨p, us, rfl, hq, ru⟩ := viewQ_rep R e1 rv
      exact ⟨p, us, rfl, hq, by rw [← ru.length]; exact k _ H Mv.refl R (.int _)⟩
  · cases e
def tupS (h : Hs) (ds : List D) : Option D := match ds with | [d] => (match viewT d with | some xs => some (.tup xs) | none => match viewL h d with | some xs => some (.tup xs) | none => none) | _ => none
theorem tupS_ok : FnR X (fun xs H Q => ∃ p ys, xs = [.ref p] ∧ ((SqL X.K H p ys ∧ ∀ l, H l = none → Q (.ref l) (upd H l (.tup ys))) ∨ (SqT X.K H p ys ∧ Q (.ref p) H))) tupS := by
  intro O ρ h H ds d vs Q bh R rs e k
  unfold tupS at e
  split at e
  · rename_i d1
    obtain ⟨v, rfl, rv⟩ := rs.one
    cases e1 : viewT d1 with
    | some xs =>
      simp only [e1, Option.some.injEq] at e
      subst e
      obtain ⟨p, us, rfl, hq, nq, ru⟩ := viewT_rep e1 rv
      exact ⟨p, us, rfl, .inr ⟨SqT.of hq, k _ H Mv.refl R (.tup hq nq ru)⟩⟩
    | none =>
      simp only [e1] at e
      cases e2 : viewL h d1 with
      | none => simp [e2] at e
      | some xs =>
        simp only [e2, Option.some.injEq] at e
        subst e
        obtain ⟨p, us, rfl, hq, ru⟩ := viewL_rep R e2 rv
        exact ⟨p, us, rfl, .inl ⟨SqL.of hq, frT R ru k⟩⟩
  · cases e
def lstS (h : Hs) (ds : List D) : Option D := match ds with | [d] => (match viewQ h d with | some xs => some (.lst xs) | none => none) | _ => none
theorem lstS_ok : FnR X (fun xs H Q => ∃ p ys, xs = [.ref p] ∧ (SqL X.K H p ys ∨ SqT X.K H p ys) ∧ ∀ l, H l = none → Q (.ref l) (upd H l (.lst ys))) lstS := by
  intro O ρ h H ds d vs Q bh R rs e k
  unfold lstS at e
  split at e
  · rename_i d1
    obtain ⟨v, rfl, rv⟩ := rs.one
    cases e1 : viewQ h d1 with
    | none => simp [e1] at e
    | some xs =>
      simp only [e1, Option.some.injEq] at e
      subst e
      obtain ⟨p, us, rfl, hq, ru⟩ := viewQ_rep R e1 rv
      exact ⟨p, us, rfl, hq, frL R ru k⟩
  · cases e
def intS (_ : Hs) (ds : List D) : Option D := match ds with | [.int i] => some (.int i) | [.bl b] => some (.int (if b then 1 else 0)) | _ => none
theorem intS_ok : FnR X (fun xs H Q => (∃ i, xs = [.int i] ∧ Q (.int i) H) ∨ ∃ k, xs = [.bl k] ∧ Q (.int (if k then 1 else 0)) H) intS := by
  intro O ρ h H ds d vs Q bh R rs e k
  unfold intS at e
  split at e
  · rename_i i
    cases e
    obtain ⟨v, rfl, rv⟩ := rs.one
    exact .inl ⟨i, by rw [rv.intE], k _ H Mv.refl R (.int _)⟩
  · rename_i i
    cases e
    obtain ⟨v, rfl, rv⟩ := rs.one
    exact .inr ⟨i, by rw [rv.blE], k _ H Mv.refl R (.int _)⟩
  · cases e
def maxS (_ : Hs) (ds : List D) : Option D := match ds with | [.int i, .int j] => some (.int (if j > i then j else i)) | _ => none
def minS (_ : Hs) (ds : List D) : Option D := match ds with | [.int i, .int j] => some (.int (if j < i then j else i)) | _ => none
theorem maxS_ok : FnR X (fun xs H Q => ∃ i j, xs = [.int i, .int j] ∧ Q (.int (if j > i then j else i)) H) maxS := by
  intro O ρ h H ds d vs Q bh R rs e k
  unfold maxS at e
  split at e
  · rename_i i j
    cases e
    obtain ⟨v, u, rfl, rv, ru⟩ := rs.two
    exact ⟨i, j, by rw [rv.intE, ru.intE], k _ H Mv.refl R (.int _)⟩
  · cases e
theorem minS_ok : FnR X (fun xs H Q => ∃ i j, xs = [.int i, .int j] ∧ Q (.int (if j < i then j else i)) H) minS := by
  intro O ρ h H ds d vs Q bh R rs e k
  unfold minS at e
  split at e
  · rename_i i j
    cases e
    obtain ⟨v, u, rfl, rv, ru⟩ := rs.two
    exact ⟨i, j, by rw [rv.intE, ru.intE], k _ H Mv.refl R (.int _)⟩
  · cases e
/-- all, any of a list of True, False -/
def bools : List D → Option (List Bool)
  | [] => some []
  | .bl b :: r => (match bools r with | some bs => some (b :: bs) | none => none)
  | _ :: _ => none
def allS (h : Hs) (ds : List D) : Option D := match ds with | [d] => (match viewL h d with | some xs => (match bools xs with | some bs => some (.bl (bs.all id)) | none => none) | none => none) | _ => none
def anyS (h : Hs) (ds : List D) : Option D := match ds with | [d] => (match viewL h d with | some xs => (match bools xs with | some bs => some (.bl (bs.any id)) | none => none) | none => none) | _ => none
theorem bools_eq : ∀ {xs : List D} {bs : List Bool}, bools xs = some bs → xs = bs.map D.bl
  | [], bs, h => by cases h; rfl
  | .bl b :: r, bs, h => by
    simp only [bools] at h
    cases e : bools r with
    | none => simp [e] at h
    | some q => simp only [e, Option.some.injEq] at h; subst h; rw [List.map_cons, bools_eq e]
  | .non :: _, _, h => by simp [bools] at h
  | .int _ :: _, _, h => by simp [bools] at h
  | .str _ :: _, _, h => by simp [bools] at h
  | .tup _ :: _, _, h => by simp [bools] at h
  | .lst _ :: _, _, h => by simp [bools] at h
  | .dic _ _ :: _, _, h => by simp [bools] at h
  | .ref _ :: _, _, h => by simp [bools] at h
  | .scr _ :: _, _, h => by simp [bools] at h
theorem Reps.bls {Z : Zx} {O : Addr → Prop} {ρ : List Addr} {H : Hp} : ∀ {bs : List Bool} {vs : List V}, Reps Z O ρ H (bs.map D.bl) vs → vs = bs.map V.bl
  | [], _, .nil => rfl
  | b :: bs, _, .cons h t => by rw [h.blE, Reps.bls t, List.map_cons]
theorem Reps.ints {Z : Zx} {O : Addr → Prop} {ρ : List Addr} {H : Hp} : ∀ {ns : List Int} {vs : List V}, Reps Z O ρ H (ns.map D.int) vs → vs = ns.map V.int
  | [], _, .nil => rfl
  | n :: ns, _, .cons h t => by rw [h.intE, Reps.ints t, List.map_cons]
end
end TB
namespace TB
open PySem PySem.Spec PyProof.Rows L2

/-! ### values without references; what a def hands back -/
mutual
def D.nr : D → Bool
  | .non => true
  | .bl _ => true
  | .int _ => true
  | .str _ => true
  | .tup xs => nrA xs
  | .lst xs => nrA xs
  | .dic ks vs => nrA ks && nrA vs
  | .ref _ => false
  | .scr xs => nrA xs
def nrA : List D → Bool
  | [] => true
  | x :: xs => D.nr x && nrA xs
end
mutual
/-- each reference by what r says of it -/
def D.sub (r : Nat → Option D) : D → Option D
  | .ref n => r n
  | .tup xs => match subA r xs with | some ys => some (.tup ys) | none => none
  | .lst xs => match subA r xs with | some ys => some (.lst ys) | none => none
  | .dic ks vs => if nrA ks then (match subA r vs with | some vs' => some (.dic ks vs') | none => none) else none
  | .non => some .non
  | .bl b => some (.bl b)
  | .int i => some (.int i)
  | .str x => some (.str x)
  | .scr xs => if nrA xs then some (.scr xs) else none
def subA (r : Nat → Option D) : List D → Option (List D)
  | [] => some []
  | x :: xs => match D.sub r x with | some y => (match subA r xs with | some ys => some (y :: ys) | none => none) | none => none
end
/-- frozen: what is made from place n0 on -/
def fzN (n0 : Nat) : Nat → Hs → D → Option D
  | 0, _, d => if d.nr then some d else none
  | n + 1, h, d => if d.nr then some d else d.sub fun k => if k < n0 then none else match h[k]? with
    | some (.lst xs) => (match subA (fun j => fzN n0 n h (.ref j)) xs with | some ys => some (.lst ys) | none => none)
    | some (.dic ks us) => if nrA ks then (match subA (fun j => fzN n0 n h (.ref j)) us with | some vs => some (.dic ks vs) | none => none) else none
    | none => none
def fz : Hs → D → Option D := fzN 0 4
/-- a body's value -/
def runB (f : SF) (σ : Fr) : Option D := match f σ [] with
  | some (.rt d h) => fz h d
  | some (.nx _ _) => some .non
  | _ => none
def start0 (n : Nat) (ds : List D) : Fr := ds.map some ++ List.replicate (n - ds.length) none
/-- the def with so many parameters, so many names -/
def runP (np n : Nat) (f : SF) (ds : List D) : Option D := if ds.length = np then runB f (start0 n ds) else none
mutual
/-- references to the first n things only -/
def D.rl (n : Nat) : D → Bool
  | .non => true
  | .bl _ => true
  | .int _ => true
  | .str _ => true
  | .tup xs => rlA n xs
  | .lst xs => rlA n xs
  | .dic ks vs => rlA n ks && rlA n vs
  | .ref k => decide (k < n)
  | .scr xs => rlA n xs
def rlA (n : Nat) : List D → Bool
  | [] => true
  | x :: xs => D.rl n x && rlA n xs
end
def Ob.rl (n : Nat) : Ob → Bool
  | .lst xs => rlA n xs
  | .dic ks us => rlA n ks && rlA n us
/-- .. a body that is given things of its caller's: its value, and how they stand behind it -/
def runG (np n : Nat) (f : SF) (h : Hs) (ds : List D) : Option (D × Hs) :=
  if ds.length = np then (match f (start0 n ds) h with
    | some (.rt d h') => (match fzN h.length 4 h' d with
      | some d' => if (h'.take h.length).all (Ob.rl h.length) then some (d', h'.take h.length) else none
      | none => none)
    | some (.nx _ h') => if (h'.take h.length).all (Ob.rl h.length) then some (.non, h'.take h.length) else none
    | _ => none) else none
/-- .. that hands new ones to its caller -/
def runK (np n : Nat) (f : SF) (h : Hs) (ds : List D) : Option (D × Hs) :=
  if ds.length = np then (match f (start0 n ds) h with
    | some (.rt d h') => some (d, h')
    | some (.nx _ h') => some (.non, h')
    | _ => none) else none

section
variable {Z : Zx} {O O' : Addr → Prop} {ρ ρ' : List Addr} {H : Hp}
/-- where tuples and frozen things stay frozen -/
structure Shift (K : PySem.W.Frag) (O : Addr → Prop) (ρ : List Addr) (O' : Addr → Prop) (ρ' : List Addr) (H : Hp) : Prop where
  tup : ∀ a vs, H a = some (.tup vs) → a ∉ ρ → a ∉ ρ'
  frz : ∀ a, a ∉ ρ → ¬ O a → (∃ o, H a = some o) → a ∉ ρ' ∧ ¬ O' a
theorem Fz.shift {K : PySem.W.Frag} {a : Addr} {vs : List V} (s : Shift K O ρ O' ρ' H) (f : Fz K O ρ H a vs) : Fz K O' ρ' H a vs := by
  rcases f with ⟨r, n, o⟩ | f
  · refine .inl ⟨r, s.frz a n o ?_⟩
    rcases r with r | ⟨_, r⟩ <;> exact ⟨_, r⟩
  · exact .inr f
mutual
theorem Rep.shift (s : Shift Z.K O ρ O' ρ' H) : ∀ {d : D} {v : V}, d.nr = true → Rep Z O ρ H d v → Rep Z O' ρ' H d v
  | _, _, _, .non => .non
  | _, _, _, .bl b => .bl b
  | _, _, _, .int i => .int i
  | _, _, _, .str x => .str x
  | _, _, h, .tup e n r => .tup e (s.tup _ _ e n) (Reps.shift s (by simpa [D.nr] using h) r)
  | _, _, h, .lst f r => .lst ⟨f.1, s.frz _ f.2.1 f.2.2 ⟨_, f.1⟩⟩ (Reps.shift s (by simpa [D.nr] using h) r)
  | _, _, h, .scr f r => .scr (f.shift s) (Reps.shift s (by simpa [D.nr] using h) r)
  | _, _, h, .ref _ => by simp [D.nr] at h
  | _, _, h, .dicK e n o r t => by
    simp only [D.nr, Bool.and_eq_true] at h
    have f := s.frz _ n o ⟨_, e⟩
    exact .dicK e f.1 f.2 (Reps.shift s h.1 r) (Reps.shift s h.2 t)
  | _, _, h, .dicT e n o q r t => by
    simp only [D.nr, Bool.and_eq_true] at h
    have f := s.frz _ n o ⟨_, e⟩
    exact .dicT e f.1 f.2 q (Reps.shift s h.1 r) (Reps.shift s h.2 t)
theorem Reps.shift (s : Shift Z.K O ρ O' ρ' H) : ∀ {ds : List D} {vs : List V}, nrA ds = true → Reps Z O ρ H ds vs → Reps Z O' ρ' H ds vs
  | _, _, _, .nil => .nil
  | _, _, h, .cons q t => by
    simp only [nrA, Bool.and_eq_true] at h
    exact .cons (Rep.shift s h.1 q) (Reps.shift s h.2 t)
end

theorem RepO.notup {a : Addr} {o : Ob} {vs : List V} (r : RepO Z O ρ H a o) (e : H a = some (.tup vs)) : False := by
  cases o with
  | lst xs => obtain ⟨us, h, _⟩ := r; rw [e] at h; cases h
  | dic ks us => rcases r with ⟨_, h, _⟩ | ⟨_, _, h, _⟩ <;> (rw [e] at h; cases h)
theorem Rl.notup {h : Hs} (R : Rl Z O ρ h H) {a : Addr} {vs : List V} (ha : a ∈ ρ) (e : H a = some (.tup vs)) : False := by
  obtain ⟨n, hn, ea⟩ := List.getElem_of_mem ha
  have h1 : ρ[n]? = some a := by rw [List.getElem?_eq_getElem hn, ea]
  obtain ⟨o, _, ro⟩ := R.ob h1
  exact ro.notup e
mutual
theorem Rep.nr : ∀ {d : D} {v : V}, Rep Z O [] H d v → d.nr = true
  | _, _, .non => rfl
  | _, _, .bl b => rfl
  | _, _, .int i => rfl
  | _, _, .str x => rfl
  | _, _, .tup e n r => by simp only [D.nr]; exact Reps.nr r
  | _, _, .lst f r => by simp only [D.nr]; exact Reps.nr r
  | _, _, .scr f r => by simp only [D.nr]; exact Reps.nr r
  | _, _, .ref h => by simp at h
  | _, _, .dicK _ _ _ r t => by simp only [D.nr, Reps.nr r, Reps.nr t, Bool.and_self]
  | _, _, .dicT _ _ _ _ r t => by simp only [D.nr, Reps.nr r, Reps.nr t, Bool.and_self]
theorem Reps.nr : ∀ {ds : List D} {vs : List V}, Reps Z O [] H ds vs → nrA ds = true
  | _, _, .nil => rfl
  | _, _, .cons q t => by simp only [nrA, Rep.nr q, Reps.nr t, Bool.and_self]
end
theorem shift_nil {K : PySem.W.Frag} : Shift K O ρ O [] H := ⟨fun _ _ _ _ => List.not_mem_nil, fun _ _ h _ => ⟨List.not_mem_nil, h⟩⟩
theorem shift_sub {K : PySem.W.Frag} {ρ2 : List Addr} (k : ∀ a ∈ ρ2, a ∈ ρ) : Shift K O ρ O ρ2 H := ⟨fun _ _ _ n m => n (k _ m), fun _ n o _ => ⟨fun m => n (k _ m), o⟩⟩
mutual
theorem sub_rep {ρ2 : List Addr} (sh : ∀ a ∈ ρ2, a ∈ ρ) {r : Nat → Option D} (hr : ∀ k d' v, r k = some d' → Rep Z O ρ H (.ref k) v → Rep Z O ρ2 H d' v) : ∀ (d : D) {d' : D} {v : V}, d.sub r = some d' → Rep Z O ρ H d v → Rep Z O ρ2 H d' v
  | .non, _, _, e, q => by simp only [D.sub, Option.some.injEq] at e; subst e; cases q; exact .non
  | .bl b, _, _, e, q => by simp only [D.sub, Option.some.injEq] at e; subst e; cases q; exact .bl b
  | .int b, _, _, e, q => by simp only [D.sub, Option.some.injEq] at e; subst e; cases q; exact .int b
  | .str b, _, _, e, q => by simp only [D.sub, Option.some.injEq] at e; subst e; cases q; exact .str b
  | .tup xs, _, _, e, q => by
    simp only [D.sub] at e
    cases es : subA r xs with
    | none => simp [es] at e
    | some ys =>
      simp only [es, Option.some.injEq] at e; subst e
      obtain ⟨a, vs, rfl, h, n, t⟩ := q.tupE
      exact .tup h (fun m => n (sh _ m)) (subA_rep sh hr xs es t)
  | .lst xs, _, _, e, q => by
    simp only [D.sub] at e
    cases es : subA r xs with
    | none => simp [es] at e
    | some ys =>
      simp only [es, Option.some.injEq] at e; subst e
      obtain ⟨a, vs, rfl, f, t⟩ := q.lstE
      exact .lst ⟨f.1, fun m => f.2.1 (sh _ m), f.2.2⟩ (subA_rep sh hr xs es t)
  | .scr xs, _, _, e, q => by
    simp only [D.sub] at e
    split at e
    · rename_i hn
      simp only [Option.some.injEq] at e; subst e
      obtain ⟨a, vs, rfl, f, t⟩ := q.scrE
      exact .scr (f.shift (shift_sub sh)) (Reps.shift (shift_sub sh) hn t)
    · cases e
  | .dic ks us, _, _, e, q => by
    simp only [D.sub] at e
    split at e
    · rename_i hn
      cases es : subA r us with
      | none => simp [es] at e
      | some ys =>
        simp only [es, Option.some.injEq] at e; subst e
        cases q with
        | dicK h n o rk rv => exact .dicK h (fun m => n (sh _ m)) o (rk.shift (shift_sub sh) hn) (subA_rep sh hr us es rv)
        | dicT h n o q rk rv => exact .dicT h (fun m => n (sh _ m)) o q (rk.shift (shift_sub sh) hn) (subA_rep sh hr us es rv)
    · cases e
  | .ref n, _, _, e, q => hr n _ _ (by simpa [D.sub] using e) q
theorem subA_rep {ρ2 : List Addr} (sh : ∀ a ∈ ρ2, a ∈ ρ) {r : Nat → Option D} (hr : ∀ k d' v, r k = some d' → Rep Z O ρ H (.ref k) v → Rep Z O ρ2 H d' v) : ∀ (ds : List D) {ds' : List D} {vs : List V}, subA r ds = some ds' → Reps Z O ρ H ds vs → Reps Z O ρ2 H ds' vs
  | [], _, _, e, q => by simp only [subA, Option.some.injEq] at e; subst e; cases q; exact .nil
  | d :: ds, _, _, e, q => by
    simp only [subA] at e
    obtain ⟨u, us, rfl, h, t⟩ := q.consD
    cases e1 : D.sub r d with
    | none => simp [e1] at e
    | some y =>
      cases e2 : subA r ds with
      | none => simp [e1, e2] at e
      | some ys => simp only [e1, e2, Option.some.injEq] at e; subst e; exact .cons (sub_rep sh hr d e1 h) (subA_rep sh hr ds e2 t)
end
mutual
theorem Rep.cutR {n0 : Nat} : ∀ {d : D} {v : V}, d.rl n0 = true → Rep Z O ρ H d v → Rep Z O (ρ.take n0) H d v
  | _, _, _, .non => .non
  | _, _, _, .bl b => .bl b
  | _, _, _, .int i => .int i
  | _, _, _, .str x => .str x
  | _, _, h, .tup e n r => .tup e (fun m => n (List.mem_of_mem_take m)) (Reps.cutR (by simpa [D.rl] using h) r)
  | _, _, h, .lst f r => .lst ⟨f.1, fun m => f.2.1 (List.mem_of_mem_take m), f.2.2⟩ (Reps.cutR (by simpa [D.rl] using h) r)
  | _, _, h, .scr f r => .scr (f.shift (shift_sub fun _ m => List.mem_of_mem_take m)) (Reps.cutR (by simpa [D.rl] using h) r)
  | .ref k, _, h, r => by
      obtain ⟨a, rfl, e⟩ := r.refE
      have hk : k < n0 := by simpa [D.rl] using h
      exact .ref (by rw [List.getElem?_take_of_lt hk]; exact e)
  | _, _, h, .dicK e n o r t => by
    simp only [D.rl, Bool.and_eq_true] at h
    exact .dicK e (fun m => n (List.mem_of_mem_take m)) o (Reps.cutR h.1 r) (Reps.cutR h.2 t)
  | _, _, h, .dicT e n o q r t => by
    simp only [D.rl, Bool.and_eq_true] at h
    exact .dicT e (fun m => n (List.mem_of_mem_take m)) o q (Reps.cutR h.1 r) (Reps.cutR h.2 t)
theorem Reps.cutR {n0 : Nat} : ∀ {ds : List D} {vs : List V}, rlA n0 ds = true → Reps Z O ρ H ds vs → Reps Z O (ρ.take n0) H ds vs
  | _, _, _, .nil => .nil
  | _, _, h, .cons q t => by
    simp only [rlA, Bool.and_eq_true] at h
    exact .cons (Rep.cutR h.1 q) (Reps.cutR h.2 t)
end
/-- all the dicts from place n0 on are locked -/
structure Lkd (Z : Zx) (O : Addr → Prop) (ρ : List Addr) (n0 : Nat) (h : Hs) (H H' : Hp) : Prop where
  keep : ∀ a o, H a = some o → a ∉ ρ.drop n0 → H' a = some o
  lst : ∀ (n : Nat) (a : Addr) (xs : List D), ρ[n]? = some a → h[n]? = some (.lst xs) → H' a = H a
  dic : ∀ (n : Nat) (a : Addr) (ks us : List D), n0 ≤ n → ρ[n]? = some a → h[n]? = some (.dic ks us) → ∃ od u, H a = some u ∧ H' a = some (.frz od u)
theorem Lkd.mv {n0 : Nat} {h : Hs} {H' : Hp} (L : Lkd Z O ρ n0 h H H') : Mv ρ H ρ H' := ⟨⟨[], by simp, by simp⟩, fun a o e n => L.keep a o e fun m => n (List.mem_of_mem_drop m)⟩
theorem fzN_rep {n0 : Nat} {h : Hs} {H' : Hp} (R : Rl Z O ρ h H) (L : Lkd Z O ρ n0 h H H') : ∀ (n : Nat) {d d' : D} {v : V}, fzN n0 n h d = some d' → Rep Z O ρ H' d v → Rep Z O (ρ.take n0) H' d' v
  | 0, d, d', v, e, r => by
    unfold fzN at e
    split at e
    · rename_i hn; cases e; exact r.shift (shift_sub fun _ m => List.mem_of_mem_take m) hn
    · cases e
  | n + 1, d, d', v, e, r => by
    unfold fzN at e
    split at e
    · rename_i hn; cases e; exact r.shift (shift_sub fun _ m => List.mem_of_mem_take m) hn
    · refine sub_rep (fun _ m => List.mem_of_mem_take m) (fun k x u ek rk => ?_) d e r
      obtain ⟨a, rfl, ha⟩ := rk.refE
      obtain ⟨o, ho, ro⟩ := R.ob ha
      have hO : ¬ O a := R.dis a (List.mem_of_getElem? ha)
      split at ek
      · cases ek
      · rename_i hk
        have hnt : a ∉ ρ.take n0 := fun m => by
          obtain ⟨j, hj, ej⟩ := List.getElem_of_mem m
          have hj' : j < n0 := by rw [List.length_take] at hj; omega
          have e1 : ρ[j]? = some a := by
            rw [← List.getElem?_take_of_lt hj', List.getElem?_eq_getElem hj, ej]
          have hj2 := (List.getElem?_eq_some_iff.mp e1).1
          have e2 := (List.getElem?_inj hj2 R.nd).mp (e1.trans ha.symm)
          omega
        simp only [ho] at ek
        cases o with
        | lst xs =>
          simp only at ek
          cases es : subA (fun j => fzN n0 n h (.ref j)) xs with
          | none => simp [es] at ek
          | some ys =>
            simp only [es, Option.some.injEq] at ek; subst ek
            obtain ⟨vs, hv, rs⟩ := ro
            exact .lst ⟨by rw [L.lst k a xs ha ho]; exact hv, hnt, hO⟩ (subA_rep (fun _ m => List.mem_of_mem_take m) (fun j x u ej rj => fzN_rep R L n ej rj) xs es (rs.mv L.mv))
        | dic ks us =>
          simp only at ek
          split at ek
          · rename_i hks
            cases es : subA (fun j => fzN n0 n h (.ref j)) us with
            | none => simp [es] at ek
            | some ys =>
              simp only [es, Option.some.injEq] at ek; subst ek
              obtain ⟨od, u, hu, hf⟩ := L.dic k a ks us (by omega) ha ho
              rcases ro with ⟨l, h1, h2, h3⟩ | ⟨bs, vs, h1, h2, h3, h4, h5⟩
              · rw [h1] at hu; cases hu
                exact .dicK hf hnt hO ((h2.mv L.mv).shift (shift_sub fun _ m => List.mem_of_mem_take m) hks) (subA_rep (fun _ m => List.mem_of_mem_take m) (fun j x u ej rj => fzN_rep R L n ej rj) us es (h3.mv L.mv))
              · rw [h1] at hu; cases hu
                exact .dicT hf hnt hO h2 ((h3.mv L.mv).shift (shift_sub fun _ m => List.mem_of_mem_take m) hks) (subA_rep (fun _ m => List.mem_of_mem_take m) (fun j x u ej rj => fzN_rep R L n ej rj) us es (h4.mv L.mv))
          · cases ek

/-! ### locking at the end -/
def locks : Nat → Hp → (Hp → Prop) → Prop
  | 0, H, k => k H
  | n + 1, H, k => locks n H k ∨ ∃ a u, H a = some u ∧ Mut (some u) ∧ ∀ od, locks n (upd H a (.frz od u)) k
theorem sp_locks {X : Cx} {pins : List (Addr × Obj)} {τ : L2.St} {s : Shared} {k : Hp → Prop} : ∀ {n : Nat} {H : Hp}, Inv X pins τ H s → locks n H k → ∃ H', Inv X pins τ H' s ∧ k H'
  | 0, H, I, q => ⟨H, I, q⟩
  | n + 1, H, I, .inl q => sp_locks (n := n) I q
  | n + 1, H, I, .inr ⟨a, u, hu, mu, q⟩ => by
    obtain ⟨od, I'⟩ := I.lock hu mu
    exact sp_locks I' (q od)
def lkEnds (De : Ends) : Ends := { De with rt := fun v H => ∃ n, locks n H fun H' => De.rt v H' }
theorem sp_lock {X : Cx} {pins : List (Addr × Obj)} {De : Ends} {f : Flow} {s : Shared} (h : SP X pins (lkEnds De) f s) : SP X pins De f s := by
  cases f with
  | next => exact h
  | brk => exact h
  | cont => exact h
  | ret u =>
    obtain ⟨v, τ, H, I, r, n, q⟩ := h
    obtain ⟨H', I', q⟩ := sp_locks I q
    exact ⟨v, τ, H', I', r, q⟩
theorem pss_lock {X : Cx} {st : List Stmt} {t : TS} (h : PSs X st t) : PSs X st fun De τ H => t (lkEnds De) τ H := ⟨fun p s τ H De I q => thn (h.run p s τ H _ I q) fun _ _ q => sp_lock q⟩
theorem lock_all {h : Hs} {n0 : Nat} (R : Rl Z O ρ h H) {k : Hp → Prop} (q : ∀ H', Lkd Z O ρ n0 h H H' → k H') : ∃ n, locks n H k := by
  -- the places m, m - 1, .. are still to be locked
  have key : ∀ (m : Nat) (i : Nat) (H1 : Hp), i + m = ρ.length → n0 ≤ i →
      (∀ a o, H a = some o → a ∉ ρ.drop n0 → H1 a = some o) → (∀ (n : Nat) (a : Addr) (xs : List D), ρ[n]? = some a → h[n]? = some (.lst xs) → H1 a = H a) →
      (∀ (n : Nat) (a : Addr), i ≤ n → ρ[n]? = some a → H1 a = H a) →
      (∀ (n : Nat) (a : Addr) (ks us : List D), n0 ≤ n → n < i → ρ[n]? = some a → h[n]? = some (.dic ks us) → ∃ od u, H a = some u ∧ H1 a = some (.frz od u)) → locks m H1 k := by
    intro m
    induction m with
    | zero =>
      intro i H1 hi _ k1 k2 _ k4
      exact q H1 ⟨k1, k2, fun n a ks us hn ha ho => k4 n a ks us hn (by have := (List.getElem?_eq_some_iff.mp ha).1; omega) ha ho⟩
    | succ m ih =>
      intro i H1 hi h0 k1 k2 k3 k4
      have hil : i < ρ.length := by omega
      have ha : ρ[i]? = some ρ[i] := List.getElem?_eq_getElem hil
      obtain ⟨o, ho, ro⟩ := R.ob ha
      cases o with
      | lst xs =>
        refine .inl (ih (i + 1) H1 (by omega) (by omega) k1 k2 (fun n a hn => k3 n a (by omega)) fun n a ks us hn hn2 hna hno => ?_)
        by_cases e : n = i
        · subst e; rw [ho] at hno; cases hno
        · exact k4 n a ks us hn (by omega) hna hno
      | dic ks us =>
        have hu : ∃ u, H ρ[i] = some u ∧ Mut (some u) := by
          rcases ro with ⟨l, h1, _⟩ | ⟨_, _, h1, _⟩
          · exact ⟨_, h1, trivial⟩
          · exact ⟨_, h1, trivial⟩
        obtain ⟨u, hu, mu⟩ := hu
        have hne : ∀ n a, ρ[n]? = some a → n ≠ i → a ≠ ρ[i] := fun n a hn hne e => hne (by
          subst e
          exact (List.getElem?_inj (List.getElem?_eq_some_iff.mp hn).1 R.nd).mp (hn.trans ha.symm))
        have fin : ∀ od, locks m (upd H1 ρ[i] (.frz od u)) k := fun od => ih (i + 1) _ (by omega) (by omega)
          (fun a o e hn => by
            rw [upd_ne]; exact k1 a o e hn
            intro z; subst z
            exact hn (List.mem_of_getElem? (i := i - n0) (by rw [List.getElem?_drop, show n0 + (i - n0) = i by omega]; exact ha)))
          (fun n a xs hna hno => by
            by_cases e : n = i
            · subst e; rw [ho] at hno; cases hno
            · rw [upd_ne (hne n a hna e)]; exact k2 n a xs hna hno)
          (fun n a hn hna => by rw [upd_ne (hne n a hna (by omega))]; exact k3 n a (by omega) hna)
          (fun n a ks' us' hn hn2 hna hno => by
            by_cases e : n = i
            · subst e
              rw [ha] at hna; cases hna
              exact ⟨od, u, hu, upd_same⟩
            · obtain ⟨od', u', h1, h2⟩ := k4 n a ks' us' hn (by omega) hna hno
              exact ⟨od', u', h1, by rw [upd_ne (hne n a hna e)]; exact h2⟩)
        exact .inr ⟨ρ[i], u, by rw [k3 i _ (Nat.le_refl _) ha]; exact hu, mu, fin⟩
  by_cases hc : n0 ≤ ρ.length
  · exact ⟨_, key (ρ.length - n0) n0 H (by omega) (Nat.le_refl _) (fun _ _ e _ => e) (fun _ _ _ _ _ => rfl) (fun _ _ _ _ => rfl) fun n a ks us h1 h2 => absurd h2 (by omega)⟩
  · exact ⟨0, q H ⟨fun _ _ e _ => e, fun _ _ _ _ _ => rfl, fun n a ks us hn ha _ => absurd (List.getElem?_eq_some_iff.mp ha).1 (by omega)⟩⟩

end

/-! ### defs -/
def spP (Z : Zx) (np : Nat) (spec : List D → Option D) : Sp := fun vs H Q _ => ∃ O ds d, ds.length = np ∧ spec ds = some d ∧ Reps Z O [] H ds vs ∧ (∀ a, O a → ∃ o, H a = some o) ∧
  ∀ v H', (∀ a o, H a = some o → H' a = some o) → Rep Z O [] H' d v → Q v H'
theorem repS_start {Z : Zx} {O : Addr → Prop} {ρ : List Addr} {H : Hp} {ds : List D} {vs : List V} {N : List Str} (r : Reps Z O ρ H ds vs) : RepS Z O ρ H (start0 N.length ds) (L2.start N vs) := by
  refine ⟨by unfold start0 L2.start; simp [r.length], fun i d e => ?_⟩
  unfold start0 at e
  unfold L2.start
  by_cases hi : i < ds.length
  · rw [List.getElem?_append_left (by simpa using hi), List.getElem?_map] at e
    cases ed : ds[i]? with
    | none => rw [ed] at e; cases e
    | some d' =>
      rw [ed] at e
      simp only [Option.map_some, Option.some.injEq] at e
      subst e
      obtain ⟨v, hv, rv⟩ := r.get ed
      refine ⟨v, ?_, rv⟩
      rw [List.getElem?_append_left (by rw [List.length_map, ← r.length]; exact hi), List.getElem?_map, hv]
      rfl
  · rw [List.getElem?_append_right (by simpa using hi), List.getElem?_replicate] at e
    split at e <;> cases e
section
variable {P : Program} {w : World} {K : PySem.W.Frag} {mg : Str → Option Value} {base : Heap}
theorem okP {x qual : Str} {st : Stmt} {f : Addr} {fd : FuncData} {N ps : List Str} {k : Nat} {body : SF} (F : Fun K x qual st f fd) (S : FnScope N ps (defScope st))
    (hb : ∀ (cdv : Value) (A : Around) (outer : List Env) (s : Shared) (H : Hp) (E : XK), Room k (A.deeper (envOfC qual (defScope st) s.heap.objs.size f cdv)) →
      SSs (cxOf CX0 P w K mg base N qual (defScope st) f cdv A outer s H E).nox (defBody st) body) : FnOk P w K mg base CX0 (k + 1) f fd ps (spP ⟨P, w, K⟩ ps.length (runP ps.length N.length body)) := by
  refine F.ok S (fun vs H Q E h => ?_) (fun cdv A outer s H vs Q E hr h => ?_)
  · obtain ⟨O, ds, d, hl, _, r, _⟩ := h
    rw [← r.length, hl]
  · obtain ⟨O, ds, d, hl, e, r, hO, q⟩ := h
    refine ⟨_, pss_lock (hb cdv A outer s H E hr), fun bh => ?_⟩
    unfold runP at e
    rw [if_pos hl] at e
    unfold runB at e
    have R : Rw ⟨P, w, K⟩ O [] (start0 N.length ds) [] (L2.start N vs) H := ⟨⟨rfl, List.nodup_nil, fun a ha => absurd ha List.not_mem_nil, hO, fun n a o e => by simp at e⟩, repS_start r⟩
    cases eo : body (start0 N.length ds) [] with
    | none => rw [eo] at e; cases e
    | some o =>
      refine ⟨O, [], start0 N.length ds, [], o, R, eo, ?_⟩
      rw [eo] at e
      cases o with
      | rt d1 h1 =>
        intro v ρ' H' _ m rl rp
        refine lock_all (n0 := 0) rl fun H2 L => q v H2 (fun a u ha => L.keep a u (m.keep a u ha List.not_mem_nil) fun z => m.out ha List.not_mem_nil (List.mem_of_mem_drop z)) ?_
        have z := fzN_rep rl L 4 e (rp.mv L.mv)
        rw [List.take_zero] at z
        exact z
      | nx σ1 h1 =>
        cases e
        intro τ' ρ' H' _ m rw'
        exact q .non H' (fun a u ha => m.keep a u ha List.not_mem_nil) .non
      | bk _ _ => cases e
      | ct _ _ => cases e
/-- a def of the text, as its callers know it -/
structure Fnc (P : Program) (w : World) (K : PySem.W.Frag) (mg : Str → Option Value) (base : Heap) (x : Str) (k : Nat) (sp : Sp) : Prop where
  ex : ∃ (f : Addr) (fd : FuncData) (ps : List Str), mg x = some (.ref f) ∧ PySem.W.keepIn K (.ref f) = true ∧ Binds K fd ps [] ∧ FnOk P w K mg base CX0 k f fd ps sp
end
def callP (spec : List D → Option D) (_ : Hs) (ds : List D) : Option D := if nrA ds then spec ds else none
section
variable {X : Cx} {a : Expr} {es : List Expr} {pos : Pos} {fr : AF}
theorem Rl.later {Z : Zx} {O : Addr → Prop} {ρ : List Addr} {h : Hs} {H H' : Hp} (R : Rl Z O ρ h H) (k : ∀ a o, H a = some o → H' a = some o) : Mv ρ H ρ H' ∧ Rl Z O ρ h H' := by
  have m : Mv ρ H ρ H' := ⟨⟨[], by simp, by simp⟩, fun a o e _ => k a o e⟩
  refine ⟨m, R.len, R.nd, R.dis, fun a ha => ?_, fun n a o e1 e2 => ?_⟩
  · obtain ⟨o, e⟩ := R.dom a ha; exact ⟨o, k a o e⟩
  · have r := R.obj n a o e1 e2
    obtain ⟨z, hz⟩ := r.there
    exact r.mv m (by rw [hz]; exact k a z hz)
theorem call_in {Z : Zx} {O : Addr → Prop} {ρ : List Addr} {h : Hs} {H : Hp} {np : Nat} {spec : List D → Option D} {ds : List D} {d : D} {vs : List V} {Q : VK} {E : XK} (R : Rl Z O ρ h H) (r : Reps Z O ρ H ds vs) (hl : ds.length = np) (hn : nrA ds = true) (e : spec ds = some d)
    (k : ∀ v H', Mv ρ H ρ H' → Rl Z O ρ h H' → Rep Z O ρ H' d v → Q v H') : spP Z np spec vs H Q E := by
  refine ⟨fun a => O a ∨ a ∈ ρ, ds, d, hl, e, r.shift ⟨fun _ _ _ _ => List.not_mem_nil, fun a n o _ => ⟨List.not_mem_nil, fun q => q.elim o n⟩⟩ hn, fun a ha => ha.elim (R.dom a) fun q => R.there q, fun v H' kp rp => ?_⟩
  obtain ⟨m, rl⟩ := R.later kp
  exact k v H' m rl (rp.shift ⟨fun a us ha _ hb => rl.notup hb ha, fun a _ q _ => ⟨fun z => q (.inr z), fun z => q (.inl z)⟩⟩ rp.nr)
/-- f(e, ..) -/
theorem s_call {x : Str} {k np : Nat} {spec : List D → Option D} {p : Pos} (G : Fnc X.prog X.w X.K X.mg X.base x k (spP (Zx.of X) np spec)) (hr : Room k X.A) (hg : Gl X x) (hx : ∀ ds d, spec ds = some d → ds.length = np) (ha : SA X (a :: es) fr)
    (hdb : (x == ("__debug__" : Str)) = false := by decide) (he : starEach (a :: es) X.env = (false, eval a X.env) :: starEach es X.env := by rfl) (hpl : (backTo pos (starEach es X.env)).any (·.1) = false := by rfl) :
    SE X (.Call (.Name x p) (a :: es) [] pos) (eArgs fr (callP spec)) := by
  obtain ⟨f, fd, ps, hm, hk, hb, F⟩ := G.ex
  refine imE (pe_call F hr hg hm hk hb .nil pass0 ha hdb he hpl) fun τ H Q b0 q => ?_
  obtain ⟨O, ρ, σ, h, d, h', R, e, k⟩ := q b0
  obtain ⟨ds, ea, eo⟩ := eArgs_some e
  unfold callP at eo
  split at eo
  · rename_i hn
    refine aone R ea fun vs ρ1 H1 b1 m1 r1 p1 => ?_
    rw [List.append_nil]
    exact call_in r1 p1 (hx ds d eo) hn eo fun v H2 m2 r2 p2 b2 => k v ρ1 H2 b2 (Rw.tr m1 r1 m2) r2 p2
  · cases eo
theorem runP_len {np n : Nat} {f : SF} {ds : List D} {d : D} (e : runP np n f ds = some d) : ds.length = np := by
  unfold runP at e
  split at e
  · assumption
  · cases e
end
/-! ### defs that share their caller's things -/
def spG (Z : Zx) (np : Nat) (spec : Hs → List D → Option (D × Hs)) : Sp := fun vs H Q _ => ∃ O ρ h ds d h', ds.length = np ∧ spec h ds = some (d, h') ∧ Rl Z O ρ h H ∧ Reps Z O ρ H ds vs ∧
  ∀ v ρ' H', Mv ρ H ρ' H' → Rl Z O ρ' h' H' → Rep Z O ρ' H' d v → Q v H'
section
variable {Z : Zx} {O : Addr → Prop} {ρ ρ' : List Addr} {H H' H2 : Hp} {h h' : Hs}
theorem RepO.cutR {n0 : Nat} {a : Addr} {o : Ob} (hr : o.rl n0 = true) (r : RepO Z O ρ H a o) : RepO Z O (ρ.take n0) H a o := by
  cases o with
  | lst xs => obtain ⟨vs, h1, h2⟩ := r; exact ⟨vs, h1, h2.cutR hr⟩
  | dic ks us =>
    simp only [Ob.rl, Bool.and_eq_true] at hr
    rcases r with ⟨l, h1, h2, h3⟩ | ⟨bs, vs, h1, h2, h3, h4, h5⟩
    · exact .inl ⟨l, h1, h2.cutR hr.1, h3.cutR hr.2⟩
    · exact .inr ⟨bs, vs, h1, h2, h3.cutR hr.1, h4.cutR hr.2, h5⟩
theorem Rl.cutR (R : Rl Z O ρ h H) (m : Mv ρ H ρ' H') (R' : Rl Z O ρ' h' H') (k : ∀ a o, H' a = some o → a ∉ ρ'.drop h.length → H2 a = some o) (hr : (h'.take h.length).all (Ob.rl h.length) = true) :
    Mv ρ H ρ H2 ∧ Rl Z O ρ (h'.take h.length) H2 ∧ ρ'.take h.length = ρ := by
  obtain ⟨l, e, hl⟩ := m.pre
  have et : ρ'.take h.length = ρ := by rw [e, ← R.len, List.take_left]
  have ed : ρ'.drop h.length = l := by rw [e, ← R.len, List.drop_left]
  rw [ed] at k
  have m2 : Mv ρ' H' ρ' (fun a => H2 a) → True := fun _ => trivial
  have hlen : ρ.length ≤ h'.length := by rw [← R'.len, e, List.length_append]; omega
  have m3 : ∀ a o, H' a = some o → a ∉ ρ' → H2 a = some o := fun a o ea n => k a o ea fun z => n (by rw [e]; exact List.mem_append_right _ z)
  have mm : Mv ρ' H' ρ' H2 := ⟨⟨[], by simp, by simp⟩, m3⟩
  refine ⟨⟨⟨[], by simp, by simp⟩, fun a o ea n => k a o (m.keep a o ea n) fun z => by rw [hl a z] at ea; cases ea⟩, ⟨?_, R.nd, R.dis, fun a ha => ?_, fun n a o e1 e2 => ?_⟩, et⟩
  · rw [List.length_take, ← R.len]; omega
  · obtain ⟨o, ho⟩ := R'.dom a ha
    exact ⟨o, m3 a o ho fun z => R'.dis a z ha⟩
  · have hn : n < h.length := by rw [← R.len]; exact (List.getElem?_eq_some_iff.mp e1).1
    have e1' : ρ'[n]? = some a := by rw [e, List.getElem?_append_left (by rw [R.len]; exact hn)]; exact e1
    have hro : o.rl h.length = true := (List.all_eq_true.mp hr) o (List.mem_of_getElem? e2)
    rw [List.getElem?_take_of_lt hn] at e2
    have r := R'.obj n a o e1' e2
    obtain ⟨u, hu⟩ := r.there
    have hnl : a ∉ l := fun z => by
      have nd := R'.nd
      rw [e] at nd
      exact (List.nodup_append.mp nd).2.2 a (List.mem_of_getElem? e1) a z rfl
    have r2 := (r.mv mm (by rw [hu]; exact k a u hu hnl)).cutR hro
    rw [et] at r2
    exact r2
end
section
variable {P : Program} {w : World} {K : PySem.W.Frag} {mg : Str → Option Value} {base : Heap}
theorem okG {x qual : Str} {st : Stmt} {f : Addr} {fd : FuncData} {N ps : List Str} {k : Nat} {body : SF} (F : Fun K x qual st f fd) (S : FnScope N ps (defScope st))
    (hb : ∀ (cdv : Value) (A : Around) (outer : List Env) (s : Shared) (H : Hp) (E : XK), Room k (A.deeper (envOfC qual (defScope st) s.heap.objs.size f cdv)) →
      SSs (cxOf CX0 P w K mg base N qual (defScope st) f cdv A outer s H E).nox (defBody st) body) : FnOk P w K mg base CX0 (k + 1) f fd ps (spG ⟨P, w, K⟩ ps.length (runG ps.length N.length body)) := by
  refine F.ok S (fun vs H Q E h => ?_) (fun cdv A outer s H vs Q E hr h => ?_)
  · obtain ⟨O, ρ, h, ds, d, h', hl, _, _, r, _⟩ := h
    rw [← r.length, hl]
  · obtain ⟨O, ρ, h, ds, d, h', hl, e, R, r, q⟩ := h
    refine ⟨_, pss_lock (hb cdv A outer s H E hr), fun bh => ?_⟩
    unfold runG at e
    rw [if_pos hl] at e
    have RW : Rw ⟨P, w, K⟩ O ρ (start0 N.length ds) h (L2.start N vs) H := ⟨R, repS_start r⟩
    cases eo : body (start0 N.length ds) h with
    | none => rw [eo] at e; cases e
    | some o =>
      refine ⟨O, ρ, start0 N.length ds, h, o, RW, eo, ?_⟩
      rw [eo] at e
      cases o with
      | rt d1 h1 =>
        simp only at e
        intro v ρ' H' _ m rl rp
        cases ef : fzN h.length 4 h1 d1 with
        | none => simp [ef] at e
        | some d' =>
          simp only [ef] at e
          split at e
          · rename_i hrl
            simp only [Option.some.injEq, Prod.mk.injEq] at e
            obtain ⟨rfl, rfl⟩ := e
            refine lock_all (n0 := h.length) rl fun H2 L => ?_
            obtain ⟨m2, r2, et⟩ := R.cutR m rl L.keep hrl
            have z := fzN_rep rl L 4 ef (rp.mv L.mv)
            rw [et] at z
            exact q v ρ H2 m2 r2 z
          · cases e
      | nx σ1 h1 =>
        simp only at e
        split at e
        · rename_i hrl
          simp only [Option.some.injEq, Prod.mk.injEq] at e
          obtain ⟨rfl, rfl⟩ := e
          intro τ' ρ' H' _ m rw'
          obtain ⟨m2, r2, et⟩ := R.cutR m rw'.l (fun a o ea _ => ea) hrl
          exact q .non ρ H' m2 r2 .non
        · cases e
      | bk _ _ => cases e
      | ct _ _ => cases e
theorem okK {x qual : Str} {st : Stmt} {f : Addr} {fd : FuncData} {N ps : List Str} {k : Nat} {body : SF} (F : Fun K x qual st f fd) (S : FnScope N ps (defScope st))
    (hb : ∀ (cdv : Value) (A : Around) (outer : List Env) (s : Shared) (H : Hp) (E : XK), Room k (A.deeper (envOfC qual (defScope st) s.heap.objs.size f cdv)) →
      SSs (cxOf CX0 P w K mg base N qual (defScope st) f cdv A outer s H E).nox (defBody st) body) : FnOk P w K mg base CX0 (k + 1) f fd ps (spG ⟨P, w, K⟩ ps.length (runK ps.length N.length body)) := by
  refine F.ok S (fun vs H Q E h => ?_) (fun cdv A outer s H vs Q E hr h => ?_)
  · obtain ⟨O, ρ, h, ds, d, h', hl, _, _, r, _⟩ := h
    rw [← r.length, hl]
  · obtain ⟨O, ρ, h, ds, d, h', hl, e, R, r, q⟩ := h
    refine ⟨_, hb cdv A outer s H E hr, fun bh => ?_⟩
    unfold runK at e
    rw [if_pos hl] at e
    have RW : Rw ⟨P, w, K⟩ O ρ (start0 N.length ds) h (L2.start N vs) H := ⟨R, repS_start r⟩
    cases eo : body (start0 N.length ds) h with
    | none => rw [eo] at e; cases e
    | some o =>
      refine ⟨O, ρ, start0 N.length ds, h, o, RW, eo, ?_⟩
      rw [eo] at e
      cases o with
      | rt d1 h1 =>
        cases e
        intro v ρ' H' _ m rl rp
        exact q v ρ' H' m rl rp
      | nx σ1 h1 =>
        cases e
        intro τ' ρ' H' _ m rw'
        exact q .non ρ' H' m rw'.l .non
      | bk _ _ => cases e
      | ct _ _ => cases e
end
def eArgsH (fr : AF) (op : Hs → List D → Option (D × Hs)) : EF := fun σ h => match fr σ h with
  | some (ds, h1) => op h1 ds
  | none => none
section
variable {X : Cx} {a : Expr} {es : List Expr} {pos : Pos} {fr : AF}
/-- f(e, ..), what f is given it may change -/
theorem s_callG {x : Str} {k np : Nat} {spec : Hs → List D → Option (D × Hs)} {p : Pos} (G : Fnc X.prog X.w X.K X.mg X.base x k (spG (Zx.of X) np spec)) (hr : Room k X.A) (hg : Gl X x) (hx : ∀ h ds d, spec h ds = some d → ds.length = np) (ha : SA X (a :: es) fr)
    (hdb : (x == ("__debug__" : Str)) = false := by decide) (he : starEach (a :: es) X.env = (false, eval a X.env) :: starEach es X.env := by rfl) (hpl : (backTo pos (starEach es X.env)).any (·.1) = false := by rfl) :
    SE X (.Call (.Name x p) (a :: es) [] pos) (eArgsH fr spec) := by
  obtain ⟨f, fd, ps, hm, hk, hb, F⟩ := G.ex
  refine imE (pe_call F hr hg hm hk hb .nil pass0 ha hdb he hpl) fun τ H Q b0 q => ?_
  obtain ⟨O, ρ, σ, h, d, h', R, e, k⟩ := q b0
  unfold eArgsH at e
  cases ea : fr σ h with
  | none => simp [ea] at e
  | some r =>
    obtain ⟨ds, h1⟩ := r
    simp only [ea] at e
    refine aone R ea fun vs ρ1 H1 b1 m1 r1 p1 => ?_
    rw [List.append_nil]
    exact ⟨O, ρ1, h1, ds, d, h', hx h1 ds _ e, e, r1, p1, fun v ρ2 H2 m2 r2 p2 b2 => k v ρ2 H2 b2 (Rw.tr m1 r1 m2) r2 p2⟩
theorem runG_len {np n : Nat} {f : SF} {h : Hs} {ds : List D} {d : D × Hs} (e : runG np n f h ds = some d) : ds.length = np := by
  unfold runG at e
  split at e
  · assumption
  · cases e
theorem runK_len {np n : Nat} {f : SF} {h : Hs} {ds : List D} {d : D × Hs} (e : runK np n f h ds = some d) : ds.length = np := by
  unfold runK at e
  split at e
  · assumption
  · cases e
end
end TB
namespace TB
open PySem PySem.Spec PyProof.Rows L2

/-! ### statements -/
def sNil : SF := fun σ h => some (.nx σ h)
def sSeq (f g : SF) : SF := fun σ h => match f σ h with
  | some (.nx σ1 h1) => g σ1 h1
  | o => o
def sExpr (f : EF) : SF := fun σ h => match f σ h with | some (_, h1) => some (.nx σ h1) | none => none
def sRet (f : EF) : SF := fun σ h => match f σ h with | some (d, h1) => some (.rt d h1) | none => none
def sRetN : SF := fun _ h => some (.rt .non h)
def sIf (fc : EF) (f g : SF) : SF := fun σ h => match fc σ h with | some (.bl true, h1) => f σ h1 | some (.bl false, h1) => g σ h1 | _ => none
def sBrk : SF := fun σ h => some (.bk σ h)
def sCnt : SF := fun σ h => some (.ct σ h)
def sBot : SF := fun _ _ => none
section
variable {X : Cx} {st : Stmt} {rest body els : List Stmt} {a b c : Expr} {pos : Pos} {f g : SF} {fa fb fc : EF}
theorem endOk_mv {Z : Zx} {O : Addr → Prop} {ρ ρ' : List Addr} {h' : Hs} {H H' : Hp} {De : Ends} {o : Out} (m : Mv ρ H ρ' H') (r : Rl Z O ρ' h' H') (e : endOk Z O ρ H De o) : endOk Z O ρ' H' De o := by
  cases o with
  | nx σ h => exact fun τ ρ2 H2 b m2 rw => e τ ρ2 H2 b (Rw.tr m r m2) rw
  | bk σ h => exact fun τ ρ2 H2 b m2 rw => e τ ρ2 H2 b (Rw.tr m r m2) rw
  | ct σ h => exact fun τ ρ2 H2 b m2 rw => e τ ρ2 H2 b (Rw.tr m r m2) rw
  | rt d h => exact fun v ρ2 H2 b m2 rl rp => e v ρ2 H2 b (Rw.tr m r m2) rl rp
theorem ss_nil : SSs X [] sNil := imSs pss_nil fun De τ H b0 q => by
  obtain ⟨O, ρ, σ, h, o, R, e, k⟩ := q b0
  cases e
  exact fun b => k τ ρ H b Mv.refl R
theorem seq_of {De : Ends} {τ : L2.St} {H : Hp} (b0 : BH X.K H) (q : tS (Zx.of X) (sSeq f g) De τ H) : tSeq (tS (Zx.of X) f) (tS (Zx.of X) g) (bhEnds X.K De) τ H := by
  intro _
  obtain ⟨O, ρ, σ, h, o, R, e, k⟩ := q b0
  unfold sSeq at e
  cases ef : f σ h with
  | none => rw [ef] at e; cases e
  | some o1 =>
    rw [ef] at e
    refine ⟨O, ρ, σ, h, o1, R, ef, ?_⟩
    cases o1 with
    | nx σ1 h1 =>
      intro τ1 ρ1 H1 b1 m1 R1 _
      refine ⟨O, ρ1, σ1, h1, o, R1, e, ?_⟩
      have e2 := endOk_mv m1 R1.l k
      cases o with
      | nx σ h => exact fun τ ρ2 H2 b m2 rw _ => e2 τ ρ2 H2 b m2 rw
      | bk σ h => exact fun τ ρ2 H2 b m2 rw _ => e2 τ ρ2 H2 b m2 rw
      | ct σ h => exact fun τ ρ2 H2 b m2 rw _ => e2 τ ρ2 H2 b m2 rw
      | rt d h => exact fun v ρ2 H2 b m2 rl rp _ => e2 v ρ2 H2 b m2 rl rp
    | bk σ1 h1 => cases e; exact fun τ ρ2 H2 b m2 rw _ => k τ ρ2 H2 b m2 rw
    | ct σ1 h1 => cases e; exact fun τ ρ2 H2 b m2 rw _ => k τ ρ2 H2 b m2 rw
    | rt d h1 => cases e; exact fun v ρ2 H2 b m2 rl rp _ => k v ρ2 H2 b m2 rl rp
theorem ss_cons (hs : SS X st f) (hr : SSs X rest g) : SSs X (st :: rest) (sSeq f g) := imSs (pss_cons hs hr) fun _ _ _ b0 q => seq_of b0 q
theorem ss_one (hs : SS X st f) : SSs X [st] f := pss_one hs
theorem ss_pass : SS X (.Pass pos) sNil := imS ps_pass fun De τ H b0 q => by
  obtain ⟨O, ρ, σ, h, o, R, e, k⟩ := q b0
  cases e
  exact fun b => k τ ρ H b Mv.refl R
theorem ss_brk : SS X (.Break pos) sBrk := imS ps_break fun De τ H b0 q => by
  obtain ⟨O, ρ, σ, h, o, R, e, k⟩ := q b0
  cases e
  exact fun b => k τ ρ H b Mv.refl R
theorem ss_cnt : SS X (.Continue pos) sCnt := imS ps_continue fun De τ H b0 q => by
  obtain ⟨O, ρ, σ, h, o, R, e, k⟩ := q b0
  cases e
  exact fun b => k τ ρ H b Mv.refl R
/-- a statement that the walk never comes to -/
theorem ss_bot : SS X st sBot := imS (t := tNever) ps_never fun De τ H b0 q => by
  obtain ⟨O, ρ, σ, h, o, R, e, k⟩ := q b0
  cases e
theorem ss_expr (ha : SE X a fa) (hs : swapsWith a none pos.line X.env = pure false := by rfl) : SS X (.Expr a pos) (sExpr fa) := imS (ps_expr ha hs) fun De τ H b0 q => by
  obtain ⟨O, ρ, σ, h, o, R, e, k⟩ := q b0
  unfold sExpr at e
  split at e
  · rename_i d h1 ea
    cases e
    exact one R ea fun v ρ1 H1 b1 m1 r1 p1 b => k τ ρ1 H1 b m1 (R.mv m1 r1)
  · cases e
theorem ss_ret (ha : SE X a fa) : SS X (.Return (some a) pos) (sRet fa) := imS (ps_ret ha) fun De τ H b0 q => by
  obtain ⟨O, ρ, σ, h, o, R, e, k⟩ := q b0
  unfold sRet at e
  split at e
  · rename_i d h1 ea
    cases e
    exact one R ea fun v ρ1 H1 b1 m1 r1 p1 b => k v ρ1 H1 b m1 r1 p1
  · cases e
theorem ss_retN : SS X (.Return none pos) sRetN := imS ps_retN fun De τ H b0 q => by
  obtain ⟨O, ρ, σ, h, o, R, e, k⟩ := q b0
  cases e
  exact fun b => k .non ρ H b Mv.refl R.l .non
theorem sgo {f : SF} {O : Addr → Prop} {ρ : List Addr} {σ : Fr} {h : Hs} {τ : L2.St} {H : Hp} {o : Out} {De : Ends} (R : Rw (Zx.of X) O ρ σ h τ H) (e : f σ h = some o) (k : endOk (Zx.of X) O ρ H De o) : tS (Zx.of X) f De τ H := fun _ => ⟨O, ρ, σ, h, o, R, e, k⟩
theorem endOk_bh {O : Addr → Prop} {ρ : List Addr} {H : Hp} {De : Ends} {o : Out} (k : endOk (Zx.of X) O ρ H De o) : endOk (Zx.of X) O ρ H (bhEnds X.K De) o := by
  cases o with
  | nx σ h => exact fun τ ρ2 H2 b m2 rw _ => k τ ρ2 H2 b m2 rw
  | bk σ h => exact fun τ ρ2 H2 b m2 rw _ => k τ ρ2 H2 b m2 rw
  | ct σ h => exact fun τ ρ2 H2 b m2 rw _ => k τ ρ2 H2 b m2 rw
  | rt d h => exact fun v ρ2 H2 b m2 rl rp _ => k v ρ2 H2 b m2 rl rp
theorem ss_if (hc : ST X c fc) (hf : SSs X body f) (hg : SSs X els g) : SS X (.If c body els pos) (sIf fc f g) := imS (ps_if hc hf hg) fun De τ H b0 q => by
  obtain ⟨O, ρ, σ, h, o, R, e, k⟩ := q b0
  unfold sIf at e
  have k' := endOk_bh k
  split at e
  · rename_i h1 ea
    refine tone R ea fun ρ1 H1 b1 m1 r1 => ?_
    rw [if_pos rfl]
    exact sgo (R.mv m1 r1) e (endOk_mv m1 r1 k')
  · rename_i h1 ea
    refine tone R ea fun ρ1 H1 b1 m1 r1 => ?_
    rw [if_neg Bool.false_ne_true]
    exact sgo (R.mv m1 r1) e (endOk_mv m1 r1 k')
  · cases e

/-! ### while -/
def sWhileN (fc : EF) (fb : SF) : Nat → SF
  | 0, _, _ => none
  | n + 1, σ, h => match fc σ h with
    | some (.bl true, h1) => (match fb σ h1 with
      | some (.nx σ2 h2) => sWhileN fc fb n σ2 h2
      | some (.ct σ2 h2) => sWhileN fc fb n σ2 h2
      | some (.bk σ2 h2) => some (.nx σ2 h2)
      | some (.rt d h2) => some (.rt d h2)
      | none => none)
    | some (.bl false, h1) => some (.nx σ h1)
    | _ => none
def sWhile (fc : EF) (fb : SF) : SF := sWhileN fc fb 100000
theorem ss_while (hp : PassesOwn (model X.prog X.w) X.A X.env X.xe) (hc : ST X c fc) (hf : SSs X body f) : SS X (.While c body [] pos) (sWhile fc f) := imS (ps_while hp hc hf) fun De τ H b0 q => by
  obtain ⟨O, ρ0, σ0, h0, o, R0, e0, k⟩ := q b0
  refine ⟨fun m τ' H' => ∃ ρ σ h, BH X.K H' ∧ Mv ρ0 H ρ H' ∧ Rw (Zx.of X) O ρ σ h τ' H' ∧ sWhileN fc f m σ h = some o, ⟨100000, ρ0, σ0, h0, b0, Mv.refl, R0, e0⟩, ?_⟩
  rintro m τ1 H1 ⟨ρ, σ, h, b1, m1, R1, e⟩
  cases m with
  | zero => cases e
  | succ n =>
    unfold sWhileN at e
    split at e
    · rename_i h2 ec
      refine tone R1 ec fun ρ2 H2 b2 m2 r2 => ?_
      rw [if_pos rfl]
      have m02 := Rw.tr m1 R1.l m2
      refine ⟨fun τ' H' => BH X.K H' ∧ ∃ ρ σ h, Mv ρ0 H ρ H' ∧ Rw (Zx.of X) O ρ σ h τ' H' ∧ sWhileN fc f n σ h = some o, fun τ' H' ⟨b, ρ, σ, h, m, R, e⟩ => ⟨n, Nat.lt_succ_self _, ρ, σ, h, b, m, R, e⟩, ?_⟩
      cases ef : f σ h2 with
      | none => rw [ef] at e; cases e
      | some o1 =>
        rw [ef] at e
        refine sgo (R1.mv m2 r2) ef ?_
        cases o1 with
        | nx σ3 h3 => exact fun τ3 ρ3 H3 b3 m3 R3 => ⟨b3, ρ3, σ3, h3, Rw.tr m02 r2 m3, R3, e⟩
        | ct σ3 h3 => exact fun τ3 ρ3 H3 b3 m3 R3 => ⟨b3, ρ3, σ3, h3, Rw.tr m02 r2 m3, R3, e⟩
        | bk σ3 h3 => cases e; exact fun τ3 ρ3 H3 b3 m3 R3 _ => k τ3 ρ3 H3 b3 (Rw.tr m02 r2 m3) R3
        | rt d h3 => cases e; exact fun v ρ3 H3 b3 m3 r3 p3 _ => k v ρ3 H3 b3 (Rw.tr m02 r2 m3) r3 p3
    · rename_i h2 ec
      cases e
      refine tone R1 ec fun ρ2 H2 b2 m2 r2 => ?_
      rw [if_neg Bool.false_ne_true]
      exact fun _ => k τ1 ρ2 H2 b2 (Rw.tr m1 R1.l m2) (R1.mv m2 r2)
    · cases e

/-! ### targets -/
abbrev GF := D → Fr → Hs → Option (Fr × Hs)
abbrev GFs := List D → Fr → Hs → Option (Fr × Hs)
/-- vs: the slots that change -/
def tG (Z : Zx) (g : GF) (vs : List Nat) : TG := fun v τ H Q => BH Z.K H → ∃ O ρ σ h d σ' h', Rw Z O ρ σ h τ H ∧ Rep Z O ρ H d v ∧ g d σ h = some (σ', h') ∧
  ∀ τ' ρ' H', BH Z.K H' → Mv ρ H ρ' H' → Rw Z O ρ' σ' h' τ' H' → (∀ j, j ∉ vs → τ'[j]? = τ[j]?) → τ'.length = τ.length → Q τ' H'
def tGs (Z : Zx) (g : GFs) (vs : List Nat) : TGs := fun us τ H Q => BH Z.K H → ∃ O ρ σ h ds σ' h', Rw Z O ρ σ h τ H ∧ Reps Z O ρ H ds us ∧ g ds σ h = some (σ', h') ∧
  ∀ τ' ρ' H', BH Z.K H' → Mv ρ H ρ' H' → Rw Z O ρ' σ' h' τ' H' → (∀ j, j ∉ vs → τ'[j]? = τ[j]?) → τ'.length = τ.length → Q τ' H'
def SG (X : Cx) (e : Expr) (g : GF) (vs : List Nat) : Prop := PG X e (tG (Zx.of X) g vs)
def SGs (X : Cx) (es : List Expr) (g : GFs) (vs : List Nat) : Prop := PGs X es (tGs (Zx.of X) g vs)
theorem imG {e : Expr} {t u : TG} (h : PG X e t) (k : ∀ v τ H Q, BH X.K H → u v τ H Q → t v τ H fun τ' H' => BH X.K H' → Q τ' H') : PG X e u := ⟨fun p s τ H v uu Q I r q =>
  thn (h.run p s τ H v uu _ I r (k v τ H Q (bh_of I) q)) fun _ _ ⟨τ', H', I', q⟩ => ⟨τ', H', I', q (bh_of I')⟩⟩
theorem imGs {es : List Expr} {t u : TGs} (h : PGs X es t) (k : ∀ v τ H Q, BH X.K H → u v τ H Q → t v τ H fun τ' H' => BH X.K H' → Q τ' H') : PGs X es u := ⟨fun p s τ H v uu Q I r q =>
  thn (h.run p s τ H v uu _ I r (k v τ H Q (bh_of I) q)) fun _ _ ⟨τ', H', I', q⟩ => ⟨τ', H', I', q (bh_of I')⟩⟩
def gN (i : Nat) : GF := fun d σ h => some (σ.set i (some d), h)
theorem g_name {i : Nat} {x : Str} (hN : X.N.Nodup) (hi : X.N[i]? = some x := by rfl) (hx : Loc X.env.scope x := by first | exact Or.inl rfl | exact Or.inr rfl) (hf : X.fn x = true ∨ X.env.scope.names.lookup x = some .local := by first | exact .inl rfl | exact .inr rfl | assumption) : SG X (.Name x pos) (gN i) [i] := imG (pg_name hN hi hx hf) fun v τ H Q b0 q => by
  obtain ⟨O, ρ, σ, h, d, σ', h', R, r, e, k⟩ := q b0
  cases e
  exact fun b => k _ ρ H b Mv.refl ⟨R.l, R.s.set i r⟩ (fun j hj => List.getElem?_set_ne (fun z => hj (by simp [z]))) (by rw [List.length_set])
def gNil : GFs := fun ds σ h => match ds with | [] => some (σ, h) | _ :: _ => none
def gCons (g : GF) (gs : GFs) : GFs := fun ds σ h => match ds with
  | [] => none
  | d :: r => match g d σ h with
    | some (σ1, h1) => gs r σ1 h1
    | none => none
theorem gs_nil : SGs X [] gNil [] := imGs pgs_nil fun v τ H Q b0 q => by
  obtain ⟨O, ρ, σ, h, ds, σ', h', R, r, e, k⟩ := q b0
  cases ds with
  | nil => cases e; cases r; exact ⟨rfl, fun b => k τ ρ H b Mv.refl R (fun _ _ => rfl) rfl⟩
  | cons _ _ => cases e
theorem gs_cons {es : List Expr} {g : GF} {gs : GFs} {vs ws : List Nat} (h1 : SG X a g vs) (h2 : SGs X es gs ws) (hs : (assignEach (a :: es) X.env).map (·.2) = assign a X.env :: (assignEach es X.env).map (·.2) := by rfl) : SGs X (a :: es) (gCons g gs) (vs ++ ws) := imGs (pgs_cons h1 h2 hs) fun v τ H Q b0 q => by
  obtain ⟨O, ρ, σ, h, ds, σ', h', R, r, e, k⟩ := q b0
  unfold gCons at e
  cases ds with
  | nil => cases e
  | cons d r' =>
    obtain ⟨v1, vr, rfl, p1, pr⟩ := r.consD
    refine ⟨v1, vr, rfl, fun _ => ?_⟩
    simp only at e
    split at e
    · rename_i σ1 h1 e1
      refine ⟨O, ρ, σ, h, d, σ1, h1, R, p1, e1, fun τ1 ρ1 H1 b1 m1 R1 c1 l1 => fun _ => ⟨O, ρ1, σ1, h1, r', σ', h', R1, pr.mv m1, e, fun τ2 ρ2 H2 b2 m2 R2 c2 l2 _ => k τ2 ρ2 H2 b2 (Rw.tr m1 R1.l m2) R2 (fun j hj => ?_) (l2.trans l1)⟩⟩
      rw [List.mem_append, not_or] at hj
      rw [c2 j hj.2, c1 j hj.1]
    · cases e
def gT (n : Nat) (gs : GFs) : GF := fun d σ h => match viewT d with
  | some xs => if xs.length = n then gs xs σ h else none
  | none => none
theorem g_tup {es : List Expr} {kk : Nat} {gs : GFs} {n : Nat} {vs : List Nat} (hc : X.calm = true) (h : SGs X es gs vs) (hn : (assignEach es X.env).length = n := by rfl) (hst : (assignEach es X.env).findIdx? (·.1) = none := by rfl) : SG X (.Tuple es kk pos) (gT n gs) vs := imG (pg_tup hc h hn hst) fun v τ H Q b0 q => by
  obtain ⟨O, ρ, σ, h, d, σ', h', R, r, e, k⟩ := q b0
  unfold gT at e
  split at e
  · rename_i xs ex
    split at e
    · rename_i hl
      obtain ⟨a, us, rfl, ha, na, rs⟩ := viewT_rep ex r
      exact ⟨a, us, rfl, SqT.of ha, by rw [← rs.length]; exact hl, fun _ => ⟨O, ρ, σ, h, xs, σ', h', R, rs, e, fun τ' ρ' H' b m R' c l _ => k τ' ρ' H' b m R' c l⟩⟩
    · cases e
  · cases e
def sAsg (fe : EF) (g : GF) : SF := fun σ h => match fe σ h with
  | some (d, h1) => (match g d σ h1 with | some (σ2, h2) => some (.nx σ2 h2) | none => none)
  | none => none
theorem asg_of {g : GF} {vs : List Nat} {De : Ends} {τ : L2.St} {H : Hp} (b0 : BH X.K H) (q : tS (Zx.of X) (sAsg fa g) De τ H) : tAsg (tE (Zx.of X) fa) (tG (Zx.of X) g vs) (bhEnds X.K De) τ H := by
  obtain ⟨O, ρ, σ, h, o, R, e, k⟩ := q b0
  unfold sAsg at e
  split at e
  · rename_i d h1 ea
    split at e
    · rename_i σ2 h2 eg
      cases e
      refine one R ea fun v ρ1 H1 b1 m1 r1 p1 => fun _ => ⟨O, ρ1, σ, h1, d, σ2, h2, R.mv m1 r1, p1, eg, fun τ' ρ' H' b m R' c l _ => k τ' ρ' H' b (Rw.tr m1 r1 m) R'⟩
    · cases e
  · cases e
theorem ss_asg {tg : Expr} {g : GF} {vs : List Nat} (ha : SE X a fa) (hg : SG X tg g vs) (hs : swapsWithSole [tg] a pos.line X.env = pure false := by rfl) (hw : swappedStores [tg] a X.env = pure none := by rfl)
    (h1 : (assignEach [tg] X.env).map (·.2) = [assign tg X.env] := by rfl) : SS X (.Assign [tg] a pos) (sAsg fa g) := imS (ps_asg ha hg hs hw h1) fun _ _ _ b0 q => asg_of b0 q
theorem ss_set {i : Nat} {x : Str} {pos' : Pos} (hN : X.N.Nodup) (ha : SE X a fa) (hi : X.N[i]? = some x := by rfl) (hx : Loc X.env.scope x := by first | exact Or.inl rfl | exact Or.inr rfl) (hs : swapsWith a (some (.Name x pos')) pos.line X.env = pure false := by rfl)
    (hf : X.fn x = true ∨ X.env.scope.names.lookup x = some .local := by first | exact .inl rfl | exact .inr rfl | assumption) : SS X (.Assign [.Name x pos'] a pos) (sAsg fa (gN i)) := imS (ps_set hN hi hx ha hs hf) fun De τ H b0 q => by
  obtain ⟨O, ρ, σ, h, o, R, e, k⟩ := q b0
  unfold sAsg at e
  split at e
  · rename_i d h1 ea
    simp only [gN] at e
    cases e
    exact one R ea fun v ρ1 H1 b1 m1 r1 p1 b => k _ ρ1 H1 b m1 ⟨r1, (R.s.mv m1).set i p1⟩
  · cases e
/-- a, b = x, y -/
def sPar (i j : Nat) (f : AF) : SF := fun σ h => match f σ h with
  | some ([d, e], h1) => some (.nx ((σ.set i (some d)).set j (some e)) h1)
  | _ => none
theorem ss_par {i j : Nat} {x y : Str} {px py pt : Pos} {kt k2 pt2} {fr : AF} (hc : X.calm = true) (hN : X.N.Nodup) (ha : SA X [a, b] fr) (hi : X.N[i]? = some x := by rfl) (hj : X.N[j]? = some y := by rfl) (hij : i ≠ j := by decide)
    (hx : X.env.scope.names.lookup x = some .local := by rfl) (hy : X.env.scope.names.lookup y = some .local := by rfl) (hw : swappedStores [.Tuple [.Name x px, .Name y py] kt pt] (.Tuple [a, b] k2 pt2) X.env = pure (some [x, y]) := by rfl)
    (hs : swapsWithSole [.Tuple [.Name x px, .Name y py] kt pt] (.Tuple [a, b] k2 pt2) pos.line X.env = pure false := by rfl) :
    SS X (.Assign [.Tuple [.Name x px, .Name y py] kt pt] (.Tuple [a, b] k2 pt2) pos) (sPar i j fr) := imS (ps_par hc hN hi hj hij hx hy ha hw hs) fun De τ H b0 q => by
  obtain ⟨O, ρ, σ, h, o, R, e, k⟩ := q b0
  unfold sPar at e
  split at e
  · rename_i d d2 h1 ea
    cases e
    refine aone R ea fun vs ρ1 H1 b1 m1 r1 p1 => ?_
    obtain ⟨v, u, rfl, p, p'⟩ := p1.two
    exact ⟨v, u, rfl, fun b => k _ ρ1 H1 b m1 ⟨r1, ((R.s.mv m1).set i p).set j p'⟩⟩
  · cases e
/-- x += e, whole numbers -/
def sAug (i : Nat) (f : EF) : SF := fun σ h => match σ[i]? with
  | some (some (.int a)) => (match f σ h with | some (.int b, h1) => some (.nx (σ.set i (some (.int (a + b)))) h1) | _ => none)
  | _ => none
theorem ss_aug {i : Nat} {x : Str} {pos' : Pos} (hN : X.N.Nodup) (ha : SE X a fa) (hi : X.N[i]? = some x := by rfl) (hx : Loc X.env.scope x := by first | exact Or.inl rfl | exact Or.inr rfl) (hf : X.fn x = true ∨ X.env.scope.names.lookup x = some .local := by first | exact .inl rfl | exact .inr rfl | assumption) :
    SS X (.AugAssign (.Name x pos') .Add a pos) (sAug i fa) := imS (ps_aug hN hi hx ha ip_add hf) fun De τ H b0 q => by
  obtain ⟨O, ρ, σ, h, o, R, e, k⟩ := q b0
  unfold sAug at e
  split at e
  · rename_i n en
    split at e
    · rename_i m h1 ea
      cases e
      obtain ⟨v, hv, rv⟩ := R.s.2 i _ en
      refine ⟨v, hv, one R ea fun u ρ1 H1 b1 m1 r1 p1 => ⟨n, m, rv.intE, p1.intE, fun b => k _ ρ1 H1 b m1 ⟨r1, (R.s.mv m1).set i (.int _)⟩⟩⟩
    · cases e
  · cases e
end
end TB
namespace TB
open PySem PySem.Spec PyProof.Rows L2

/-! ### what is walked -/
/-- the i-th item, in this heap: some none is the end -/
abbrev Src := Hs → Nat → Option (Option D)
def srcL (xs : List D) : Src := fun _ i => some xs[i]?
def srcO (n : Nat) : Src := fun h i => match h[n]? with | some (.lst xs) => some xs[i]? | _ => none
/-- the same, where O's things may change -/
structure MvO (O : Addr → Prop) (ρ : List Addr) (H : Hp) (ρ' : List Addr) (H' : Hp) : Prop where
  pre : ∃ l, ρ' = ρ ++ l ∧ ∀ a ∈ l, H a = none
  keep : ∀ a o, H a = some o → a ∉ ρ → ¬ O a → H' a = some o
  tup : ∀ a vs, H a = some (.tup vs) → a ∉ ρ → H' a = some (.tup vs)
  dom : ∀ a o, H a = some o → a ∉ ρ → ∃ o', H' a = some o'
theorem Mv.toO {O : Addr → Prop} {ρ ρ' : List Addr} {H H' : Hp} (m : Mv ρ H ρ' H') : MvO O ρ H ρ' H' := ⟨m.pre, fun a o e n _ => m.keep a o e n, fun a vs e n => m.keep a _ e n, fun a o e n => ⟨o, m.keep a o e n⟩⟩
theorem MvO.out {O : Addr → Prop} {ρ ρ' : List Addr} {H H' : Hp} {a : Addr} {o : HO} (m : MvO O ρ H ρ' H') (h : H a = some o) (n : a ∉ ρ) : a ∉ ρ' := by
  obtain ⟨l, e, hl⟩ := m.pre
  rw [e, List.mem_append]
  rintro (x | x)
  · exact n x
  · rw [hl a x] at h; cases h
theorem MvO.at {O : Addr → Prop} {ρ ρ' : List Addr} {H H' : Hp} {a : Addr} {n : Nat} (m : MvO O ρ H ρ' H') (h : ρ[n]? = some a) : ρ'[n]? = some a := by
  obtain ⟨l, e, hl⟩ := m.pre
  rw [e, List.getElem?_append_left (List.getElem?_eq_some_iff.mp h).1]
  exact h
theorem Fz.mvO {K : PySem.W.Frag} {O : Addr → Prop} {ρ ρ' : List Addr} {H H' : Hp} {a : Addr} {vs : List V} (m : MvO O ρ H ρ' H') (f : Fz K O ρ H a vs) : Fz K O ρ' H' a vs := by
  rcases f with ⟨r, n, o⟩ | f
  · rcases r with r | ⟨ob, r⟩
    · exact .inl ⟨.inl (m.keep a _ r n o), m.out r n, o⟩
    · exact .inl ⟨.inr ⟨ob, m.keep a _ r n o⟩, m.out r n, o⟩
  · exact .inr f
mutual
theorem Rep.mvO {Z : Zx} {O : Addr → Prop} {ρ ρ' : List Addr} {H H' : Hp} (m : MvO O ρ H ρ' H') : ∀ {d : D} {v : V}, Rep Z O ρ H d v → Rep Z O ρ' H' d v
  | _, _, .non => .non
  | _, _, .bl b => .bl b
  | _, _, .int i => .int i
  | _, _, .str x => .str x
  | _, _, .tup h n r => .tup (m.tup _ _ h n) (m.out h n) (Reps.mvO m r)
  | _, _, .lst f r => .lst ⟨m.keep _ _ f.1 f.2.1 f.2.2, m.out f.1 f.2.1, f.2.2⟩ (Reps.mvO m r)
  | _, _, .scr f r => .scr (f.mvO m) (Reps.mvO m r)
  | _, _, .ref h => .ref (m.at h)
  | _, _, .dicK h n o r t => .dicK (m.keep _ _ h n o) (m.out h n) o (Reps.mvO m r) (Reps.mvO m t)
  | _, _, .dicT h n o q r t => .dicT (m.keep _ _ h n o) (m.out h n) o q (Reps.mvO m r) (Reps.mvO m t)
theorem Reps.mvO {Z : Zx} {O : Addr → Prop} {ρ ρ' : List Addr} {H H' : Hp} (m : MvO O ρ H ρ' H') : ∀ {ds : List D} {vs : List V}, Reps Z O ρ H ds vs → Reps Z O ρ' H' ds vs
  | _, _, .nil => .nil
  | _, _, .cons h t => .cons (Rep.mvO m h) (Reps.mvO m t)
end
def ItOk (Z : Zx) (O : Addr → Prop) (J : It) (g : Src) (ρ : List Addr) (H : Hp) : Prop := ∀ ρ2 h2 H2 i, BH Z.K H2 → MvO O ρ H ρ2 H2 → Rl Z O ρ2 h2 H2 →
  (g h2 i = some none → J.stop i H2) ∧ ∀ d, g h2 i = some (some d) → i < szL ∧ J.go i H2 ∧ ∀ x H3, J.yld i H2 x H3 → Mv ρ2 H2 ρ2 H3 ∧ Rl Z O ρ2 h2 H3 ∧ Rep Z O ρ2 H3 d x
abbrev IF := Fr → Hs → Option (Src × Nat × Hs)
def tI (Z : Zx) (f : IF) : TI := fun τ H R => BH Z.K H → ∃ O ρ σ h g n h', Rw Z O ρ σ h τ H ∧ f σ h = some (g, n, h') ∧ ∀ J ρ' H', BH Z.K H' → Mv ρ H ρ' H' → Rl Z O ρ' h' H' → (∀ O', (∀ a, O a → O' a) → (∀ a o, H' a = some o → O' a → O a) → ItOk Z O' J g ρ' H') → R J H'
def SI (X : Cx) (tg e : Expr) (f : IF) : Prop := PI X tg e (tI (Zx.of X) f)
section
variable {X : Cx} {tg a b c : Expr} {es : List Expr} {pos : Pos} {fa fb : EF} {fr : AF}
theorem imI {t u : TI} (h : PI X tg a t) (k : ∀ τ H R, BH X.K H → u τ H R → t τ H fun J H' => BH X.K H' → R J H') : PI X tg a u := ⟨fun p s τ H R I q =>
  thn (h.run p s τ H _ I (k τ H R (bh_of I) q)) fun _ _ r => thn r fun _ _ ⟨it, fp, tn, J, H', e, I', T, t0, f0, q⟩ => ⟨it, fp, tn, J, H', e, I', T, t0, f0, q (bh_of I')⟩⟩
/-- a list, a tuple -/
def iSeq (fa : EF) : IF := fun σ h => match fa σ h with
  | some (.ref n, h1) => (match h1[n]? with | some (.lst _) => some (srcO n, 100000, h1) | _ => none)
  | some (d, h1) => (match viewQ h1 d with | some xs => some (srcL xs, xs.length + 1, h1) | none => none)
  | none => none
theorem it_lst {Z : Zx} {O : Addr → Prop} {ρ : List Addr} {H : Hp} {a : Addr} {vs : List V} {xs : List D} (f : ∀ ρ' H', MvO O ρ H ρ' H' → SqL Z.K H' a vs) (r : Reps Z O ρ H xs vs) : ItOk Z O (Itl Z.K a) (srcL xs) ρ H := by
  intro ρ2 h2 H2 i b m R
  have q := f ρ2 H2 m
  refine ⟨fun e => ?_, fun d e => ?_⟩
  · unfold srcL at e
    exact ⟨vs, q, by rw [← r.length]; simpa using e⟩
  · unfold srcL at e
    have e' : xs[i]? = some d := by simpa using e
    obtain ⟨v, hv, rv⟩ := (r.mvO m).get e'
    refine ⟨?_, ⟨vs, v, q, hv⟩, fun x H3 ⟨eH, y⟩ => ?_⟩
    · have h1 := b.1 a vs q
      have h2 := (List.getElem?_eq_some_iff.mp hv).1
      rw [szL_eq]; omega
    · subst eH
      have := y vs q
      rw [hv] at this
      cases this
      exact ⟨Mv.refl, R, rv⟩
theorem it_tup {Z : Zx} {O : Addr → Prop} {ρ : List Addr} {H : Hp} {a : Addr} {vs : List V} {xs : List D} (f : ∀ ρ' H', MvO O ρ H ρ' H' → SqT Z.K H' a vs) (r : Reps Z O ρ H xs vs) : ItOk Z O (Itt Z.K a) (srcL xs) ρ H := by
  intro ρ2 h2 H2 i b m R
  have q := f ρ2 H2 m
  refine ⟨fun e => ?_, fun d e => ?_⟩
  · unfold srcL at e
    exact ⟨vs, q, by rw [← r.length]; simpa using e⟩
  · unfold srcL at e
    have e' : xs[i]? = some d := by simpa using e
    obtain ⟨v, hv, rv⟩ := (r.mvO m).get e'
    refine ⟨?_, ⟨vs, v, q, hv⟩, fun x H3 ⟨eH, y⟩ => ?_⟩
    · have h1 := b.2 a vs q
      have h2 := (List.getElem?_eq_some_iff.mp hv).1
      rw [szL_eq]; omega
    · subst eH
      have := y vs q
      rw [hv] at this
      cases this
      exact ⟨Mv.refl, R, rv⟩
theorem it_own {Z : Zx} {O : Addr → Prop} {ρ : List Addr} {H : Hp} {a : Addr} {n : Nat} (hn : ρ[n]? = some a) : ItOk Z O (Itl Z.K a) (srcO n) ρ H := by
  intro ρ2 h2 H2 i b m R
  obtain ⟨o, ho, ro⟩ := R.ob (m.at hn)
  unfold srcO
  rw [ho]
  cases o with
  | dic _ _ => exact ⟨fun e => (by cases e), fun d e => (by cases e)⟩
  | lst xs =>
    obtain ⟨vs, hv, rs⟩ := ro
    have q : SqL Z.K H2 a vs := SqL.of hv
    refine ⟨fun e => ⟨vs, q, by rw [← rs.length]; simpa using e⟩, fun d e => ?_⟩
    have e' : xs[i]? = some d := by simpa using e
    obtain ⟨v, hv2, rv⟩ := rs.get e'
    refine ⟨?_, ⟨vs, v, q, hv2⟩, fun x H3 ⟨eH, y⟩ => ?_⟩
    · have h1 := b.1 a vs q
      have h2 := (List.getElem?_eq_some_iff.mp hv2).1
      rw [szL_eq]; omega
    · subst eH
      have := y vs q
      rw [hv2] at this
      cases this
      exact ⟨Mv.refl, R, rv⟩
theorem Fz.grow {K : PySem.W.Frag} {O O' : Addr → Prop} {ρ : List Addr} {H : Hp} {a : Addr} {vs : List V} (g : ∀ a o, H a = some o → O' a → O a) (f : Fz K O ρ H a vs) : Fz K O' ρ H a vs := by
  rcases f with ⟨q, n, o⟩ | f
  · refine .inl ⟨q, n, fun z => o ?_⟩
    rcases q with q | ⟨_, q⟩ <;> exact g _ _ q z
  · exact .inr f
mutual
theorem Rep.grow {Z : Zx} {O O' : Addr → Prop} {ρ : List Addr} {H : Hp} (g : ∀ a o, H a = some o → O' a → O a) : ∀ {d : D} {v : V}, Rep Z O ρ H d v → Rep Z O' ρ H d v
  | _, _, .non => .non
  | _, _, .bl b => .bl b
  | _, _, .int b => .int b
  | _, _, .str b => .str b
  | _, _, .tup e n r => .tup e n (Reps.grow g r)
  | _, _, .lst f r => .lst ⟨f.1, f.2.1, fun z => f.2.2 (g _ _ f.1 z)⟩ (Reps.grow g r)
  | _, _, .scr f r => .scr (by
      rcases f with ⟨q, n, o⟩ | f
      · refine .inl ⟨q, n, fun z => o ?_⟩
        rcases q with q | ⟨_, q⟩ <;> exact g _ _ q z
      · exact .inr f) (Reps.grow g r)
  | _, _, .ref h => .ref h
  | _, _, .dicK h n o r t => .dicK h n (fun z => o (g _ _ h z)) (Reps.grow g r) (Reps.grow g t)
  | _, _, .dicT h n o q r t => .dicT h n (fun z => o (g _ _ h z)) q (Reps.grow g r) (Reps.grow g t)
theorem Reps.grow {Z : Zx} {O O' : Addr → Prop} {ρ : List Addr} {H : Hp} (g : ∀ a o, H a = some o → O' a → O a) : ∀ {ds : List D} {vs : List V}, Reps Z O ρ H ds vs → Reps Z O' ρ H ds vs
  | _, _, .nil => .nil
  | _, _, .cons q t => .cons (Rep.grow g q) (Reps.grow g t)
end
theorem viewQ_it {O : Addr → Prop} {ρ : List Addr} {h : Hs} {H : Hp} {d : D} {xs : List D} {v : V} (R : Rl (Zx.of X) O ρ h H) (e : viewQ h d = some xs) (hd : ∀ n, d ≠ .ref n) (r : Rep (Zx.of X) O ρ H d v) :
    ∃ a vs, v = .ref a ∧ ((SqL X.K H a vs ∧ ∀ O' : Addr → Prop, (∀ a o, H a = some o → O' a → O a) → ItOk (Zx.of X) O' (Itl X.K a) (srcL xs) ρ H) ∨ (SqT X.K H a vs ∧ ∀ O' : Addr → Prop, (∀ a o, H a = some o → O' a → O a) → ItOk (Zx.of X) O' (Itt X.K a) (srcL xs) ρ H)) := by
  cases d with
  | tup ys =>
    simp only [viewQ, Option.some.injEq] at e; subst e
    obtain ⟨a, vs, e, f, n, r⟩ := r.tupE
    exact ⟨a, vs, e, .inr ⟨SqT.of f, fun O' g => it_tup (fun ρ' H' m => SqT.of (m.tup a _ f n)) (r.grow g)⟩⟩
  | scr ys =>
    simp only [viewQ, Option.some.injEq] at e; subst e
    obtain ⟨a, vs, e, f, r⟩ := r.scrE
    exact ⟨a, vs, e, .inl ⟨f.sq, fun O' g => it_lst (Z := Zx.of X) (fun ρ' H' m => ((f.grow g).mvO m).sq) (r.grow g)⟩⟩
  | lst ys =>
    simp only [viewQ, viewL, Option.some.injEq] at e; subst e
    obtain ⟨a, vs, e, f, r⟩ := r.lstE
    exact ⟨a, vs, e, .inl ⟨SqL.of f.1, fun O' g => it_lst (Z := Zx.of X) (fun ρ' H' m => SqL.of (m.keep a _ f.1 f.2.1 fun z => f.2.2 (g _ _ f.1 z))) (r.grow g)⟩⟩
  | ref n => exact absurd rfl (hd n)
  | non => simp [viewQ, viewL] at e
  | bl _ => simp [viewQ, viewL] at e
  | int _ => simp [viewQ, viewL] at e
  | str _ => simp [viewQ, viewL] at e
  | dic _ _ => simp [viewQ, viewL] at e
theorem pi_or {t u : TI} (h : PI X tg a t) (h' : PI X tg a u) : PI X tg a (fun τ H R => t τ H R ∨ u τ H R) := ⟨fun p s τ H R I q => q.elim (fun q => h.run p s τ H R I q) fun q => h'.run p s τ H R I q⟩
/-- a thing of which the value tells what is walked -/
def iAny (K : PySem.W.Frag) (te : TE) : TI := fun τ H R => te τ H fun x H1 => ∃ a, x = .ref a ∧ (((∃ xs, SqL K H1 a xs) ∧ R (Itl K a) H1) ∨ ((∃ xs, SqT K H1 a xs) ∧ R (Itt K a) H1))
theorem pi_any {te : TE} (ha : PE X a te) : PI X tg a (iAny X.K te) := by
  refine ⟨fun p s τ H R I q => ?_⟩
  refine thn (ha.run p s τ H _ I q) fun v s1 ⟨x, H1, I1, r1, y, e, q1⟩ => ?_
  subst e
  cases r1
  rcases q1 with ⟨⟨xs, hq⟩, q⟩ | ⟨⟨xs, hq⟩, q⟩
  · obtain ⟨its, rv, p, hz⟩ := I1.list hq
    refine wpAny_pyIter_list p.isList ?_
    refine ⟨s1.heap.objs.size, [s1.heap.objs.size], _, _, H1, rfl, I1.kept (t' := s1.toks) fun b o e => Heap.get?_push_of_some _ e, turn_list y _, ⟨_, Heap.get?_push_size _ rfl, rfl, rfl⟩, fun b hb => ?_, q⟩
    have e : b = s1.heap.objs.size := by simpa using hb
    subst e
    exact I1.fpOk (Nat.le_refl _) (I1.hok.fresh (Nat.le_refl _))
  · obtain ⟨its, rv, p, hz⟩ := I1.tuple hq
    refine wpAny_pyIter_tuple (show s1.heap.IsTuple y its.toArray from p) ?_
    refine ⟨s1.heap.objs.size, [s1.heap.objs.size], _, _, H1, rfl, I1.kept (t' := s1.toks) fun b o e => Heap.get?_push_of_some _ e, turn_tuple y _, ⟨_, Heap.get?_push_size _ rfl, rfl, rfl⟩, fun b hb => ?_, q⟩
    have e : b = s1.heap.objs.size := by simpa using hb
    subst e
    exact I1.fpOk (Nat.le_refl _) (I1.hok.fresh (Nat.le_refl _))
theorem i_seq (ha : SE X a fa) : SI X tg a (iSeq fa) := imI (pi_any ha) fun τ H R b0 q => by
  obtain ⟨O, ρ, σ, h, g, n, h', Rr, e, k⟩ := q b0
  unfold iSeq at e
  split at e
  · rename_i n1 h1 ea
    split at e
    · rename_i xs hx
      cases e
      refine one Rr ea fun v ρ1 H1 b1 m1 r1 p1 => ?_
      obtain ⟨y, rfl, hy⟩ := p1.refE
      obtain ⟨o, ho, ro⟩ := r1.ob hy
      rw [hx] at ho
      cases ho
      obtain ⟨vs, hv, rs⟩ := ro
      exact ⟨y, rfl, .inl ⟨⟨vs, SqL.of hv⟩, fun b => k _ ρ1 H1 b m1 r1 fun O' _ _ => it_own (Z := Zx.of X) hy⟩⟩
    · cases e
  · rename_i d h1 hd ea
    split at e
    · rename_i xs ex
      cases e
      refine one Rr ea fun v ρ1 H1 b1 m1 r1 p1 => ?_
      obtain ⟨y, vs, rfl, hq⟩ := viewQ_it r1 ex (fun n z => hd n z) p1
      refine ⟨y, rfl, ?_⟩
      rcases hq with ⟨hq, it⟩ | ⟨hq, it⟩
      · exact .inl ⟨⟨vs, hq⟩, fun b => k _ ρ1 H1 b m1 r1 fun O' _ g2 => it O' g2⟩
      · exact .inr ⟨⟨vs, hq⟩, fun b => k _ ρ1 H1 b m1 r1 fun O' _ g2 => it O' g2⟩
    · cases e
  · cases e

/-! ### ranges -/
def srcR (lo : Int) (n : Nat) : Src := fun _ i => some (if i < n then some (.int (lo + i)) else none)
theorem it_rng {Z : Zx} {O : Addr → Prop} {ρ : List Addr} {H : Hp} {lo : Int} {n : Nat} (hn : n ≤ szL) : ItOk Z O (Itr lo n) (srcR lo n) ρ H := by
  intro ρ2 h2 H2 i b m R
  unfold srcR
  refine ⟨fun e => ?_, fun d e => ?_⟩
  · by_cases hi : i < n
    · rw [if_pos hi] at e; cases e
    · exact Nat.le_of_not_lt hi
  · by_cases hi : i < n
    · rw [if_pos hi] at e
      cases e
      refine ⟨Nat.lt_of_lt_of_le hi hn, hi, fun x H3 ⟨eH, ex⟩ => ?_⟩
      subst eH; subst ex
      exact ⟨Mv.refl, R, .int _⟩
    · rw [if_neg hi] at e; cases e
def iR1 (fr : AF) : IF := fun σ h => match fr σ h with
  | some ([.int j], h1) => if j ≤ 16777216 ∧ -16777216 ≤ j then some (srcR 0 j.toNat, j.toNat + 1, h1) else none
  | _ => none
def iR2 (fr : AF) : IF := fun σ h => match fr σ h with
  | some ([.int i, .int j], h1) => if j ≤ 1000000 ∧ -1000000 ≤ j ∧ i ≤ 1000000 ∧ -1000000 ≤ i then some (srcR i (j - i).toNat, (j - i).toNat + 1, h1) else none
  | _ => none
theorem i_rng1 {p : Pos} (hg : Gl X "range") (hm : X.mg "range" = none) (ha : SA X [a] fr) (hs : starEach [a] X.env = [(false, eval a X.env)] := by rfl) : SI X tg (.Call (.Name "range" p) [a] [] pos) (iR1 fr) := imI (pi_range1 hg hm ha hs) fun τ H Q b0 q => by
  obtain ⟨O, ρ, σ, h, g, n, h', Rr, e, k⟩ := q b0
  unfold iR1 at e
  split at e
  · rename_i j h1 ea
    split at e
    · rename_i hj
      cases e
      refine aone Rr ea fun vs ρ1 H1 b1 m1 r1 p1 => ?_
      obtain ⟨v, rfl, rv⟩ := p1.one
      exact ⟨j, by rw [rv.intE], by omega, by omega, fun b => k _ ρ1 H1 b m1 r1 fun O' _ _ => it_rng (by show j.toNat ≤ 16777216; omega)⟩
    · cases e
  · cases e
theorem i_rng2 {p : Pos} (hg : Gl X "range") (hm : X.mg "range" = none) (ha : SA X [a, b] fr) (hs : starEach [a, b] X.env = [(false, eval a X.env), (false, eval b X.env)] := by rfl) (hs2 : starEach [b] X.env = [(false, eval b X.env)] := by rfl) : SI X tg (.Call (.Name "range" p) [a, b] [] pos) (iR2 fr) := imI (pi_range2 hg hm ha hs hs2) fun τ H Q b0 q => by
  obtain ⟨O, ρ, σ, h, g, n, h', Rr, e, k⟩ := q b0
  unfold iR2 at e
  split at e
  · rename_i i j h1 ea
    split at e
    · rename_i hj
      cases e
      refine aone Rr ea fun vs ρ1 H1 b1 m1 r1 p1 => ?_
      obtain ⟨v, u, rfl, rv, ru⟩ := p1.two
      exact ⟨i, j, by rw [rv.intE, ru.intE], by omega, fun b => k _ ρ1 H1 b m1 r1 fun O' _ _ => it_rng (by show (j - i).toNat ≤ 16777216; omega)⟩
    · cases e
  · cases e

/-! ### for -/
def sForN (g : Src) (gt : GF) (fb : SF) : Nat → Nat → SF
  | 0, _, _, _ => none
  | m + 1, i, σ, h => match g h i with
    | some none => some (.nx σ h)
    | some (some d) => (match gt d σ h with
      | some (σ1, h1) => (match fb σ1 h1 with
        | some (.nx σ2 h2) => sForN g gt fb m (i + 1) σ2 h2
        | some (.ct σ2 h2) => sForN g gt fb m (i + 1) σ2 h2
        | some (.bk σ2 h2) => some (.nx σ2 h2)
        | some (.rt d h2) => some (.rt d h2)
        | none => none)
      | none => none)
    | none => none
def sFor (fi : IF) (gt : GF) (fb : SF) : SF := fun σ h => match fi σ h with
  | some (g, n, h1) => sForN g gt fb n 0 σ h1
  | none => none
variable {body : List Stmt} {f : SF} {gt : GF} {fi : IF} {vs : List Nat}
theorem ss_for (hp : PassesOwn (model X.prog X.w) X.A X.env X.xe) (hc : X.calm = true) (hi : SI X tg a fi) (hg : SG X tg gt vs) (hb : SSs X body f) (hs : ∀ x, foldedSetIterable a X.env x = pure x := by intro _; rfl) : SS X (.For tg a body [] pos) (sFor fi gt f) := imS (ps_for hp hc hi hg hb hs) fun De τ H b0 q => by
  obtain ⟨O, ρ0, σ0, h0, o, R0, e0, k⟩ := q b0
  unfold sFor at e0
  split at e0
  · rename_i g n h1 ei
    refine fun _ => ⟨O, ρ0, σ0, h0, g, n, h1, R0, ei, fun J ρ1 H1 b1 m1 r1 it => ?_⟩
    have it := it O (fun _ z => z) fun _ _ _ z => z
    refine ⟨fun i m τ' H' => ∃ ρ σ h, BH X.K H' ∧ Mv ρ1 H1 ρ H' ∧ Rw (Zx.of X) O ρ σ h τ' H' ∧ sForN g gt f m i σ h = some o, ⟨n, ρ1, σ0, h1, b1, Mv.refl, R0.mv m1 r1, e0⟩, ?_⟩
    rintro i m τ2 H2 ⟨ρ2, σ2, h2, b2, m2, R2, e⟩
    have m02 := Rw.tr m1 r1 m2
    cases m with
    | zero => cases e
    | succ m =>
      unfold sForN at e
      obtain ⟨i1, i2⟩ := it ρ2 h2 H2 i b2 m2.toO R2.l
      split at e
      · rename_i eg
        cases e
        exact .inl ⟨i1 eg, fun b => k τ2 ρ2 H2 b m02 R2⟩
      · rename_i d eg
        obtain ⟨_, go, yl⟩ := i2 d eg
        refine .inr ⟨go, fun τ' H' => BH X.K H' ∧ ∃ ρ σ h, Mv ρ1 H1 ρ H' ∧ Rw (Zx.of X) O ρ σ h τ' H' ∧ sForN g gt f m (i + 1) σ h = some o, fun τ' H' ⟨b, ρ, σ, h, m', R, e⟩ => ⟨m, Nat.lt_succ_self _, ρ, σ, h, b, m', R, e⟩, fun x H3 y => ?_⟩
        obtain ⟨m3, r3, p3⟩ := yl x H3 y
        have m13 := Rw.tr m2 R2.l m3
        split at e
        · rename_i σ4 h4 et
          refine fun _ => ⟨O, ρ2, σ2, h2, d, σ4, h4, R2.mv m3 r3, p3, et, fun τ4 ρ4 H4 b4 m4 R4 _ _ => ?_⟩
          have m14 := Rw.tr m13 r3 m4
          cases eb : f σ4 h4 with
          | none => rw [eb] at e; cases e
          | some o1 =>
            rw [eb] at e
            refine sgo R4 eb ?_
            cases o1 with
            | nx σ5 h5 => exact fun τ5 ρ5 H5 b5 m5 R5 => ⟨b5, ρ5, σ5, h5, Rw.tr m14 R4.l m5, R5, e⟩
            | ct σ5 h5 => exact fun τ5 ρ5 H5 b5 m5 R5 => ⟨b5, ρ5, σ5, h5, Rw.tr m14 R4.l m5, R5, e⟩
            | bk σ5 h5 => cases e; exact fun τ5 ρ5 H5 b5 m5 R5 _ => k τ5 ρ5 H5 b5 (Rw.tr m1 r1 (Rw.tr m14 R4.l m5)) R5
            | rt d h5 => cases e; exact fun v ρ5 H5 b5 m5 r5 p5 _ => k v ρ5 H5 b5 (Rw.tr m1 r1 (Rw.tr m14 R4.l m5)) r5 p5
        · cases e
      · cases e
  · cases e0
end
end TB
namespace TB
open PySem PySem.Spec PyProof.Rows L2

/-! ### list comprehensions -/
def wipeD (σ : Fr) : List Nat → Fr
  | [] => σ
  | v :: vs => (wipeD σ vs).set v none
theorem wipe_at {τ : L2.St} {j : Nat} : ∀ (vs : List Nat), (wipe τ vs)[j]? = if j ∈ vs then (if j < τ.length then some none else none) else τ[j]?
  | [] => by simp [wipe]
  | v :: vs => by
    unfold wipe
    by_cases h : v = j
    · subst h
      rw [if_pos List.mem_cons_self]
      by_cases hl : v < τ.length
      · rw [if_pos hl, List.getElem?_set_self (by rw [wipe_length]; exact hl)]
      · rw [if_neg hl, List.getElem?_eq_none (by rw [List.length_set, wipe_length]; omega)]
    · rw [List.getElem?_set_ne h, wipe_at vs]
      by_cases hj : j ∈ vs
      · rw [if_pos hj, if_pos (List.mem_cons_of_mem _ hj)]
      · rw [if_neg hj, if_neg (by rw [List.mem_cons, not_or]; exact ⟨fun z => h z.symm, hj⟩)]
theorem wipe_eq {τ τ' : L2.St} {vs ws : List Nat} (hl : τ'.length = (wipe τ vs).length) (hc : ∀ j, j ∉ ws → τ'[j]? = (wipe τ vs)[j]?) (hs : ∀ j ∈ ws, j ∈ vs) : wipe τ' vs = wipe τ vs := by
  rw [wipe_length] at hl
  refine List.ext_getElem? fun j => ?_
  rw [wipe_at, wipe_at]
  by_cases hj : j ∈ vs
  · rw [if_pos hj, if_pos hj, hl]
  · rw [if_neg hj, if_neg hj, hc j fun z => hj (hs j z), wipe_at, if_neg hj]
theorem wipeD_length (σ : Fr) : ∀ vs : List Nat, (wipeD σ vs).length = σ.length
  | [] => rfl
  | v :: vs => by unfold wipeD; rw [List.length_set, wipeD_length σ vs]
theorem RepS.wipe {Z : Zx} {O : Addr → Prop} {ρ : List Addr} {H : Hp} {σ : Fr} {τ : L2.St} (r : RepS Z O ρ H σ τ) : ∀ vs : List Nat, RepS Z O ρ H (wipeD σ vs) (wipe τ vs)
  | [] => r
  | v :: vs => by
    have q := RepS.wipe r vs
    refine ⟨by rw [wipeD_length, wipe_length, r.1], fun j d e => ?_⟩
    unfold wipeD at e
    unfold L2.wipe
    by_cases h : v = j
    · subst h
      by_cases hl : v < (wipeD σ vs).length
      · rw [List.getElem?_set_self hl] at e; cases e
      · rw [List.getElem?_eq_none (by rw [List.length_set]; omega)] at e; cases e
    · rw [List.getElem?_set_ne h] at e
      obtain ⟨u, h1, h2⟩ := q.2 j d e
      exact ⟨u, by rw [List.getElem?_set_ne h]; exact h1, h2⟩
theorem RepS.grow {Z : Zx} {O O' : Addr → Prop} {ρ : List Addr} {H : Hp} {σ : Fr} {τ : L2.St} (g : ∀ a o, H a = some o → O' a → O a) (r : RepS Z O ρ H σ τ) : RepS Z O' ρ H σ τ :=
  ⟨r.1, fun j d e => let ⟨u, h1, h2⟩ := r.2 j d e; ⟨u, h1, h2.grow g⟩⟩
theorem RepO.grow {Z : Zx} {O O' : Addr → Prop} {ρ : List Addr} {H : Hp} {a : Addr} {o : Ob} (g : ∀ a o, H a = some o → O' a → O a) (r : RepO Z O ρ H a o) : RepO Z O' ρ H a o := by
  cases o with
  | lst xs => obtain ⟨vs, h1, h2⟩ := r; exact ⟨vs, h1, h2.grow g⟩
  | dic ks vs =>
    rcases r with ⟨l, h1, h2, h3⟩ | ⟨bs, vs, h1, h2, h3, h4, h5⟩
    · exact .inl ⟨l, h1, h2.grow g, h3.grow g⟩
    · exact .inr ⟨bs, vs, h1, h2, h3.grow g, h4.grow g, h5⟩
theorem Rl.grow {Z : Zx} {O O' : Addr → Prop} {ρ : List Addr} {h : Hs} {H : Hp} (R : Rl Z O ρ h H) (g : ∀ a o, H a = some o → O' a → O a) (hd : ∀ a, O' a → ∃ o, H a = some o) : Rl Z O' ρ h H :=
  ⟨R.len, R.nd, fun a ha z => by obtain ⟨o, e⟩ := R.there ha; exact R.dis a ha (g a o e z), hd, fun n a o e1 e2 => (R.obj n a o e1 e2).grow g⟩
mutual
theorem Rep.chg {Z : Zx} {O : Addr → Prop} {ρ : List Addr} {H : Hp} {p : Addr} {u : HO} (hO : O p) (hp : ∀ vs, H p ≠ some (.tup vs)) : ∀ {d : D} {v : V}, Rep Z O ρ H d v → Rep Z O ρ (upd H p u) d v
  | _, _, .non => .non
  | _, _, .bl b => .bl b
  | _, _, .int b => .int b
  | _, _, .str b => .str b
  | _, _, .tup e n r => .tup (by rw [upd_ne (fun z => hp _ (by rw [← z]; exact e))]; exact e) n (Reps.chg hO hp r)
  | _, _, .lst f r => .lst ⟨by rw [upd_ne (fun z => f.2.2 (by rw [z]; exact hO))]; exact f.1, f.2.1, f.2.2⟩ (Reps.chg hO hp r)
  | _, _, .scr f r => .scr (by
      rcases f with ⟨q, n, o⟩ | f
      · refine .inl ⟨?_, n, o⟩
        rcases q with q | ⟨ob, q⟩
        · exact .inl (by rw [upd_ne (fun z => o (by rw [z]; exact hO))]; exact q)
        · exact .inr ⟨ob, by rw [upd_ne (fun z => o (by rw [z]; exact hO))]; exact q⟩
      · exact .inr f) (Reps.chg hO hp r)
  | _, _, .ref h => .ref h
  | _, _, .dicK h n o r t => .dicK (by rw [upd_ne (fun z => o (by rw [z]; exact hO))]; exact h) n o (Reps.chg hO hp r) (Reps.chg hO hp t)
  | _, _, .dicT h n o q r t => .dicT (by rw [upd_ne (fun z => o (by rw [z]; exact hO))]; exact h) n o q (Reps.chg hO hp r) (Reps.chg hO hp t)
theorem Reps.chg {Z : Zx} {O : Addr → Prop} {ρ : List Addr} {H : Hp} {p : Addr} {u : HO} (hO : O p) (hp : ∀ vs, H p ≠ some (.tup vs)) : ∀ {ds : List D} {vs : List V}, Reps Z O ρ H ds vs → Reps Z O ρ (upd H p u) ds vs
  | _, _, .nil => .nil
  | _, _, .cons q t => .cons (Rep.chg hO hp q) (Reps.chg hO hp t)
end
theorem Rl.chg {Z : Zx} {O : Addr → Prop} {ρ : List Addr} {h : Hs} {H : Hp} {p : Addr} {u : HO} (hO : O p) (hp : ∀ vs, H p ≠ some (.tup vs)) (R : Rl Z O ρ h H) : Rl Z O ρ h (upd H p u) := by
  refine ⟨R.len, R.nd, R.dis, fun a ha => ?_, fun n a o e1 e2 => ?_⟩
  · by_cases z : a = p
    · subst z; exact ⟨u, upd_same⟩
    · obtain ⟨o, e⟩ := R.dom a ha; exact ⟨o, by rw [upd_ne z]; exact e⟩
  · have z : a ≠ p := fun z => R.dis a (List.mem_of_getElem? e1) (by rw [z]; exact hO)
    have r := R.obj n a o e1 e2
    cases o with
    | lst xs => obtain ⟨vs, h1, h2⟩ := r; exact ⟨vs, by rw [upd_ne z]; exact h1, h2.chg hO hp⟩
    | dic ks vs =>
      rcases r with ⟨l, h1, h2, h3⟩ | ⟨bs, vs, h1, h2, h3, h4, h5⟩
      · exact .inl ⟨l, by rw [upd_ne z]; exact h1, h2.chg hO hp, h3.chg hO hp⟩
      · exact .inr ⟨bs, vs, by rw [upd_ne z]; exact h1, h2, h3.chg hO hp, h4.chg hO hp, h5⟩
theorem bh_upd {K : PySem.W.Frag} {H : Hp} {p : Addr} {vs : List V} (b : BH K H) (hz : vs.length ≤ sizeLine) : BH K (upd H p (.lst vs)) := by
  refine ⟨fun a xs h => ?_, fun a xs h => ?_⟩
  · rcases h with h | h
    · by_cases z : a = p
      · subst z
        rcases h with h | ⟨o, h⟩
        · rw [upd_same] at h; cases h; exact hz
        · rw [upd_same] at h; cases h
      · rcases h with h | ⟨o, h⟩
        · rw [upd_ne z] at h; exact b.1 a xs (.inl (.inl h))
        · rw [upd_ne z] at h; exact b.1 a xs (.inl (.inr ⟨o, h⟩))
    · exact b.1 a xs (.inr h)
  · rcases h with h | h
    · by_cases z : a = p
      · subst z
        rcases h with h | ⟨o, h⟩
        · rw [upd_same] at h; cases h
        · rw [upd_same] at h; cases h
      · rcases h with h | ⟨o, h⟩
        · rw [upd_ne z] at h; exact b.2 a xs (.inl (.inl h))
        · rw [upd_ne z] at h; exact b.2 a xs (.inl (.inr ⟨o, h⟩))
    · exact b.2 a xs (.inr h)
def SPT (X : Cx) (ifs : List Expr) (f : EF) : Prop := PTs X ifs (tT (Zx.of X) f)
theorem imPT {X : Cx} {ifs : List Expr} {t u : TT} (h : PTs X ifs t) (k : ∀ τ H Q, BH X.K H → u τ H Q → t τ H fun v H' => BH X.K H' → Q v H') : PTs X ifs u := ⟨fun p s τ H Q I q =>
  thn (h.run p s τ H _ I (k τ H Q (bh_of I) q)) fun _ _ ⟨H', I', q⟩ => ⟨H', I', q (bh_of I')⟩⟩
def eT : EF := eC (.bl true)
theorem pt_none {X : Cx} : SPT X [] eT := imPT pts_nil fun τ H Q b0 q => by
  obtain ⟨O, ρ, σ, h, c, h', R, e, k⟩ := q b0
  cases e
  exact fun b => k ρ H b Mv.refl R.l
theorem pt_one {X : Cx} {c : Expr} {f : EF} (h : ST X c f) : SPT X [c] f := pts_one h

theorem Rl.more {Z : Zx} {O : Addr → Prop} {ρ : List Addr} {h : Hs} {H : Hp} {p : Addr} {u : HO} (R : Rl Z O ρ h H) (hp : H p = none) : Rl Z (fun a => O a ∨ a = p) ρ h (upd H p u) := by
  have f := R.free hp
  refine ⟨R.len, R.nd, fun a ha z => z.elim (R.dis a ha) (fun z => f.1 (z ▸ ha)), fun a z => ?_, fun n a o e1 e2 => ?_⟩
  · rcases z with z | z
    · obtain ⟨o, e⟩ := R.dom a z; exact ⟨o, by rw [upd_ne (ne_of_none e hp)]; exact e⟩
    · exact ⟨u, by rw [z]; exact upd_same⟩
  · have r := R.obj n a o e1 e2
    obtain ⟨z, hz⟩ := r.there
    exact (r.grow (O' := fun a => O a ∨ a = p) fun a o e z => z.elim id fun z => by subst z; rw [hp] at e; cases e).mv (fresh_mv hp) (upd_ne (ne_of_none hz hp))
def lcN (g : Src) (gt : GF) (ft fe : EF) (own : List Nat) : Nat → Nat → Fr → Hs → Option (List D × Hs)
  | 0, _, _, _ => none
  | m + 1, i, σ, h => match g h i with
    | some none => some ([], h)
    | some (some d) => (match gt d (wipeD σ own) h with
      | some (σ1, h1) => (match ft σ1 h1 with
        | some (.bl true, h2) => (match fe σ1 h2 with
          | some (y, h3) => (match lcN g gt ft fe own m (i + 1) σ h3 with
            | some (ys, h4) => some (y :: ys, h4)
            | none => none)
          | none => none)
        | some (.bl false, h2) => lcN g gt ft fe own m (i + 1) σ h2
        | _ => none)
      | none => none)
    | none => none
def eLc (fi : IF) (gt : GF) (ft fe : EF) (own : List Nat) : EF := fun σ h => match fi σ h with
  | some (g, n, h1) => (match lcN g gt ft fe own n 0 σ h1 with
    | some (ys, h2) => some (.lst ys, h2)
    | none => none)
  | none => none
theorem lc_of {X : Cx} {fi : IF} {gt : GF} {ft fe : EF} {own ws : List Nat} (hs : ∀ j ∈ ws, j ∈ own) {τ : L2.St} {H : Hp} {Q : VK} (b0 : BH X.K H) (q : tE (Zx.of X) (eLc fi gt ft fe own) τ H Q) :
    tLc (tI (Zx.of X) fi) (tG (Zx.of X) gt ws) (tT (Zx.of X) ft) (tE (Zx.of X) fe) own τ H fun v H' => BH X.K H' → Q v H' := by
  obtain ⟨O, ρ0, σ, h0, d, hf, R0, e0, k⟩ := q b0
  unfold eLc at e0
  split at e0
  · rename_i g n h1 ei
    split at e0
    · rename_i ys' hf' el
      simp only [Option.some.injEq, Prod.mk.injEq] at e0
      obtain ⟨rfl, rfl⟩ := e0
      refine fun _ => ⟨O, ρ0, σ, h0, g, n, h1, R0, ei, fun J ρ1 H1 b1 m1 r1 it => fun D hD => ?_⟩
      have fD := r1.free hD
      have g1 : ∀ a o, H1 a = some o → (O a ∨ a = D) → O a := fun a o e z => z.elim id fun z => by subst z; rw [hD] at e; cases e
      have it := it (fun a => O a ∨ a = D) (fun _ z => .inl z) g1
      have hS : RepS (Zx.of X) (fun a => O a ∨ a = D) ρ1 H1 σ τ := (R0.s.mv m1).grow g1
      have mD : Mv ρ1 H1 ρ1 (upd H1 D (.lst [])) := fresh_mv hD
      have rD : Rl (Zx.of X) (fun a => O a ∨ a = D) ρ1 h1 (upd H1 D (.lst [])) := r1.more hD
      have bD : BH X.K (upd H1 D (.lst [])) := bh_upd b1 (Nat.zero_le _)
      refine ⟨fun i m H' => ∃ ρ h acc av ys, BH X.K H' ∧ Mv ρ1 H1 ρ H' ∧ Rl (Zx.of X) (fun a => O a ∨ a = D) ρ h H' ∧ H' D = some (.lst av) ∧ Reps (Zx.of X) (fun a => O a ∨ a = D) ρ H' acc av ∧ acc.length ≤ i ∧
        lcN g gt ft fe own m i σ h = some (ys, hf') ∧ acc ++ ys = ys', ⟨n, ρ1, h1, [], [], ys', bD, mD, rD, upd_same, .nil, Nat.le_refl _, el, rfl⟩, ?_⟩
      rintro i m H2 ⟨ρ, h, acc, av, ys, b2, m2, r2, e2, ra, la, e, et⟩
      have hdD : D ∉ ρ := fun z => r2.dis D z (.inr rfl)
      cases m with
      | zero => cases e
      | succ m =>
        unfold lcN at e
        obtain ⟨i1, i2⟩ := it ρ h H2 i b2 m2.toO r2
        split at e
        · rename_i eg
          cases e
          refine .inl ⟨i1 eg, fun b => ?_⟩
          have gb : ∀ a o, H2 a = some o → O a → (O a ∨ a = D) := fun _ _ _ z => .inl z
          have r3 := r2.grow (O' := O) gb (fun a z => r2.dom a (.inl z))
          rw [List.append_nil] at et
          subst et
          exact k (.ref D) ρ H2 b (Rw.tr m1 r1 m2) r3 (.lst ⟨e2, hdD, fD.2⟩ (ra.grow gb))
        · rename_i d eg
          obtain ⟨li, go, yl⟩ := i2 d eg
          refine .inr ⟨go, fun H' => ∃ ρ h acc av ys, BH X.K H' ∧ Mv ρ1 H1 ρ H' ∧ Rl (Zx.of X) (fun a => O a ∨ a = D) ρ h H' ∧ H' D = some (.lst av) ∧ Reps (Zx.of X) (fun a => O a ∨ a = D) ρ H' acc av ∧ acc.length ≤ i + 1 ∧
            lcN g gt ft fe own m (i + 1) σ h = some (ys, hf') ∧ acc ++ ys = ys', fun H' q => ⟨m, Nat.lt_succ_self _, q⟩, fun x H3 y => ?_⟩
          obtain ⟨m3, r3, p3⟩ := yl x H3 y
          have m13 := Rw.tr m2 r2 m3
          split at e
          · rename_i σ4 h4 eg4
            refine fun _ => ⟨fun a => O a ∨ a = D, ρ, wipeD σ own, h, d, σ4, h4, ⟨r3, (hS.mv m13).wipe own⟩, p3, eg4, fun τ4 ρ4 H4 b4 m4 R4 c4 l4 => ?_⟩
            refine ⟨wipe_eq l4 c4 hs, ?_⟩
            have m14 := Rw.tr m13 r3 m4
            split at e
            · rename_i h5 et5
              refine tone R4 et5 fun ρ5 H5 b5 m5 r5 => ?_
              rw [if_pos rfl]
              have m15 := Rw.tr m14 R4.l m5
              split at e
              · rename_i y1 h6 ey
                refine one (R4.mv m5 r5) ey fun v6 ρ6 H6 b6 m6 r6 p6 => ?_
                have m16 := Rw.tr m15 r5 m6
                have mD6 : H6 D = some (.lst av) := by
                  have q3 := m3.keep D _ e2 hdD
                  have q4 := m4.keep D _ q3 hdD
                  have n4 := m4.out q3 hdD
                  have q5 := m5.keep D _ q4 n4
                  have n5 := m5.out q4 n4
                  exact m6.keep D _ q5 n5
                split at e
                · rename_i ys6 h7 el6
                  cases e
                  have ml : av.length < sizeLine := by
                    have := ra.length
                    rw [← szL_eq]; omega
                  have bN : BH X.K (upd H6 D (.lst (av ++ [v6]))) := bh_upd b6 (by rw [List.length_append, List.length_singleton]; omega)
                  have m26 : Mv ρ H2 ρ6 H6 := Rw.tr m3 r3 (Rw.tr m4 R4.l (Rw.tr m5 r5 m6))
                  refine ⟨av, mD6, ml, ρ6, h6, acc ++ [y1], av ++ [v6], ys6, bN, ?_, r6.chg (.inr rfl) (fun vs z => by rw [mD6] at z; cases z), upd_same, ((ra.mv m26).snoc p6).chg (.inr rfl) (fun vs z => by rw [mD6] at z; cases z), by rw [List.length_append, List.length_singleton]; omega, el6, by rw [List.append_assoc]; exact et⟩
                  refine ⟨m16.pre, fun a o ea ka => ?_⟩
                  have : a ≠ D := fun z => by subst z; rw [hD] at ea; cases ea
                  rw [upd_ne this]
                  exact m16.keep a o ea ka
                · cases e
              · cases e
            · rename_i h5 et5
              refine tone R4 et5 fun ρ5 H5 b5 m5 r5 => ?_
              rw [if_neg Bool.false_ne_true]
              have m15 := Rw.tr m14 R4.l m5
              have m25 : Mv ρ H2 ρ5 H5 := Rw.tr m3 r3 (Rw.tr m4 R4.l m5)
              have mD5 : H5 D = some (.lst av) := by
                have q3 := m3.keep D _ e2 hdD
                have q4 := m4.keep D _ q3 hdD
                have n4 := m4.out q3 hdD
                exact m5.keep D _ q4 n4
              exact ⟨ρ5, h5, acc, av, ys, b5, m15, r5, mD5, ra.mv m25, by omega, e, et⟩
            · cases e
          · cases e
        · cases e
    · cases e0
  · cases e0
section
variable {X : Cx} {elt tg iter c : Expr} {ifs : List Expr} {scope : Scope} {own : List (Str × Nat)} {pos spos : Pos} {fi : IF} {gt : GF} {ft fe : EF} {ws : List Nat}
theorem s_lc (hc : X.calm = true) (hN : X.N.Nodup) (hi : SI X tg iter fi) (ok : BlkOk X.N X.env.scope scope own) (hw : ∀ j ∈ ws, j ∈ own.map (·.2))
    (hg : ∀ (s : Shared) (H : Hp) (C : Addr) (cl : List (Str × Addr)) (fp : List Addr), SG (X.blk s H scope (compEnvC scope cl C X.env) fp) tg gt ws) (ht : ∀ (s : Shared) (H : Hp) (C : Addr) (cl : List (Str × Addr)) (fp : List Addr), SPT (X.blk s H scope (compEnvC scope cl C X.env) fp) ifs ft)
    (he : ∀ (s : Shared) (H : Hp) (C : Addr) (cl : List (Str × Addr)) (fp : List Addr), SE (X.blk s H scope (compEnvC scope cl C X.env) fp) elt fe) (hs : ∀ x, foldedSetIterable iter X.env x = pure x := by intro _; rfl) :
    SE X (.ListComp elt [⟨tg, iter, ifs, 0⟩] scope pos) (eLc fi gt ft fe (own.map (·.2))) := imE (pe_lc (g := tG (Zx.of X) gt ws) (tt := tT (Zx.of X) ft) (te := tE (Zx.of X) fe) hc hN hi ok hg ht he hs) fun _ _ _ b0 q => lc_of hw b0 q
theorem ss_setLc {i : Nat} {y : Str} {py : Pos} (hc : X.calm = true) (hN : X.N.Nodup) (hsw : swapsWith (.ListComp elt [⟨tg, iter, ifs, 0⟩] scope pos) (some (.Name y py)) spos.line X.env = pure true) (hi : SI X tg iter fi) (ok : BlkOk X.N X.env.scope scope own) (hw : ∀ j ∈ ws, j ∈ own.map (·.2))
    (hg : ∀ (s : Shared) (H : Hp) (C : Addr) (cl : List (Str × Addr)) (fp : List Addr), SG (X.blk s H scope (compEnvC scope cl C X.env) fp) tg gt ws) (ht : ∀ (s : Shared) (H : Hp) (C : Addr) (cl : List (Str × Addr)) (fp : List Addr), SPT (X.blk s H scope (compEnvC scope cl C X.env) fp) ifs ft)
    (he : ∀ (s : Shared) (H : Hp) (C : Addr) (cl : List (Str × Addr)) (fp : List Addr), SE (X.blk s H scope (compEnvC scope cl C X.env) fp) elt fe) (hy : X.N[i]? = some y := by rfl) (hyl : X.env.scope.names.lookup y = some .local := by rfl) (hs : ∀ x, foldedSetIterable iter X.env x = pure x := by intro _; rfl) :
    SS X (.Assign [.Name y py] (.ListComp elt [⟨tg, iter, ifs, 0⟩] scope pos) spos) (sAsg (eLc fi gt ft fe (own.map (·.2))) (gN i)) := imS (ps_setLc (g := tG (Zx.of X) gt ws) (tt := tT (Zx.of X) ft) (te := tE (Zx.of X) fe) hc hN hy hyl hsw hi ok hg ht he hs) fun De τ H b0 q => by
  obtain ⟨O, ρ, σ, h, o, R, e, k⟩ := q b0
  unfold sAsg at e
  split at e
  · rename_i d h1 ea
    simp only [gN] at e
    cases e
    have z : tE (Zx.of X) (eLc fi gt ft fe (own.map (·.2))) τ H fun v H' => De.nx (τ.set i (some v)) H' := fun _ => ⟨O, ρ, σ, h, d, h1, R, ea, fun v ρ1 H1 b1 m1 r1 p1 => k _ ρ1 H1 b1 m1 ⟨r1, (R.s.mv m1).set i p1⟩⟩
    exact lc_of hw b0 z
  · cases e
end
end TB
namespace TB
open PySem PySem.Spec PyProof.Rows L2

/-! ### keys -/
inductive NAt (H : Hp) : NestedKey → V → Prop
  | non : NAt H .none .non
  | bl (b) : NAt H (.num (if b then 1 else 0)) (.bl b)
  | int (i) : NAt H (.num i) (.int i)
  | str (x) : NAt H (.text x) (.str x)
  | tup {ks a vs} : H a = some (.tup vs) → ks.length = vs.length → (∀ (i : Nat) (k : NestedKey) (v : V), ks[i]? = some k → vs[i]? = some v → NAt H k v) → NAt H (.tup ks) (.ref a)
mutual
theorem nk_at {Z : Zx} {O : Addr → Prop} {ρ : List Addr} {H : Hp} : ∀ (d : D) {v : V} (n : Nat), d.hk n = true → Rep Z O ρ H d v → NAt H d.nk v ∧ d.nk.depth ≤ n
  | .non, _, n, _, r => by cases r; exact ⟨.non, Nat.zero_le _⟩
  | .bl b, _, n, _, r => by cases r; exact ⟨.bl b, Nat.zero_le _⟩
  | .int b, _, n, _, r => by cases r; exact ⟨.int b, Nat.zero_le _⟩
  | .str b, _, n, _, r => by cases r; exact ⟨.str b, Nat.zero_le _⟩
  | .tup xs, _, 0, h, r => by simp [D.hk] at h
  | .tup xs, _, n + 1, h, r => by
    obtain ⟨a, vs, rfl, e, _, t⟩ := r.tupE
    have q := nk_atA xs n (by simpa [D.hk] using h) t
    refine ⟨?_, by simp only [D.nk, NestedKey.depth]; have := q.2.2; omega⟩
    simp only [D.nk]
    exact .tup e q.1 q.2.1
  | .lst _, _, n, h, _ => by simp [D.hk] at h
  | .scr _, _, n, h, _ => by simp [D.hk] at h
  | .ref _, _, n, h, _ => by simp [D.hk] at h
  | .dic _ _, _, n, h, _ => by simp [D.hk] at h
theorem nk_atA {Z : Zx} {O : Addr → Prop} {ρ : List Addr} {H : Hp} : ∀ (ds : List D) {vs : List V} (n : Nat), hkA ds n = true → Reps Z O ρ H ds vs →
    (D.nk.nkA ds).length = vs.length ∧ (∀ (i : Nat) (k : NestedKey) (v : V), (D.nk.nkA ds)[i]? = some k → vs[i]? = some v → NAt H k v) ∧ NestedKey.depthAll (D.nk.nkA ds) ≤ n
  | [], _, n, _, r => by cases r; exact ⟨rfl, fun i k v e => by simp [D.nk.nkA] at e, Nat.zero_le _⟩
  | d :: ds, _, n, h, r => by
    obtain ⟨v0, vr, rfl, q, t⟩ := r.consD
    simp only [hkA, Bool.and_eq_true] at h
    have q1 := nk_at d n h.1 q
    have q2 := nk_atA ds n h.2 t
    simp only [D.nk.nkA]
    refine ⟨by rw [List.length_cons, List.length_cons, q2.1], fun i k v e1 e2 => ?_, by simp only [NestedKey.depthAll]; omega⟩
    cases i with
    | zero => simp at e1 e2; subst e1; subst e2; exact q1.1
    | succ i => exact q2.2.1 i k v (by simpa using e1) (by simpa using e2)
end
theorem NAt.is {P : Program} {w : World} {H : Hp} {h : Heap} (ok : HOk P w H h) {k : NestedKey} {v : V} (n : NAt H k v) : ∀ {u : Value}, RelV v u → NestedIs h k u := by
  induction n with
  | non => intro u r; cases r; exact .none
  | bl b => intro u r; cases r; exact .bool rfl
  | int i => intro u r; obtain ⟨t, rfl⟩ := r; exact .int i t
  | str x => intro u r; obtain ⟨t, rfl⟩ := r; exact .text x t
  | @tup ks a vs e hl hs ih =>
    intro u r
    cases r
    obtain ⟨z, its, rv, o, ho, hc, nn, hd⟩ := ok a _ e
    refine .tup ho hc hd ?_
    have all : ∀ (ks : List NestedKey) (vs : List V) (us : List Value), ks.length = vs.length → Vals vs us → (∀ (i : Nat) (k : NestedKey) (v : V) (u : Value), ks[i]? = some k → vs[i]? = some v → RelV v u → NestedIs h k u) → NestedAll h ks us := by
      intro ks
      induction ks with
      | nil =>
        intro vs us hl r _
        cases vs with
        | nil => cases r; exact .nil
        | cons _ _ => cases hl
      | cons k ks ihk =>
        intro vs us hl r f
        cases vs with
        | nil => cases hl
        | cons v vs =>
          cases r with
          | cons r1 r2 =>
            exact .cons (f 0 k v _ rfl rfl r1) (ihk vs _ (by simpa using hl) r2 fun i k' v' u' a b c => f (i + 1) k' v' u' (by simpa using a) (by simpa using b) c)
    have := all ks vs its hl rv fun i k v u a b c => ih i k v a b c
    simpa using this
/-- the tuple at b is such a key -/
def KAt (H : Hp) (k : NestedKey) (b : Addr) : Prop := NAt H k (.ref b) ∧ k.depth ≤ 8
theorem KAt.is {P : Program} {w : World} {H : Hp} {h : Heap} (ok : HOk P w H h) {k : NestedKey} {b : Addr} (n : KAt H k b) : (nestedKind P w).is h k b := ⟨n.1.is ok rfl, n.2⟩
abbrev KsAt (H : Hp) (ks : List NestedKey) (bs : List Addr) : Prop := ks.length = bs.length ∧ ∀ (i : Nat) (k : NestedKey) (b : Addr), ks[i]? = some k → bs[i]? = some b → KAt H k b
def lookN (ks : List NestedKey) (us : List V) (k : NestedKey) : Option V := ((ks.zip us).find? fun p => decide (p.1 = k)).map (·.2)
section
variable {P : Program} {w : World} {H : Hp} {h : Heap} {a : Addr} {ks : List NestedKey} {bs : List Addr} {us : List V}
theorem look_rel : ∀ {xs : List (NestedKey × Addr × Value)} {us : List V} (k : NestedKey), Vals us (xs.map (·.2.2)) → RelO (lookN (xs.map (·.1)) us k) ((atKey xs k).map (·.2))
  | [], us, k, r => by cases us <;> simp [lookN, atKey, RelO]
  | x :: xs, us, k, r => by
    cases us with
    | nil => cases r
    | cons u us =>
      cases r with
      | cons r1 r2 =>
        by_cases hk : x.1 = k
        · simpa [lookN, atKey, hk, RelO] using r1
        · have := look_rel k r2
          simpa [lookN, atKey, hk] using this
/-- at a a dict whose keys are tuples, or an empty one -/
def XR (P : Program) (w : World) (H : Hp) (a : Addr) (ks : List NestedKey) (bs : List Addr) (us : List V) : Prop := Rd H a (.ext (DPhi P w a ks bs us)) ∨ (Rd H a (.dK []) ∧ ks = [] ∧ bs = [] ∧ us = [])
theorem dphi_of (ok : HOk P w H h) (e : XR P w H a ks bs us) (kk : KsAt H ks bs) : ks.length ≤ sizeLine ∧ (a == sysModules) = false ∧ ∃ xs : List (NestedKey × Addr × Value), xs.map (·.1) = ks ∧ xs.map (·.2.1) = bs ∧ Vals us (xs.map (·.2.2)) ∧ h.DictOfH (nestedKind P w) a xs := by
  rcases e with e | ⟨e, rfl, rfl, rfl⟩
  case inr =>
    obtain ⟨z, hs, vs, rel, dd⟩ := dk_rd ok e
    cases rel
    obtain ⟨o, es, ep, ho, hx, hd, _, hp, _⟩ := dd
    have he : es.toList = [] := by
      generalize es.toList = l at hp
      cases hp
      rfl
    exact ⟨Nat.zero_le _, hs, [], rfl, rfl, .nil, o, es, ep, ho, hx, hd, by rw [he]; rfl, by simp, by simp⟩
  obtain ⟨⟨z, hs, xs, e1, e2, rv, o, es, ep, ho, hx, hd, he, nd⟩, _, _⟩ := e.ok ok
  refine ⟨z, hs, xs, e1, e2, rv, o, es, ep, ho, hx, hd, he, fun x hx => ?_, by rw [e1]; exact nd⟩
  obtain ⟨i, hi, ei⟩ := List.getElem_of_mem hx
  have g : xs[i]? = some x := by rw [List.getElem?_eq_getElem hi, ei]
  exact (kk.2 i x.1 x.2.1 (by rw [← e1, List.getElem?_map, g]; rfl) (by rw [← e2, List.getElem?_map, g]; rfl)).is ok
end
section
variable {X : Cx} {pins : List (Addr × Obj)} {σ : L2.St} {H : Hp} {s : Shared} {a b : Addr} {A : Around} {E : Value → Shared → Prop} {ks : List NestedKey} {bs : List Addr} {us : List V} {k : NestedKey}
theorem nroom (hu : A.units + 10 < cLine) : (nestedKind X.prog X.w).room A.in1 := by show A.units + 1 + 8 < cLine; omega
theorem x_in {Q : Value → Shared → Prop} (hu : A.units + 10 < cLine) (I : Inv X pins σ H s) (e : XR X.prog X.w H a ks bs us) (kk : KsAt H ks bs) (kb : KAt H k b) (h : ∀ s', Inv X pins σ H s' → Q (.bool (lookN ks us k).isSome) s') :
    wpAny (model X.prog X.w) A (compareOp .In (.ref b) (.ref a)) Q E s := by
  obtain ⟨z, hs, xs, rfl, rfl, rv, dd⟩ := dphi_of I.hok e kk
  have q := (look_rel k rv).isSome_eq
  rw [Option.isSome_map] at q
  refine wpAny_in_heap (nroom (X := X) hu) (kb.is I.hok) hs dd ?_
  rw [← q]
  exact h _ (I.tok _)
theorem x_notIn {Q : Value → Shared → Prop} (hu : A.units + 10 < cLine) (I : Inv X pins σ H s) (e : XR X.prog X.w H a ks bs us) (kk : KsAt H ks bs) (kb : KAt H k b) (h : ∀ s', Inv X pins σ H s' → Q (.bool (!(lookN ks us k).isSome)) s') :
    wpAny (model X.prog X.w) A (compareOp .NotIn (.ref b) (.ref a)) Q E s := by
  obtain ⟨z, hs, xs, rfl, rfl, rv, dd⟩ := dphi_of I.hok e kk
  have q := (look_rel k rv).isSome_eq
  rw [Option.isSome_map] at q
  show wpAny _ _ (do return .bool (!(← contains (.ref a) (.ref b)))) Q E s
  refine wpAny_bind (wpAny_contains_heap (nroom (X := X) hu) (kb.is I.hok) hs dd (wpAny_pure ?_))
  rw [← q]
  exact h _ (I.tok _)
theorem x_getItem {v : V} {Q : Value → Shared → Prop} (hu : A.units + 10 < cLine) (I : Inv X pins σ H s) (e : XR X.prog X.w H a ks bs us) (kk : KsAt H ks bs) (kb : KAt H k b) (hv : lookN ks us k = some v) (h : ∀ w' s', Inv X pins σ H s' → RelV v w' → Q w' s') :
    wpAny (model X.prog X.w) A (getItem (.ref a) (.ref b)) Q E s := by
  obtain ⟨z, hs, xs, rfl, rfl, rv, dd⟩ := dphi_of I.hok e kk
  have q := look_rel k rv
  rw [hv] at q
  obtain ⟨w', hw, rw'⟩ := q.some_of
  obtain ⟨p, hp, hp2⟩ := Option.map_eq_some_iff.mp hw
  refine wpAny_getItem_heap (nroom (X := X) hu) (kb.is I.hok) dd hp ?_
  rw [hp2]
  exact h w' _ (I.tok _) rw'
theorem x_get1 {Q : Value → Shared → Prop} (hu : A.units + 10 < cLine) (I : Inv X pins σ H s) (e : XR X.prog X.w H a ks bs us) (kk : KsAt H ks bs) (kb : KAt H k b) (h : ∀ w' s', Inv X pins σ H s' → RelV ((lookN ks us k).getD .non) w' → Q w' s') :
    wpAny (model X.prog X.w) A (call (.builtin "dict.get") [.ref a, .ref b]) Q E s := by
  obtain ⟨z, hs, xs, rfl, rfl, rv, dd⟩ := dphi_of I.hok e kk
  refine call_meetsIn PySem.F.slot_dict_get dd.typeIs PySem.F.entry_dict_get (PySem.F.args_dict_get_2 _ _) (meetsH_dict_get (nestedKind X.prog X.w) a b hs) ⟨nroom (X := X) hu, k, xs, kb.is I.hok, dd, h _ _ (I.tok _) ?_⟩
  exact (look_rel k rv).getD rfl
theorem x_get2 {d : V} {r : Value} {Q : Value → Shared → Prop} (hu : A.units + 10 < cLine) (I : Inv X pins σ H s) (e : XR X.prog X.w H a ks bs us) (kk : KsAt H ks bs) (kb : KAt H k b) (rd : RelV d r) (h : ∀ w' s', Inv X pins σ H s' → RelV ((lookN ks us k).getD d) w' → Q w' s') :
    wpAny (model X.prog X.w) A (call (.builtin "dict.get") [.ref a, .ref b, r]) Q E s := by
  obtain ⟨z, hs, xs, rfl, rfl, rv, dd⟩ := dphi_of I.hok e kk
  refine call_meetsIn PySem.F.slot_dict_get dd.typeIs PySem.F.entry_dict_get (PySem.F.args_dict_get_3 _ _ _) (meetsH_dict_get_default (nestedKind X.prog X.w) a b hs r) ⟨nroom (X := X) hu, k, xs, kb.is I.hok, dd, h _ _ (I.tok _) ?_⟩
  exact (look_rel k rv).getD rd
/-- the keys, their tuples, the values behind a store -/
def putN (ks : List NestedKey) (bs : List Addr) (us : List V) (k : NestedKey) (b : Addr) (v : V) : List NestedKey × List Addr × List V :=
  if k ∈ ks then (ks, bs, (ks.zip us).map fun p => if p.1 = k then v else p.2) else (ks ++ [k], bs ++ [b], us ++ [v])
theorem dphi_st {P : Program} {w : World} {a : Addr} {ks : List NestedKey} {bs : List Addr} {us : List V} {h1 h2 : Heap} (x : DPhi P w a ks bs us h1) (e : ∀ o, h1.get? a = some o → h2.get? a = some o) : DPhi P w a ks bs us h2 := by
  obtain ⟨z, hs, xs, e1, e2, rv, o, es, ep, ho, r⟩ := x
  exact ⟨z, hs, xs, e1, e2, rv, o, es, ep, e o ho, r⟩
theorem stored_at {xs : List (NestedKey × Addr × Value)} {us : List V} {k : NestedKey} {b : Addr} {v : V} {r : Value} (rv : Vals us (xs.map (·.2.2))) (rr : RelV v r) :
    (storedH xs k b r).map (·.1) = (putN (xs.map (·.1)) (xs.map (·.2.1)) us k b v).1 ∧ (storedH xs k b r).map (·.2.1) = (putN (xs.map (·.1)) (xs.map (·.2.1)) us k b v).2.1 ∧ Vals (putN (xs.map (·.1)) (xs.map (·.2.1)) us k b v).2.2 ((storedH xs k b r).map (·.2.2)) := by
  have hm : (atKey xs k).isSome = true ↔ k ∈ xs.map (·.1) := by
    unfold atKey
    rw [Option.isSome_map, List.find?_isSome, List.mem_map]
    constructor
    · rintro ⟨x, hx, e⟩; exact ⟨x, hx, of_decide_eq_true e⟩
    · rintro ⟨x, hx, e⟩; exact ⟨x, hx, decide_eq_true e⟩
  unfold storedH putN
  by_cases hk : k ∈ xs.map (·.1)
  · rw [if_pos (hm.mpr hk), if_pos hk]
    refine ⟨keys_map_putAt xs k r, ?_, ?_⟩
    · rw [List.map_map]
      refine List.map_congr_left fun x _ => ?_
      show (putAt k r x).2.1 = x.2.1
      unfold putAt
      split <;> rfl
    · clear hm hk
      induction xs generalizing us with
      | nil => cases us with
        | nil => exact .nil
        | cons _ _ => cases rv
      | cons x xs ih =>
        cases us with
        | nil => cases rv
        | cons u us =>
          cases rv with
          | cons r1 r2 =>
            simp only [List.map_cons, List.zip_cons_cons]
            refine .cons ?_ (ih r2)
            by_cases hx : x.1 = k
            · simp [putAt, hx]; exact rr
            · simp [putAt, hx]; exact r1
  · rw [if_neg (fun z => hk (hm.mp z)), if_neg hk]
    refine ⟨by simp, by simp, ?_⟩
    rw [List.map_append]
    exact rv.append (.cons rr .nil)
theorem x_setItem {v : V} {r : Value} {Q : Unit → Shared → Prop} (hu : A.units + 10 < cLine) (I : Inv X pins σ H s) (e : H a = some (.ext (DPhi X.prog X.w a ks bs us))) (kk : KsAt H ks bs) (kb : KAt H k b) (hz : ks.length < sizeLine) (rr : RelV v r)
    (h : ∀ s', Inv X pins σ (upd H a (.ext (DPhi X.prog X.w a (putN ks bs us k b v).1 (putN ks bs us k b v).2.1 (putN ks bs us k b v).2.2))) s' → Q () s') : wpAny (model X.prog X.w) A (setItem (.ref a) (.ref b) r) Q E s := by
  obtain ⟨z, hs, xs, rfl, rfl, rv, dd⟩ := dphi_of I.hok (.inl (.inl e)) kk
  have hz' : xs.length ≤ sizeLine := by simpa using z
  refine wpAny_setItem_heap (hsz := hz') (nroom (X := X) hu) (kb.is I.hok) dd fun h' dd' sb => h _ ?_
  obtain ⟨o, es, ep, ho, hx, hd, he, _, nd⟩ := dd'
  obtain ⟨q1, q2, q3⟩ := stored_at (k := k) (b := b) rv rr
  have hl : (putN (xs.map (·.1)) (xs.map (·.2.1)) us k b v).1.length ≤ sizeLine := by
    unfold putN
    split
    · exact z
    · rw [List.length_append, List.length_singleton]; omega
  have new : DPhi X.prog X.w a (putN (xs.map (·.1)) (xs.map (·.2.1)) us k b v).1 (putN (xs.map (·.1)) (xs.map (·.2.1)) us k b v).2.1 (putN (xs.map (·.1)) (xs.map (·.2.1)) us k b v).2.2 h' :=
    ⟨hl, hs, _, q1, q2, q3, o, es, ep, ho, hx, hd, he, by rw [← q1]; exact nd⟩
  exact d_write I (by rw [e]; exact True.intro) sb ⟨o, ho⟩ ⟨new, ⟨o, ho⟩, fun h1 h2 x st => dphi_st x st⟩
/-- the first key is a tuple -/
theorem x_setNew {v : V} {r : Value} {Q : Unit → Shared → Prop} (hu : A.units + 10 < cLine) (I : Inv X pins σ H s) (e : H a = some (.dK [])) (kb : KAt H k b) (rr : RelV v r)
    (h : ∀ s', Inv X pins σ (upd H a (.ext (DPhi X.prog X.w a [k] [b] [v]))) s' → Q () s') : wpAny (model X.prog X.w) A (setItem (.ref a) (.ref b) r) Q E s := by
  obtain ⟨z, hs, vs, rel, dd⟩ := dk_of I.hok e
  cases rel
  obtain ⟨o, es, ep, ho, hx, hd, _, hp, _⟩ := dd
  have he : es.toList = [] := by
    generalize es.toList = l at hp
    cases hp
    rfl
  have d0 : s.heap.DictOfH (nestedKind X.prog X.w) a [] := ⟨o, es, ep, ho, hx, hd, by rw [he]; rfl, by simp, by simp⟩
  refine wpAny_setItem_heap (hsz := Nat.zero_le _) (nroom (X := X) hu) (kb.is I.hok) d0 fun h' dd' sb => h _ ?_
  obtain ⟨o, es, ep, ho, hx, hd, he, _, nd⟩ := dd'
  have new : DPhi X.prog X.w a [k] [b] [v] h' := ⟨by show 1 ≤ sizeLine; decide, hs, [(k, b, r)], rfl, rfl, .cons rr .nil, o, es, ep, ho, hx, hd, he, by simp⟩
  exact d_write I (by rw [e]; exact True.intro) sb ⟨o, ho⟩ ⟨new, ⟨o, ho⟩, fun h1 h2 x st => dphi_st x st⟩
end
end TB
namespace TB
open PySem PySem.Spec PyProof.Rows L2

/-! ### dicts by values -/
def dget : List D → List D → D → Option D
  | k :: ks, u :: us, q => if k.eqv q then some u else dget ks us q
  | _, _, _ => none
def okKey (ks : List D) (q : D) : Bool := match q with
  | .tup xs => hkA xs 7 && (match ks with | [] => true | .tup _ :: _ => true | _ => false)
  | .int _ => (match ks with | [] => true | .int _ :: _ => true | .str _ :: _ => true | _ => false)
  | _ => false
def viewD (h : Hs) : D → Option (List D × List D)
  | .dic ks us => some (ks, us)
  | .ref n => match h[n]? with | some (.dic ks us) => some (ks, us) | _ => none
  | _ => none
mutual
theorem eqv_nk : ∀ (a b : D) (n m : Nat), a.hk n = true → b.hk m = true → a.eqv b = NestedKey.beq a.nk b.nk
  | .non, b, _, m, _, hb => by cases b <;> simp_all [D.eqv, D.nk, NestedKey.beq, D.hk]
  | .bl x, b, _, m, _, hb => by
    cases b <;> simp_all [D.eqv, D.nk, NestedKey.beq, D.hk, Bool.beq_eq_decide_eq]
    rename_i y
    cases x <;> cases y <;> simp
  | .int x, b, _, m, _, hb => by cases b <;> simp_all [D.eqv, D.nk, NestedKey.beq, D.hk, Bool.beq_eq_decide_eq]
  | .str x, b, _, m, _, hb => by
    cases b <;> simp_all [D.eqv, D.nk, NestedKey.beq, D.hk, Bool.beq_eq_decide_eq]
  | .tup xs, b, 0, m, h, _ => by simp [D.hk] at h
  | .tup xs, b, n + 1, m, h, hb => by
    cases b with
    | tup ys =>
      cases m with
      | zero => simp [D.hk] at hb
      | succ m =>
        simp only [D.eqv, D.nk, NestedKey.beq]
        exact eqv_nkA xs ys n m (by simpa [D.hk] using h) (by simpa [D.hk] using hb)
    | _ => simp_all [D.eqv, D.nk, NestedKey.beq, D.hk]
  | .lst _, _, _, _, h, _ => by simp [D.hk] at h
  | .dic _ _, _, _, _, h, _ => by simp [D.hk] at h
  | .ref _, _, _, _, h, _ => by simp [D.hk] at h
  | .scr _, _, _, _, h, _ => by simp [D.hk] at h
theorem eqv_nkA : ∀ (a b : List D) (n m : Nat), hkA a n = true → hkA b m = true → eqvA a b = NestedKey.beqAll (D.nk.nkA a) (D.nk.nkA b)
  | [], [], _, _, _, _ => by simp [eqvA, D.nk.nkA, NestedKey.beqAll]
  | [], _ :: _, _, _, _, _ => by simp [eqvA, D.nk.nkA, NestedKey.beqAll]
  | _ :: _, [], _, _, _, _ => by simp [eqvA, D.nk.nkA, NestedKey.beqAll]
  | x :: xs, y :: ys, n, m, ha, hb => by
    simp only [hkA, Bool.and_eq_true] at ha hb
    simp only [eqvA, D.nk.nkA, NestedKey.beqAll]
    rw [eqv_nk x y n m ha.1 hb.1, eqv_nkA xs ys n m ha.2 hb.2]
end
/-- what is known of a dict that is read -/
inductive DC (Z : Zx) (O : Addr → Prop) (ρ : List Addr) (H : Hp) (a : Addr) (ks us : List D) : Prop
  | k (l : List (Key × V)) : Rd H a (.dK l) → Reps Z O ρ H ks (l.map fun p => kV p.1) → Reps Z O ρ H us (l.map (·.2)) → DC Z O ρ H a ks us
  | t (bs : List Addr) (vs : List V) : Rd H a (.ext (DPhi Z.P Z.w a (D.nk.nkA ks) bs vs)) → keysT ks = true → Reps Z O ρ H ks (bs.map V.ref) → Reps Z O ρ H us vs → DC Z O ρ H a ks us
section
variable {Z : Zx} {O : Addr → Prop} {ρ : List Addr} {h : Hs} {H : Hp} {a : Addr} {ks us : List D}
theorem viewD_rep {d : D} {v : V} (R : Rl Z O ρ h H) (e : viewD h d = some (ks, us)) (r : Rep Z O ρ H d v) : ∃ a, v = .ref a ∧ DC Z O ρ H a ks us := by
  cases d with
  | dic ks' us' =>
    simp only [viewD, Option.some.injEq, Prod.mk.injEq] at e
    obtain ⟨rfl, rfl⟩ := e
    cases r with
    | dicK h n o r t => exact ⟨_, rfl, .k _ (.inr ⟨_, h⟩) r t⟩
    | dicT h n o q r t => exact ⟨_, rfl, .t _ _ (.inr ⟨_, h⟩) q r t⟩
  | ref n =>
    obtain ⟨a, rfl, hn⟩ := r.refE
    obtain ⟨o, ho, ro⟩ := R.ob hn
    simp only [viewD, ho] at e
    cases o with
    | lst _ => cases e
    | dic ks' us' =>
      simp only [Option.some.injEq, Prod.mk.injEq] at e
      obtain ⟨rfl, rfl⟩ := e
      rcases ro with ⟨l, h1, h2, h3⟩ | ⟨bs, vs, h1, h2, h3, h4, h5⟩
      · exact ⟨a, rfl, .k l (.inl h1) h2 h3⟩
      · exact ⟨a, rfl, .t bs vs (.inl h1) h2 h3 h4⟩
  | _ => simp [viewD] at e
theorem hk_mono : ∀ (xs : List D) (n : Nat), hkA xs n = true → (D.tup xs).hk (n + 1) = true := fun xs n h => by simpa [D.hk] using h
theorem keys_at : ∀ {ks : List D} {bs : List Addr}, keysT0 ks = true → Reps Z O ρ H ks (bs.map V.ref) → KsAt H (D.nk.nkA ks) bs
  | [], [], _, _ => ⟨rfl, fun i k b e => by simp [D.nk.nkA] at e⟩
  | [], _ :: _, _, r => by cases r
  | _ :: _, [], _, r => by cases r
  | d :: ks, b :: bs, h, r => by
    cases r with
    | cons q t =>
      cases d with
      | tup xs =>
        simp only [keysT0, Bool.and_eq_true] at h
        have q1 := nk_at (.tup xs) 8 (hk_mono xs 7 h.1) q
        have q2 := keys_at h.2 t
        simp only [D.nk.nkA]
        refine ⟨by rw [List.length_cons, List.length_cons, q2.1], fun i k c e1 e2 => ?_⟩
        cases i with
        | zero => simp at e1 e2; subst e1; subst e2; exact q1
        | succ i => exact q2.2 i k c (by simpa using e1) (by simpa using e2)
      | _ => simp [keysT0] at h
theorem look_t : ∀ {ks us : List D} {vs : List V} {q : D}, keysT0 ks = true → q.hk 8 = true → Reps Z O ρ H us vs →
    match dget ks us q with
    | some d => ∃ v, lookN (D.nk.nkA ks) vs q.nk = some v ∧ Rep Z O ρ H d v
    | none => lookN (D.nk.nkA ks) vs q.nk = none
  | [], us, vs, q, _, _, r => by simp [dget, lookN, D.nk.nkA]
  | _ :: _, [], vs, q, _, _, r => by cases r; simp [dget, lookN]
  | k :: ks, u :: us, vs, q, hk, hq, r => by
    obtain ⟨v0, vr, rfl, r1, r2⟩ := r.consD
    cases k with
    | tup xs =>
      simp only [keysT0, Bool.and_eq_true] at hk
      have ek := eqv_nk (.tup xs) q 8 8 (hk_mono xs 7 hk.1) hq
      have ih := look_t (q := q) hk.2 hq r2
      simp only [dget, D.nk.nkA]
      rw [ek, ← NestedKey.decide_eq]
      by_cases e : (D.tup xs).nk = q.nk
      · rw [if_pos (decide_eq_true e)]
        exact ⟨v0, by simp [lookN, e], r1⟩
      · rw [if_neg (by simpa using e)]
        have lk : lookN ((D.tup xs).nk :: D.nk.nkA ks) (v0 :: vr) q.nk = lookN (D.nk.nkA ks) vr q.nk := by simp [lookN, e]
        rw [lk]
        exact ih
    | _ => simp [keysT0] at hk
theorem look_k : ∀ {ks us : List D} {l : List (Key × V)} {i : Int}, Reps Z O ρ H ks (l.map fun p => kV p.1) → Reps Z O ρ H us (l.map (·.2)) →
    match dget ks us (.int i) with
    | some d => ∃ v, valV l (.inl i) = some v ∧ Rep Z O ρ H d v
    | none => valV l (.inl i) = none
  | _, _, [], i, r, t => by cases r; cases t; simp [dget, valV_nil]
  | _, _, p :: l, i, r, t => by
    cases r with
    | cons r1 r2 =>
      cases t with
      | cons t1 t2 =>
        have ih := look_k (i := i) r2 t2
        obtain ⟨k, u⟩ := p
        cases k with
        | inl j =>
          simp only [kV] at r1
          cases r1
          simp only [dget, D.eqv]
          by_cases e : j = i
          · subst e
            simp only [beq_self_eq_true, if_true]
            exact ⟨u, valV_pos rfl, t1⟩
          · have e' : (j == i) = false := by simpa using e
            simp only [e', Bool.false_eq_true, if_false]
            rw [valV_neg (show ¬ (Sum.inl j : Key) = Sum.inl i from fun z => e (Sum.inl.inj z))]
            exact ih
        | inr x =>
          simp only [kV] at r1
          cases r1
          simp only [dget, D.eqv]
          simp only [Bool.false_eq_true, if_false]
          rw [valV_neg (show ¬ (Sum.inr x : Key) = Sum.inl i from fun z => nomatch z)]
          exact ih
end
/-- a dict is asked at a key: what is told of it -/
def Ask (P : Program) (w : World) (H : Hp) (x y : V) (r : Option V) : Prop :=
  (∃ a, x = .ref a ∧ DGet H a y r) ∨ ∃ a b ks bs us k, x = .ref a ∧ y = .ref b ∧ XR P w H a ks bs us ∧ KsAt H ks bs ∧ KAt H k b ∧ r = lookN ks us k
theorem ask_rep {Z : Zx} {O : Addr → Prop} {ρ : List Addr} {H : Hp} {a : Addr} {ks us : List D} {q : D} {y : V} (c : DC Z O ρ H a ks us) (ok : okKey ks q = true) (r : Rep Z O ρ H q y) :
    ∃ o, Ask Z.P Z.w H (.ref a) y o ∧ match dget ks us q with | some d => ∃ v, o = some v ∧ Rep Z O ρ H d v | none => o = none := by
  cases q with
  | int i =>
    have ey := r.intE
    subst ey
    cases c with
    | k l h1 h2 h3 =>
      refine ⟨_, .inl ⟨a, rfl, .inl ⟨l, .inl i, h1, rfl, rfl⟩⟩, ?_⟩
      exact look_k h2 h3
    | t bs vs h1 h2 h3 h4 =>
      simp only [keysT, Bool.and_eq_true] at h2
      cases ks with
      | nil => simp at h2
      | cons k ks =>
        cases k <;> simp [keysT0] at h2 <;> simp [okKey] at ok
  | tup xs =>
    simp only [okKey, Bool.and_eq_true] at ok
    obtain ⟨b, ws, rfl, eb, nb, rb⟩ := r.tupE
    have kb : KAt H (D.tup xs).nk b := nk_at (.tup xs) 8 (hk_mono xs 7 ok.1) r
    cases c with
    | k l h1 h2 h3 =>
      cases ks with
      | nil =>
        cases l with
        | nil =>
          cases h3
          exact ⟨_, .inr ⟨a, b, [], [], [], _, rfl, rfl, .inr ⟨h1, rfl, rfl, rfl⟩, ⟨rfl, fun i k b e => by simp at e⟩, kb, rfl⟩, by simp [dget, lookN]⟩
        | cons _ _ => cases h2
      | cons k ks =>
        cases l with
        | nil => cases h2
        | cons p l =>
          cases h2 with
          | cons r1 r2 =>
            obtain ⟨k', u⟩ := p
            cases k' <;> (simp only [kV] at r1; cases r1; simp at ok)
    | t bs vs h1 h2 h3 h4 =>
      simp only [keysT, Bool.and_eq_true] at h2
      have kk := keys_at h2.2 h3
      refine ⟨_, .inr ⟨a, b, _, bs, vs, _, rfl, rfl, .inl h1, kk, kb, rfl⟩, ?_⟩
      exact look_t h2.2 (hk_mono xs 7 ok.1) h4
  | _ => simp [okKey] at ok
section
variable {X : Cx}
theorem op_inK (hu : X.A.units + 10 < cLine) : OpR X (compareOp .In) (fun y x H Q => ∃ o, Ask X.prog X.w H x y o ∧ Q (.bl o.isSome) H) := by
  intro pins s σ H y x v u Q I ry rx h
  obtain ⟨o, ask, q⟩ := h
  rcases ask with ⟨a, rfl, g⟩ | ⟨a, b, ks, bs, us, k, rfl, rfl, xr, kk, kb, rfl⟩
  · cases rx
    exact d_in (by omega) I g ry fun s' I' => ⟨.bl _, H, I', rfl, q⟩
  · cases rx
    cases ry
    exact x_in hu I xr kk kb fun s' I' => ⟨.bl _, H, I', rfl, q⟩
theorem op_notInK (hu : X.A.units + 10 < cLine) : OpR X (compareOp .NotIn) (fun y x H Q => ∃ o, Ask X.prog X.w H x y o ∧ Q (.bl (!o.isSome)) H) := by
  intro pins s σ H y x v u Q I ry rx h
  obtain ⟨o, ask, q⟩ := h
  rcases ask with ⟨a, rfl, g⟩ | ⟨a, b, ks, bs, us, k, rfl, rfl, xr, kk, kb, rfl⟩
  · cases rx
    exact d_notIn (by omega) I g ry fun s' I' => ⟨.bl _, H, I', rfl, q⟩
  · cases rx
    cases ry
    exact x_notIn hu I xr kk kb fun s' I' => ⟨.bl _, H, I', rfl, q⟩
theorem ix_K (hu : X.A.units + 10 < cLine) : IxR X (fun x y H Q => ∃ v, Ask X.prog X.w H x y (some v) ∧ Q v H) := by
  intro value slice pins s σ H x y v u Q I rx ry h hs
  obtain ⟨o, ask, q⟩ := h
  rcases ask with ⟨a, rfl, g⟩ | ⟨a, b, ks, bs, us, k, rfl, rfl, xr, kk, kb, e⟩
  · cases rx
    exact tail_any (dict_typeIs I g) slot_dict_getitem.lookup (d_getItem (by omega) I g ry fun w' s' I' r => ⟨o, H, I', r, q⟩) hs
  · cases rx
    cases ry
    obtain ⟨_, _, _, _, _, _, dd⟩ := dphi_of I.hok xr kk
    exact tail_any dd.typeIs slot_dict_getitem.lookup (x_getItem hu I xr kk kb e.symm fun w' s' I' r => ⟨o, H, I', r, q⟩) hs
/-! the functions -/
def inK (h : Hs) (q c : D) : Option D := match viewD h c with
  | some (ks, us) => if okKey ks q then some (.bl (dget ks us q).isSome) else none
  | none => none
theorem ask_some {o : Option V} {d : Option D} {P : D → V → Prop} (m : match d with | some d => ∃ v, o = some v ∧ P d v | none => o = none) : o.isSome = d.isSome := by
  cases d with
  | none => simp only at m; rw [m]; rfl
  | some d => obtain ⟨v, e, _⟩ := m; rw [e]; rfl
theorem inK_ok : OpOk X (fun y x H Q => ∃ o, Ask X.prog X.w H x y o ∧ Q (.bl o.isSome) H) inK := by
  intro O ρ h H a b d x y Q bh R ra rb e k
  unfold inK at e
  split at e
  · rename_i ks us ev
    split at e
    · rename_i ok
      cases e
      obtain ⟨a', rfl, c⟩ := viewD_rep R ev rb
      obtain ⟨o, ask, m⟩ := ask_rep c ok ra
      exact ⟨o, ask, by rw [ask_some m]; exact k _ H Mv.refl R (.bl _)⟩
    · cases e
  · cases e
theorem notInK_ok : OpOk X (fun y x H Q => ∃ o, Ask X.prog X.w H x y o ∧ Q (.bl (!o.isSome)) H) (notQ inK) := by
  intro O ρ h H a b d x y Q bh R ra rb e k
  obtain ⟨j, e', rfl⟩ := notQ_has e
  unfold inK at e'
  split at e'
  · rename_i ks us ev
    split at e'
    · rename_i ok
      cases e'
      obtain ⟨a', rfl, c⟩ := viewD_rep R ev rb
      obtain ⟨o, ask, m⟩ := ask_rep c ok ra
      exact ⟨o, ask, by rw [ask_some m]; exact k _ H Mv.refl R (.bl _)⟩
    · cases e'
  · cases e'
def orOp (f g : Hs → D → D → Option D) (h : Hs) (a b : D) : Option D := match f h a b with | some c => some c | none => g h a b
def inD := orOp inQ inK
def notInD := orOp (notQ inQ) (notQ inK)
def ixK (h : Hs) (c q : D) : Option D := match viewD h c with
  | some (ks, us) => if okKey ks q then dget ks us q else none
  | none => none
theorem ixK_ok : OpOk X (fun x y H Q => ∃ v, Ask X.prog X.w H x y (some v) ∧ Q v H) ixK := by
  intro O ρ h H a b d x y Q bh R ra rb e k
  unfold ixK at e
  split at e
  · rename_i ks us ev
    split at e
    · rename_i ok
      obtain ⟨a', rfl, c⟩ := viewD_rep R ev ra
      obtain ⟨o, ask, m⟩ := ask_rep c ok rb
      rw [e] at m
      obtain ⟨v, rfl, rv⟩ := m
      exact ⟨v, ask, k v H Mv.refl R rv⟩
    · cases e
  · cases e
def ixD := orOp ixS ixK
variable {a b : Expr} {pos : Pos} {fa fb : EF}
theorem s_in (hu : X.A.units + 65 < cLine) (ha : SE X a fa) (hb : SE X b fb) (hm : behindInMarks .In b = false := by rfl) : SE X (.Compare a [.In] [b] pos) (bin2 fa fb inD) :=
  s_cmp (OpR.or (OpR.or (op_inD hu) (op_inDT hu)) (op_inK (by omega))) (OpOk.or inQ_ok inK_ok) ha hb hm
theorem s_notin (hu : X.A.units + 65 < cLine) (ha : SE X a fa) (hb : SE X b fb) (hm : behindInMarks .NotIn b = false := by rfl) : SE X (.Compare a [.NotIn] [b] pos) (bin2 fa fb notInD) :=
  s_cmp (OpR.or (OpR.or (op_notInD hu) (op_notInDT hu)) (op_notInK (by omega))) (OpOk.or notInQ_ok notInK_ok) ha hb hm
theorem s_tin (hu : X.A.units + 65 < cLine) (ha : SE X a fa) (hb : SE X b fb) (hm : behindInMarks .In b = false := by rfl) : ST X (.Compare a [.In] [b] pos) (bin2 fa fb inD) :=
  s_tcmp (OpR.or (OpR.or (op_inD hu) (op_inDT hu)) (op_inK (by omega))) (OpOk.or inQ_ok inK_ok) ha hb hm
theorem s_tnotin (hu : X.A.units + 65 < cLine) (ha : SE X a fa) (hb : SE X b fb) (hm : behindInMarks .NotIn b = false := by rfl) : ST X (.Compare a [.NotIn] [b] pos) (bin2 fa fb notInD) :=
  s_tcmp (OpR.or (OpR.or (op_notInD hu) (op_notInDT hu)) (op_notInK (by omega))) (OpOk.or notInQ_ok notInK_ok) ha hb hm
theorem s_ix (hu : X.A.units + 10 < cLine) (ha : SE X a fa) (hb : SE X b fb) (hs : PlainIx b) : SE X (.Subscript a b pos) (bin2 fa fb ixD) :=
  imE (pe_ix (IxR.or (IxR.or ix_list ix_tup) (ix_K hu)) ha hb hs) fun _ _ _ b0 q => tOp_of (OpOk.or ixS_ok ixK_ok) b0 q

/-! ### o[i] = v -/
def Put (P : Program) (w : World) (o i v : V) (H : Hp) (H' : Hp) : Prop :=
  (∃ a, o = .ref a ∧ DPut H a i v H') ∨
  (∃ a b ks bs us k, o = .ref a ∧ i = .ref b ∧ H a = some (.ext (DPhi P w a ks bs us)) ∧ KsAt H ks bs ∧ KAt H k b ∧ ks.length < sizeLine ∧
    H' = upd H a (.ext (DPhi P w a (putN ks bs us k b v).1 (putN ks bs us k b v).2.1 (putN ks bs us k b v).2.2))) ∨
  ∃ a b k, o = .ref a ∧ i = .ref b ∧ H a = some (.dK []) ∧ KAt H k b ∧ H' = upd H a (.ext (DPhi P w a [k] [b] [v]))
theorem set_K (hu : X.A.units + 10 < cLine) : PSet X (fun o i v H Q => ∃ H', Put X.prog X.w o i v H H' ∧ Q H') := by
  intro pins s σ H o i v ov iv u Q I ro ri rv h
  obtain ⟨H', p, q⟩ := h
  rcases p with ⟨a, rfl, p⟩ | ⟨a, b, ks, bs, us, k, rfl, rfl, e, kk, kb, hz, rfl⟩ | ⟨a, b, k, rfl, rfl, e, kb, rfl⟩
  · cases ro
    exact d_setItem (by omega) I p ri rv fun s' I' => ⟨_, I', q⟩
  · cases ro
    cases ri
    exact x_setItem hu I e kk kb hz rv fun s' I' => ⟨_, I', q⟩
  · cases ro
    cases ri
    exact x_setNew hu I e kb rv fun s' I' => ⟨_, I', q⟩
def dput (ks us : List D) (q x : D) : Ob := if (dget ks us q).isSome then .dic ks ((ks.zip us).map fun p => if p.1.eqv q then x else p.2) else .dic (ks ++ [q]) (us ++ [x])
def setS (h : Hs) (o i x : D) : Option Hs := match o with
  | .ref n => (match h[n]? with
    | some (.lst xs) => (match i with | .int k => (match ixN xs.length k with | some j => some (h.set n (.lst (xs.set j x))) | none => none) | _ => none)
    | some (.dic ks us) => if okKey ks i && decide (ks.length < szL) then some (h.set n (dput ks us i x)) else none
    | none => none)
  | _ => none
end
section
variable {Z : Zx} {O : Addr → Prop} {ρ : List Addr} {H : Hp}
theorem dget_mem {q : D} : ∀ {ks us : List D}, keysT0 ks = true → q.hk 8 = true → us.length = ks.length → ((dget ks us q).isSome = true ↔ q.nk ∈ D.nk.nkA ks)
  | [], us, _, _, _ => by simp [dget, D.nk.nkA]
  | _ :: _, [], _, _, h => by cases h
  | k :: ks, u :: us, hk, hq, hl => by
    cases k with
    | tup xs =>
      simp only [keysT0, Bool.and_eq_true] at hk
      have ek := eqv_nk (.tup xs) q 8 8 (hk_mono xs 7 hk.1) hq
      have ih := dget_mem (q := q) hk.2 hq (by simpa using hl)
      simp only [dget, D.nk.nkA, List.mem_cons]
      rw [ek, ← NestedKey.decide_eq]
      by_cases e : (D.tup xs).nk = q.nk
      · simp [e]
      · simp only [decide_eq_true_eq, e, if_false]
        rw [ih]
        constructor
        · exact .inr
        · rintro (z | z)
          · exact absurd z.symm e
          · exact z
    | _ => simp [keysT0] at hk
theorem zip_put {q x : D} {v : V} (rx : Rep Z O ρ H x v) : ∀ {ks us : List D} {vs : List V}, keysT0 ks = true → q.hk 8 = true → Reps Z O ρ H us vs →
    Reps Z O ρ H ((ks.zip us).map fun p => if p.1.eqv q then x else p.2) (((D.nk.nkA ks).zip vs).map fun p => if p.1 = q.nk then v else p.2)
  | [], us, vs, _, _, r => by simpa [D.nk.nkA] using Reps.nil
  | _ :: _, [], vs, _, _, r => by cases r; simpa using Reps.nil
  | k :: ks, u :: us, vs, hk, hq, r => by
    obtain ⟨v0, vr, rfl, r1, r2⟩ := r.consD
    cases k with
    | tup xs =>
      simp only [keysT0, Bool.and_eq_true] at hk
      have ek := eqv_nk (.tup xs) q 8 8 (hk_mono xs 7 hk.1) hq
      simp only [D.nk.nkA, List.zip_cons_cons, List.map_cons]
      refine .cons ?_ (zip_put rx hk.2 hq r2)
      rw [ek, ← NestedKey.decide_eq]
      by_cases e : (D.tup xs).nk = q.nk
      · simp only [e, decide_true, if_true]; exact rx
      · simp only [e, decide_false, Bool.false_eq_true, if_false]; exact r1
    | _ => simp [keysT0] at hk
theorem nkA_snoc : ∀ (ks : List D) (q : D), D.nk.nkA (ks ++ [q]) = D.nk.nkA ks ++ [q.nk]
  | [], q => rfl
  | k :: ks, q => by simp only [List.cons_append, D.nk.nkA, nkA_snoc ks q]
theorem keysT0_snoc {xs : List D} (hx : hkA xs 7 = true) : ∀ {ks : List D}, keysT0 ks = true → keysT0 (ks ++ [.tup xs]) = true
  | [], _ => by simp [keysT0, hx]
  | k :: ks, h => by
    cases k with
    | tup ys =>
      simp only [keysT0, Bool.and_eq_true] at h
      simp only [List.cons_append, keysT0, h.1, keysT0_snoc hx h.2, Bool.and_self]
    | _ => simp [keysT0] at h
/-- a key of whole numbers or texts -/
theorem dget_k {i : Int} : ∀ {ks us : List D} {l : List (Key × V)}, Reps Z O ρ H ks (l.map fun p => kV p.1) → Reps Z O ρ H us (l.map (·.2)) → (dget ks us (.int i)).isSome = (valV l (.inl i)).isSome := fun {ks us l} r t => by
  have := look_k (i := i) r t
  exact (ask_some this).symm
theorem put_k {i : Int} {x : D} {v : V} (rx : Rep Z O ρ H x v) : ∀ {ks us : List D} {l : List (Key × V)}, Reps Z O ρ H ks (l.map fun p => kV p.1) → Reps Z O ρ H us (l.map (·.2)) →
    Reps Z O ρ H ks ((l.map fun kv => if kv.1 = Sum.inl i then (kv.1, v) else kv).map fun p => kV p.1) ∧ Reps Z O ρ H ((ks.zip us).map fun p => if p.1.eqv (.int i) then x else p.2) ((l.map fun kv => if kv.1 = Sum.inl i then (kv.1, v) else kv).map (·.2))
  | _, _, [], r, t => by cases r; cases t; exact ⟨.nil, .nil⟩
  | _, _, p :: l, r, t => by
    cases r with
    | cons r1 r2 =>
      cases t with
      | cons t1 t2 =>
        obtain ⟨q1, q2⟩ := put_k (i := i) rx r2 t2
        obtain ⟨k, u⟩ := p
        cases k with
        | inl j =>
          simp only [kV] at r1
          cases r1
          by_cases e : j = i
          · subst e
            refine ⟨.cons (by simpa [kV] using Rep.int j) q1, .cons (by simpa [D.eqv] using rx) q2⟩
          · have e' : ¬ (Sum.inl j : Key) = Sum.inl i := fun z => e (Sum.inl.inj z)
            refine ⟨.cons (by simpa [kV, e'] using Rep.int j) q1, .cons (by simpa [D.eqv, e, e'] using t1) q2⟩
        | inr y =>
          simp only [kV] at r1
          cases r1
          refine ⟨.cons (by simpa [kV] using Rep.str y) q1, .cons (by simpa [D.eqv] using t1) q2⟩
end
end TB
namespace TB
open PySem PySem.Spec PyProof.Rows L2

/-! ### from one view to another -/
structure Cnv (O : Addr → Prop) (ρ : List Addr) (O' : Addr → Prop) (ρ' : List Addr) (H : Hp) : Prop where
  ref : ∀ (n : Nat) (a : Addr), ρ[n]? = some a → ρ'[n]? = some a
  tup : ∀ a vs, H a = some (.tup vs) → a ∉ ρ → a ∉ ρ'
  frz : ∀ a o, H a = some o → a ∉ ρ → ¬ O a → a ∉ ρ' ∧ ¬ O' a
mutual
theorem Rep.conv {Z : Zx} {O O' : Addr → Prop} {ρ ρ' : List Addr} {H : Hp} (c : Cnv O ρ O' ρ' H) : ∀ {d : D} {v : V}, Rep Z O ρ H d v → Rep Z O' ρ' H d v
  | _, _, .non => .non
  | _, _, .bl b => .bl b
  | _, _, .int b => .int b
  | _, _, .str b => .str b
  | _, _, .tup e n r => .tup e (c.tup _ _ e n) (Reps.conv c r)
  | _, _, .lst f r => .lst ⟨f.1, c.frz _ _ f.1 f.2.1 f.2.2⟩ (Reps.conv c r)
  | _, _, .scr f r => .scr (by
      rcases f with ⟨q, n, o⟩ | f
      · refine .inl ⟨q, ?_⟩
        rcases q with q | ⟨ob, q⟩ <;> exact c.frz _ _ q n o
      · exact .inr f) (Reps.conv c r)
  | _, _, .ref h => .ref (c.ref _ _ h)
  | _, _, .dicK h n o r t => .dicK h (c.frz _ _ h n o).1 (c.frz _ _ h n o).2 (Reps.conv c r) (Reps.conv c t)
  | _, _, .dicT h n o q r t => .dicT h (c.frz _ _ h n o).1 (c.frz _ _ h n o).2 q (Reps.conv c r) (Reps.conv c t)
theorem Reps.conv {Z : Zx} {O O' : Addr → Prop} {ρ ρ' : List Addr} {H : Hp} (c : Cnv O ρ O' ρ' H) : ∀ {ds : List D} {vs : List V}, Reps Z O ρ H ds vs → Reps Z O' ρ' H ds vs
  | _, _, .nil => .nil
  | _, _, .cons q t => .cons (Rep.conv c q) (Reps.conv c t)
end
theorem RepO.conv {Z : Zx} {O O' : Addr → Prop} {ρ ρ' : List Addr} {H : Hp} (c : Cnv O ρ O' ρ' H) {a : Addr} {o : Ob} (r : RepO Z O ρ H a o) : RepO Z O' ρ' H a o := by
  cases o with
  | lst xs => obtain ⟨vs, h1, h2⟩ := r; exact ⟨vs, h1, h2.conv c⟩
  | dic ks vs =>
    rcases r with ⟨l, h1, h2, h3⟩ | ⟨bs, vs, h1, h2, h3, h4, h5⟩
    · exact .inl ⟨l, h1, h2.conv c, h3.conv c⟩
    · exact .inr ⟨bs, vs, h1, h2, h3.conv c, h4.conv c, h5⟩
/-- the temporary p becomes ours -/
theorem push_own {Z : Zx} {O : Addr → Prop} {ρ : List Addr} {h : Hs} {H : Hp} {p : Addr} {o : Ob} (R : Rl Z (fun a => O a ∨ a = p) ρ h H) (hO : ¬ O p) (hd : ∀ a, O a → ∃ o, H a = some o) (ht : ∀ vs, H p ≠ some (.tup vs)) (ro : RepO Z O (ρ ++ [p]) H p o) :
    Cnv (fun a => O a ∨ a = p) ρ O (ρ ++ [p]) H ∧ Rl Z O (ρ ++ [p]) (h ++ [o]) H ∧ Rep Z O (ρ ++ [p]) H (.ref h.length) (.ref p) := by
  have np : p ∉ ρ := fun z => R.dis p z (.inr rfl)
  have c : Cnv (fun a => O a ∨ a = p) ρ O (ρ ++ [p]) H := by
    refine ⟨fun n a e => ?_, fun a vs e n z => ?_, fun a o e n k => ⟨fun z => ?_, fun z => k (.inl z)⟩⟩
    · rw [List.getElem?_append_left (List.getElem?_eq_some_iff.mp e).1]; exact e
    · rcases List.mem_append.mp z with z | z
      · exact n z
      · rw [List.mem_singleton.mp z] at e; exact ht vs e
    · rcases List.mem_append.mp z with z | z
      · exact n z
      · exact k (.inr (List.mem_singleton.mp z))
  refine ⟨c, ⟨by rw [List.length_append, List.length_append, R.len]; rfl, ?_, fun a ha => ?_, hd, fun n a o' e1 e2 => ?_⟩, .ref (by rw [← R.len]; simp)⟩
  · rw [List.nodup_append]
    exact ⟨R.nd, by simp, fun a ha b hb => by rw [List.mem_singleton.mp hb]; rintro rfl; exact np ha⟩
  · rcases List.mem_append.mp ha with q | q
    · exact fun z => R.dis a q (.inl z)
    · rw [List.mem_singleton.mp q]; exact hO
  · by_cases hn : n < ρ.length
    · rw [List.getElem?_append_left hn] at e1
      rw [List.getElem?_append_left (by rw [← R.len]; exact hn)] at e2
      exact (R.obj n a o' e1 e2).conv c
    · have hlt := (List.getElem?_eq_some_iff.mp e1).1
      rw [List.length_append, List.length_singleton] at hlt
      have e : n = ρ.length := by omega
      subst e
      have e1' : a = p := by simpa using e1.symm
      have e2' : o' = o := by
        rw [R.len] at e2
        simpa using e2.symm
      rw [e1', e2']
      exact ro
section
variable {X : Cx} {a b c e f : Expr} {pos apos cpos : Pos} {fa fb fc : EF}

/-! ### o[i] = v -/
theorem PSet.or {t u : TSet} (h : PSet X t) (h' : PSet X u) : PSet X (fun o i v H Q => t o i v H Q ∨ u o i v H Q) := by
  intro pins s σ H o i v ov iv uu Q I ro ri rv q
  rcases q with q | q
  · exact h pins s σ H o i v ov iv uu Q I ro ri rv q
  · exact h' pins s σ H o i v ov iv uu Q I ro ri rv q
theorem setS_ok {O : Addr → Prop} {ρ : List Addr} {h h' : Hs} {H : Hp} {o i d : D} {x y v : V} {Q : Hp → Prop} (R : Rl (Zx.of X) O ρ h H) (ro : Rep (Zx.of X) O ρ H o x) (ri : Rep (Zx.of X) O ρ H i y) (rd : Rep (Zx.of X) O ρ H d v) (e : setS h o i d = some h')
    (k : ∀ H', Mv ρ H ρ H' → Rl (Zx.of X) O ρ h' H' → Q H') : rSetL x y v H Q ∨ ∃ H', Put X.prog X.w x y v H H' ∧ Q H' := by
  unfold setS at e
  split at e
  · rename_i n
    obtain ⟨a, rfl, hn⟩ := ro.refE
    obtain ⟨ob, ho, rob⟩ := R.ob hn
    split at e
    · rename_i xs hx
      rw [hx] at ho; cases ho
      split at e
      · rename_i j
        split at e
        · rename_i jj hj
          cases e
          obtain ⟨vs, hv, rs⟩ := rob
          have m := own_chg R hn (.lst (vs.set jj v))
          exact .inl ⟨a, vs, j, jj, rfl, ri.intE, hv, by rw [← rs.length]; exact hj, k _ m (own_upd R hn ⟨_, upd_same, (rs.set rd jj).mv m⟩)⟩
        · cases e
      · cases e
    · rename_i ks us hx
      rw [hx] at ho; cases ho
      split at e
      · rename_i hc
        cases e
        simp only [Bool.and_eq_true, decide_eq_true_eq] at hc
        obtain ⟨ok, hz⟩ := hc
        cases i with
        | int j =>
          have ey := ri.intE
          subst ey
          rcases rob with ⟨l, h1, h2, h3⟩ | ⟨bs, vs, h1, h2, h3, h4, h5⟩
          · have hl : l.length < sizeLine := by have := h2.length; rw [List.length_map] at this; rw [← this, ← szL_eq]; exact hz
            refine .inr ⟨_, .inl ⟨a, rfl, .inl ⟨l, .inl j, h1, rfl, hl, rfl⟩⟩, ?_⟩
            have m := own_chg R hn (.dK (putK l (Sum.inl j) v))
            refine k _ m (own_upd R hn ?_)
            have hs := dget_k (i := j) h2 h3
            unfold dput
            rw [hs, ← valV_any]
            unfold putK
            by_cases hq : (l.any fun kv => decide (kv.1 = Sum.inl j)) = true
            · rw [if_pos hq, if_pos hq]
              obtain ⟨q1, q2⟩ := put_k (i := j) rd h2 h3
              exact .inl ⟨_, upd_same, q1.mv (by simpa [putK, hq] using m), q2.mv (by simpa [putK, hq] using m)⟩
            · rw [if_neg hq, if_neg hq]
              have m' : Mv ρ H ρ (upd H a (.dK (l ++ [(Sum.inl j, v)]))) := by simpa [putK, hq] using m
              refine .inl ⟨_, upd_same, ?_, ?_⟩
              · rw [List.map_append]; exact (h2.snoc (.int j)).mv m'
              · rw [List.map_append]; exact (h3.snoc rd).mv m'
          · simp only [keysT, Bool.and_eq_true] at h2
            cases ks with
            | nil => simp at h2
            | cons k0 ks => cases k0 <;> simp [keysT0] at h2 <;> simp [okKey] at ok
        | tup xs =>
          simp only [okKey, Bool.and_eq_true] at ok
          obtain ⟨b, ws, rfl, eb, nb, rb⟩ := ri.tupE
          have kb : KAt H (D.tup xs).nk b := nk_at (.tup xs) 8 (hk_mono xs 7 ok.1) ri
          rcases rob with ⟨l, h1, h2, h3⟩ | ⟨bs, vs, h1, h2, h3, h4, h5⟩
          · cases ks with
            | nil =>
              cases l with
              | nil =>
                cases h3
                refine .inr ⟨_, .inr (.inr ⟨a, b, _, rfl, rfl, h1, kb, rfl⟩), ?_⟩
                have m := own_chg R hn (.ext (DPhi X.prog X.w a [(D.tup xs).nk] [b] [v]))
                refine k _ m (own_upd R hn ?_)
                simp only [dput, dget]
                exact .inr ⟨[b], [v], by simpa [D.nk.nkA, Zx.of] using upd_same, by simp [keysT, keysT0, ok.1], .cons (ri.mv m) .nil, .cons (rd.mv m) .nil, rfl⟩
              | cons _ _ => cases h2
            | cons k0 ks =>
              cases l with
              | nil => cases h2
              | cons p l =>
                cases h2 with
                | cons r1 r2 =>
                  obtain ⟨k', u⟩ := p
                  cases k' <;> (simp only [kV] at r1; cases r1; simp at ok)
          · have hk := h2
            simp only [keysT, Bool.and_eq_true] at hk
            have kk := keys_at hk.2 h3
            have hz' : (D.nk.nkA ks).length < sizeLine := by
              rw [kk.1]
              have := h3.length
              rw [List.length_map] at this
              rw [← this, ← szL_eq]; exact hz
            refine .inr ⟨_, .inr (.inl ⟨a, b, _, bs, vs, _, rfl, rfl, h1, kk, kb, hz', rfl⟩), ?_⟩
            have m := own_chg R hn (.ext (DPhi X.prog X.w a (putN (D.nk.nkA ks) bs vs (D.tup xs).nk b v).1 (putN (D.nk.nkA ks) bs vs (D.tup xs).nk b v).2.1 (putN (D.nk.nkA ks) bs vs (D.tup xs).nk b v).2.2))
            refine k _ m (own_upd R hn ?_)
            have hm := dget_mem (q := .tup xs) hk.2 (hk_mono xs 7 ok.1) h5
            have us' : ∀ {ks' : List NestedKey} {bs' : List Addr} {vs' : List V}, putN (D.nk.nkA ks) bs vs (D.tup xs).nk b v = (ks', bs', vs') →
                upd H a (.ext (DPhi X.prog X.w a (putN (D.nk.nkA ks) bs vs (D.tup xs).nk b v).1 (putN (D.nk.nkA ks) bs vs (D.tup xs).nk b v).2.1 (putN (D.nk.nkA ks) bs vs (D.tup xs).nk b v).2.2)) a = some (.ext (DPhi X.prog X.w a ks' bs' vs')) := fun e => by rw [e]; exact upd_same
            unfold dput
            by_cases hq : (dget ks us (.tup xs)).isSome = true
            · rw [if_pos hq]
              have ep : putN (D.nk.nkA ks) bs vs (D.tup xs).nk b v = (D.nk.nkA ks, bs, ((D.nk.nkA ks).zip vs).map fun p => if p.1 = (D.tup xs).nk then v else p.2) := by unfold putN; rw [if_pos (hm.mp hq)]
              refine .inr ⟨bs, _, us' ep, h2, h3.mv m, (zip_put rd hk.2 (hk_mono xs 7 ok.1) h4).mv m, ?_⟩
              rw [List.length_map, List.length_zip, h5, Nat.min_self]
            · rw [if_neg hq]
              have ep : putN (D.nk.nkA ks) bs vs (D.tup xs).nk b v = (D.nk.nkA ks ++ [(D.tup xs).nk], bs ++ [b], vs ++ [v]) := by unfold putN; rw [if_neg (fun z => hq (hm.mpr z))]
              refine .inr ⟨bs ++ [b], vs ++ [v], by rw [nkA_snoc]; exact us' ep, ?_, ?_, (h4.snoc rd).mv m, by rw [List.length_append, List.length_append, h5]; rfl⟩
              · simp only [keysT, keysT0_snoc ok.1 hk.2, Bool.and_true]
                cases ks <;> rfl
              · rw [List.map_append]; exact (h3.snoc ri).mv m
        | _ => simp [okKey] at ok
      · cases e
    · cases e
  · cases e
def gSub (fo fi : EF) : GF := fun d σ h => match fo σ h with
  | none => none
  | some (o, h1) => match fi σ h1 with
    | none => none
    | some (i, h2) => match setS h2 o i d with
      | none => none
      | some h3 => some (σ, h3)
theorem g_sub (hu : X.A.units + 10 < cLine) (ha : SE X a fa) (hb : SE X b fb)
    (hs : ∀ v, assign (.Subscript a b pos) X.env v = (do
      let ov ← holding [v] (eval a X.env)
      let iv ← holding [v, ov] (eval b X.env)
      standAt pos
      holding [v, ov, iv] (setItem ov iv v)
      release [v, ov, iv] []) := by intro _; rfl) : SG X (.Subscript a b pos) (gSub fa fb) [] := imG (pg_sub ha hb (PSet.or set_list (set_K hu)) hs) fun v τ H Q b0 q => by
  obtain ⟨O, ρ, σ, h, d, σ', h', R, r, e, k⟩ := q b0
  unfold gSub at e
  split at e
  · cases e
  · rename_i o h1 ea
    split at e
    · cases e
    · rename_i i h2 eb
      split at e
      · cases e
      · rename_i h3 es
        cases e
        refine one R ea fun x ρ1 H1 b1 m1 r1 p1 => one (R.mv m1 r1) eb fun y ρ2 H2 b2 m2 r2 p2 => ?_
        have m12 := Rw.tr m1 r1 m2
        exact setS_ok r2 (p1.mv m2) p2 (r.mv m12) es fun H3 m3 r3 b3 => k τ ρ2 H3 b3 (Rw.tr m12 r2 m3) (R.mv (Rw.tr m12 r2 m3) r3) (fun _ _ => rfl) rfl
end
end TB
namespace TB
open PySem PySem.Spec PyProof.Rows L2
section
variable {X : Cx} {a b c e f : Expr} {es : List Expr} {pos apos cpos : Pos} {fa fb fc : EF} {fr : AF}

/-! ### d.get -/
def IsDK (P : Program) (w : World) (H : Hp) (x : V) : Prop := ∃ a, x = .ref a ∧ ((∃ l, Rd H a (.dK l)) ∨ ∃ ks bs us, Rd H a (.ext (DPhi P w a ks bs us)))
theorem isDK_at {pins : List (Addr × Obj)} {σ : L2.St} {H : Hp} {s : Shared} {a : Addr} (I : Inv X pins σ H s) (d : (∃ l, Rd H a (.dK l)) ∨ ∃ ks bs us, Rd H a (.ext (DPhi X.prog X.w a ks bs us))) :
    s.TypeIs (.ref a) "dict" ∧ (∀ b, Value.ref a = .ref b → ∃ ob, s.heap.get? b = some ob ∧ ob.dict = none) := by
  rcases d with ⟨l, e⟩ | ⟨ks, bs, us, e⟩
  · obtain ⟨t1, t2, _⟩ := isD_at I (.inl ⟨l, e⟩)
    exact ⟨t1, t2⟩
  · obtain ⟨⟨z, hs, xs, e1, e2, rv, o, es, ep, ho, hx, hd, he, nd⟩, _, _⟩ := e.ok I.hok
    exact ⟨⟨o, ho, hx.1⟩, fun b q => by cases q; exact ⟨o, ho, hx.2.1⟩⟩
theorem DC.isD {O : Addr → Prop} {ρ : List Addr} {H : Hp} {a : Addr} {ks us : List D} (c : DC (Zx.of X) O ρ H a ks us) : IsDK X.prog X.w H (.ref a) := by
  cases c with
  | k l h1 _ _ => exact ⟨a, rfl, .inl ⟨l, h1⟩⟩
  | t bs vs h1 _ _ _ => exact ⟨a, rfl, .inr ⟨_, bs, vs, h1⟩⟩
def tGet1 (P : Program) (w : World) (td ty : TE) : TE := fun σ H Q => td σ H fun x H1 => IsDK P w H1 x ∧ ty σ H1 fun y H2 => ∃ o, Ask P w H2 x y o ∧ Q (o.getD .non) H2
def tGet2 (P : Program) (w : World) (td ty tx : TE) : TE := fun σ H Q => td σ H fun x H1 => IsDK P w H1 x ∧ ty σ H1 fun y H2 => tx σ H2 fun z H3 => ∃ o, Ask P w H3 x y o ∧ Q (o.getD z) H3
theorem pe_getK1 {td ty : TE} (hu : X.A.units + 10 < cLine) (ho : PE X a td) (he : PE X e ty) (m : M1 X a "get" apos e cpos) : PE X (.Call (.Attribute a "get" apos) [e] [] cpos) (tGet1 X.prog X.w td ty) := by
  refine ⟨fun pins s σ H Q I h => ?_⟩
  refine wpAny_Call_method m.base m.few m.line PySem.F.plainAttrs_dict PySem.F.slot_dict_get PySem.F.type_dict_get (thn (ho.run pins s σ H _ I h) fun u s1 ⟨x, H1, I1, rx, ⟨y0, ex, d⟩, q1⟩ => ?_)
  subst ex
  obtain rfl : u = Value.ref y0 := rx
  obtain ⟨t1, t2⟩ := isDK_at I1 d
  refine ⟨t1, t2, ?_⟩
  rw [m.trees]
  refine Calls.callWith_builtin rfl (Calls.evalArgs_plain (Calls.spliced_cons (thn (he.run pins s1 σ H1 _ I1 q1) fun iv s2 ⟨y, H2, I2, ry, ov, g, q2⟩ => Calls.spliced_nil ?_)))
  rcases g with ⟨a', ea, g⟩ | ⟨a', b', ks, bs, us, k, ea, rfl, xr, kk, kb, rfl⟩
  · cases ea
    exact d_get1 (by omega) I2 g ry fun w' s3 I3 rw' => ⟨_, H2, I3, rw', q2⟩
  · cases ea
    cases ry
    exact x_get1 hu I2 xr kk kb fun w' s3 I3 rw' => ⟨_, H2, I3, rw', q2⟩
theorem pe_getK2 {td ty tx : TE} (hu : X.A.units + 10 < cLine) (ho : PE X a td) (he : PE X e ty) (hf : PE X f tx) (m : M2 X a "get" apos e f cpos) : PE X (.Call (.Attribute a "get" apos) [e, f] [] cpos) (tGet2 X.prog X.w td ty tx) := by
  refine ⟨fun pins s σ H Q I h => ?_⟩
  refine wpAny_Call_method m.base m.few m.line PySem.F.plainAttrs_dict PySem.F.slot_dict_get PySem.F.type_dict_get (thn (ho.run pins s σ H _ I h) fun u s1 ⟨x, H1, I1, rx, ⟨y0, ex, d⟩, q1⟩ => ?_)
  subst ex
  obtain rfl : u = Value.ref y0 := rx
  obtain ⟨t1, t2⟩ := isDK_at I1 d
  refine ⟨t1, t2, ?_⟩
  rw [m.trees]
  refine Calls.callWith_builtin rfl (Calls.evalArgs_plain (Calls.spliced_cons (thn (he.run pins s1 σ H1 _ I1 q1) fun iv s2 ⟨y, H2, I2, ry, q2⟩ =>
    Calls.spliced_cons (thn (hf.run pins s2 σ H2 _ I2 q2) fun fv s3 ⟨z, H3, I3, rz, ov, g, q3⟩ => Calls.spliced_nil ?_))))
  rcases g with ⟨a', ea, g⟩ | ⟨a', b', ks, bs, us, k, ea, rfl, xr, kk, kb, rfl⟩
  · cases ea
    exact d_get2 (by omega) I3 g ry rz fun w' s4 I4 rw' => ⟨_, H3, I4, rw', q3⟩
  · cases ea
    cases ry
    exact x_get2 hu I3 xr kk kb rz fun w' s4 I4 rw' => ⟨_, H3, I4, rw', q3⟩
def eGet1 (fd fk : EF) : EF := fun σ h => match fd σ h with
  | none => none
  | some (d, h1) => match viewD h1 d with
    | none => none
    | some _ => match fk σ h1 with
      | none => none
      | some (q, h2) => match viewD h2 d with
        | none => none
        | some (ks, us) => if okKey ks q then some ((dget ks us q).getD .non, h2) else none
def eGet2 (fd fk fx : EF) : EF := fun σ h => match fd σ h with
  | none => none
  | some (d, h1) => match viewD h1 d with
    | none => none
    | some _ => match fk σ h1 with
      | none => none
      | some (q, h2) => match fx σ h2 with
        | none => none
        | some (x, h3) => match viewD h3 d with
          | none => none
          | some (ks, us) => if okKey ks q then some ((dget ks us q).getD x, h3) else none
theorem s_get1 (hu : X.A.units + 10 < cLine) (ha : SE X a fa) (hb : SE X e fb) (m : M1 X a "get" apos e cpos) : SE X (.Call (.Attribute a "get" apos) [e] [] cpos) (eGet1 fa fb) := imE (pe_getK1 hu ha hb m) fun τ H Q b0 q => by
  obtain ⟨O, ρ, σ, h, d, h', R, e, k⟩ := q b0
  unfold eGet1 at e
  split at e
  · cases e
  · rename_i d1 h1 ea
    split at e
    · cases e
    · rename_i p1 e1
      obtain ⟨ks1, us1⟩ := p1
      split at e
      · cases e
      · rename_i q1 h2 eb
        split at e
        · cases e
        · rename_i ks us e2
          split at e
          · rename_i ok
            cases e
            refine one R ea fun x ρ1 H1 b1 m1 r1 p1 => ?_
            obtain ⟨a1, rfl, c1⟩ := viewD_rep r1 e1 p1
            refine ⟨c1.isD, one (R.mv m1 r1) eb fun y ρ2 H2 b2 m2 r2 p2 => ?_⟩
            obtain ⟨a2, ex, c2⟩ := viewD_rep r2 e2 (p1.mv m2)
            cases ex
            obtain ⟨o, ask, mm⟩ := ask_rep c2 ok p2
            refine ⟨o, ask, fun b => k _ ρ2 H2 b (Rw.tr m1 r1 m2) r2 ?_⟩
            cases eg : dget ks us q1 with
            | none => rw [eg] at mm; simp only at mm; subst mm; exact .non
            | some dd => rw [eg] at mm; obtain ⟨vv, rfl, rv⟩ := mm; exact rv
          · cases e
theorem s_get2 (hu : X.A.units + 10 < cLine) (ha : SE X a fa) (hb : SE X e fb) (hc : SE X f fc) (m : M2 X a "get" apos e f cpos) : SE X (.Call (.Attribute a "get" apos) [e, f] [] cpos) (eGet2 fa fb fc) := imE (pe_getK2 hu ha hb hc m) fun τ H Q b0 q => by
  obtain ⟨O, ρ, σ, h, d, h', R, e, k⟩ := q b0
  unfold eGet2 at e
  split at e
  · cases e
  · rename_i d1 h1 ea
    split at e
    · cases e
    · rename_i p1 e1
      obtain ⟨ks1, us1⟩ := p1
      split at e
      · cases e
      · rename_i q1 h2 eb
        split at e
        · cases e
        · rename_i x1 h3 ec
          split at e
          · cases e
          · rename_i ks us e2
            split at e
            · rename_i ok
              cases e
              refine one R ea fun x ρ1 H1 b1 m1 r1 p1 => ?_
              obtain ⟨a1, rfl, c1⟩ := viewD_rep r1 e1 p1
              refine ⟨c1.isD, one (R.mv m1 r1) eb fun y ρ2 H2 b2 m2 r2 p2 => one ((R.mv m1 r1).mv m2 r2) ec fun z ρ3 H3 b3 m3 r3 p3 => ?_⟩
              obtain ⟨a2, ex, c2⟩ := viewD_rep r3 e2 ((p1.mv m2).mv m3)
              cases ex
              obtain ⟨o, ask, mm⟩ := ask_rep c2 ok (p2.mv m3)
              refine ⟨o, ask, fun b => k _ ρ3 H3 b (Rw.tr m1 r1 (Rw.tr m2 r2 m3)) r3 ?_⟩
              cases eg : dget ks us q1 with
              | none => rw [eg] at mm; simp only at mm; subst mm; exact p3
              | some dd => rw [eg] at mm; obtain ⟨vv, rfl, rv⟩ := mm; exact rv
            · cases e

/-! ### displays of dicts: ours -/
theorem PE.or {t u : TE} (h : PE X a t) (h' : PE X a u) : PE X a (fun σ H Q => t σ H Q ∨ u σ H Q) := ⟨fun p s σ H Q I q => q.elim (fun q => h.run p s σ H Q I q) fun q => h'.run p s σ H Q I q⟩
def tDispT (P : Program) (w : World) (tk tv : TE) : TE := fun σ H Q => ∀ p, H p = none → tk σ (upd H p (.dK [])) fun y H1 => tv σ H1 fun v H2 => H2 p = some (.dK []) ∧ ∃ b k, y = .ref b ∧ KAt H2 k b ∧ Q (.ref p) (upd H2 p (.ext (DPhi P w p [k] [b] [v])))
theorem pe_dispT {tk tv : TE} (hu : X.A.units + 10 < cLine) (hk : PE X a tk) (hv : PE X b tv) : PE X (.Dict [some a] [b] pos) (tDispT X.prog X.w tk tv) := by
  refine ⟨fun pins s σ H Q I q => ?_⟩
  have hn := I.hok.fresh (Nat.le_refl s.heap.objs.size)
  have I1 := I.laid (a := s.heap.objs.size) (o := .dK []) (h' := s.heap.push { cls := .type "dict", data := .dict #[] }) (t' := s.toks) (fun _ _ q => Heap.get?_push_of_some _ q) (Nat.le_refl _) (dk_empty s.heap I.big)
  have hp : PPs X pos [some a] [b] [(tk, tv)] := pps_cons hk hv pps_nil
  have run := hp.run pins _ σ _ (fun ps H2 => match ps with | [(y, v)] => H2 s.heap.objs.size = some (.dK []) ∧ ∃ b k, y = .ref b ∧ KAt H2 k b ∧ Q (.ref s.heap.objs.size) (upd H2 s.heap.objs.size (.ext (DPhi X.prog X.w s.heap.objs.size [k] [b] [v]))) | _ => False) I1 (q _ hn)
  rw [arm_eval_Dict]
  have hshape : (evalEachOpt [some a] X.env).zip ((evalEach [b] X.env).map fun v => do let x ← v; standAt pos; pure x) = [(eval a X.env, do let x ← eval b X.env; standAt pos; pure x)].map fun p => (some p.1, p.2) := rfl
  rw [hshape, dictDisplay_pairs _ (by simp) (by simp)]
  refine wpAny_bind (wpAny_standAt (wpAny_bind (wpAny_subDictH (knd := nestedKind X.prog X.w) (Q := fun d s' => wpAny (model X.prog X.w) X.A (pure (Value.ref d)) (EP X pins σ Q) X.xe s') (by show X.A.units + 8 < cLine; omega) (by simp) (thn run fun ws s2 ⟨ps, H2, I2, rel, q2⟩ => ?_))))
  split at q2
  · rename_i y v
    obtain ⟨e, bb, k, rfl, kb, q2⟩ := q2
    cases rel with
    | @cons a0 kv as0 bs0 h t =>
      cases t
      obtain ⟨ku, vu⟩ := kv
      obtain ⟨h1, h2⟩ := h
      have h1 : ku = Value.ref bb := h1
      subst h1
      obtain ⟨z, hs, vs, rl, dd⟩ := dk_of I2.hok e
      cases rl
      obtain ⟨o, es, ep, ho, hx, hd, _, hp, _⟩ := dd
      have he : es.toList = [] := by
        generalize es.toList = l at hp
        cases hp
        rfl
      have d0 : s2.heap.DictOfH (nestedKind X.prog X.w) s.heap.objs.size [] := ⟨o, es, ep, ho, hx, hd, by rw [he]; rfl, by simp, by simp⟩
      refine ⟨[(k, bb, vu)], ⟨rfl, rfl, kb.is I2.hok, trivial⟩, d0, fun h' tk dd' sb => wpAny_pure ?_⟩
      obtain ⟨o, es, ep, ho, hx, hd, he, _, nd⟩ := dd'
      have new : DPhi X.prog X.w s.heap.objs.size [k] [bb] [v] h' := ⟨by show 1 ≤ sizeLine; decide, hs, [(k, bb, vu)], rfl, rfl, .cons h2 .nil, o, es, ep, ho, hx, hd, he, by simp⟩
      exact ⟨.ref s.heap.objs.size, _, d_write (ob := .ext (DPhi X.prog X.w s.heap.objs.size [k] [bb] [v])) I2 (by rw [e]; exact True.intro) sb ⟨o, ho⟩ ⟨new, ⟨o, ho⟩, fun h1 h2 x st => dphi_st x st⟩, rfl, q2⟩
  · exact q2.elim
def eDisp (fk fv : EF) : EF := fun σ h => match fk σ h with
  | none => none
  | some (k, h1) => match fv σ h1 with
    | none => none
    | some (u, h2) => if okKey [] k then some (.ref h2.length, h2 ++ [.dic [k] [u]]) else none
def eDic0 : EF := fun _ h => some (.ref h.length, h ++ [.dic [] []])
theorem s_dic0 : SE X (.Dict [] [] pos) eDic0 := imE pe_dnewK fun τ H Q b0 q => by
  obtain ⟨O, ρ, σ, h, d, h', R, e, k⟩ := q b0
  cases e
  intro p hp b
  obtain ⟨m, rl, rp⟩ := own_new (u := .dK []) (o := .dic [] []) R.l hp (.inl ⟨[], upd_same, .nil, .nil⟩)
  exact k _ _ _ b m rl rp
theorem s_disp (hu : X.A.units + 10 < cLine) (ha : SE X a fa) (hb : SE X b fb) : SE X (.Dict [some a] [b] pos) (eDisp fa fb) := imE (PE.or (pe_disp (pps_cons ha hb pps_nil) rfl rfl (by simp) (by simp)) (pe_dispT hu ha hb)) fun τ H Q b0 q => by
  obtain ⟨O, ρ, σ, h, d, h', R, e, k⟩ := q b0
  unfold eDisp at e
  split at e
  · cases e
  · rename_i k1 h1 ea
    split at e
    · cases e
    · rename_i u1 h2 eb
      split at e
      · rename_i ok
        cases e
        -- both ways begin alike
        have start : ∀ p, H p = none → ∀ {Q2 : V → V → Hp → Prop}, (∀ y v ρ2 H2, Mv ρ H ρ2 H2 → Rl (Zx.of X) (fun a => O a ∨ a = p) ρ2 h2 H2 → H2 p = some (.dK []) → Rep (Zx.of X) (fun a => O a ∨ a = p) ρ2 H2 k1 y → Rep (Zx.of X) (fun a => O a ∨ a = p) ρ2 H2 u1 v → Q2 y v H2) →
            tE (Zx.of X) fa τ (upd H p (.dK [])) fun y H1 => tE (Zx.of X) fb τ H1 fun v H2 => Q2 y v H2 := by
          intro p hp Q2 kk
          have r0 := R.l.more (u := .dK []) hp
          have g1 : ∀ a o, H a = some o → (O a ∨ a = p) → O a := fun a o e z => z.elim id fun z => by subst z; rw [hp] at e; cases e
          have s0 : RepS (Zx.of X) (fun a => O a ∨ a = p) ρ (upd H p (.dK [])) σ τ := (R.s.grow g1).mv (fresh_mv hp)
          refine two ⟨r0, s0⟩ ea eb fun y v ρ2 H2 b2 m2 r2 p1 p2 => ?_
          have e2 : H2 p = some (.dK []) := m2.keep p _ upd_same fun z => r0.dis p z (.inr rfl)
          exact kk y v ρ2 H2 ⟨m2.pre.imp fun l hl => ⟨hl.1, fun a ha => by
            have := hl.2 a ha
            by_cases z : a = p
            · subst z; rw [upd_same] at this; cases this
            · rwa [upd_ne z] at this⟩, fun a o e n => m2.keep a o (by rw [upd_ne (ne_of_none e hp)]; exact e) n⟩ r2 e2 p1 p2
        have fin : ∀ p, H p = none → ∀ ρ2 H2 (u : HO), Mv ρ H ρ2 H2 → Rl (Zx.of X) (fun a => O a ∨ a = p) ρ2 h2 H2 → H2 p = some (.dK []) → (∀ vs, u ≠ .tup vs) →
            (∀ c : Cnv (fun a => O a ∨ a = p) ρ2 O (ρ2 ++ [p]) (upd H2 p u), RepO (Zx.of X) O (ρ2 ++ [p]) (upd H2 p u) p (.dic [k1] [u1])) → BH X.K (upd H2 p u) → Q (.ref p) (upd H2 p u) := by
          intro p hp ρ2 H2 u m2 r2 e2 hu ro b
          have r3 : Rl (Zx.of X) (fun a => O a ∨ a = p) ρ2 h2 (upd H2 p u) := r2.chg (.inr rfl) (fun vs z => by rw [e2] at z; cases z)
          have hO : ¬ O p := fun z => by obtain ⟨o, e⟩ := R.l.dom p z; rw [hp] at e; cases e
          have hd : ∀ a, O a → ∃ o, (upd H2 p u) a = some o := fun a ha => r3.dom a (.inl ha)
          have ht : ∀ vs, (upd H2 p u) p ≠ some (.tup vs) := fun vs z => by rw [upd_same] at z; cases z; exact hu vs rfl
          have c0 := push_own (o := .lst []) r3 hO hd ht
          have np : p ∉ ρ2 := fun z => r3.dis p z (.inr rfl)
          have c : Cnv (fun a => O a ∨ a = p) ρ2 O (ρ2 ++ [p]) (upd H2 p u) := by
            refine ⟨fun n a e => ?_, fun a vs e n z => ?_, fun a o e n k => ⟨fun z => ?_, fun z => k (.inl z)⟩⟩
            · rw [List.getElem?_append_left (List.getElem?_eq_some_iff.mp e).1]; exact e
            · rcases List.mem_append.mp z with z | z
              · exact n z
              · rw [List.mem_singleton.mp z] at e; exact ht vs e
            · rcases List.mem_append.mp z with z | z
              · exact n z
              · exact k (.inr (List.mem_singleton.mp z))
          obtain ⟨_, rl, rp⟩ := push_own r3 hO hd ht (ro c)
          refine k _ (ρ2 ++ [p]) _ b ⟨?_, fun a o e n => ?_⟩ rl rp
          · obtain ⟨l, el, hl⟩ := m2.pre
            refine ⟨l ++ [p], by rw [el, List.append_assoc], fun a ha => ?_⟩
            rcases List.mem_append.mp ha with z | z
            · exact hl a z
            · rw [List.mem_singleton.mp z]; exact hp
          · rw [upd_ne (ne_of_none e hp)]; exact m2.keep a o e n
        cases k1 with
        | int i =>
          refine .inl fun p hp => start p hp fun y v ρ2 H2 m2 r2 e2 p1 p2 => ⟨e2, [(Sum.inl i, v)], by rw [p1.intE]; rfl, by simp, ?_⟩
          refine fin p hp ρ2 H2 _ m2 r2 e2 (fun vs z => by cases z) fun c => .inl ⟨[(Sum.inl i, v)], upd_same, .cons (.int i) .nil, .cons ((p2.chg (.inr rfl) (fun vs z => by rw [e2] at z; cases z)).conv c) .nil⟩
        | tup xs =>
          simp only [okKey, Bool.and_true] at ok
          refine .inr fun p hp => start p hp fun y v ρ2 H2 m2 r2 e2 p1 p2 => ?_
          obtain ⟨b, ws, rfl, eb', nb, rb⟩ := p1.tupE
          have kb : KAt H2 (D.tup xs).nk b := nk_at (.tup xs) 8 (hk_mono xs 7 ok) p1
          refine ⟨e2, b, _, rfl, kb, fin p hp ρ2 H2 _ m2 r2 e2 (fun vs z => by cases z) fun c => .inr ⟨[b], [v], upd_same, by simp [keysT, keysT0, ok], .cons ((p1.chg (.inr rfl) (fun vs z => by rw [e2] at z; cases z)).conv c) .nil, .cons ((p2.chg (.inr rfl) (fun vs z => by rw [e2] at z; cases z)).conv c) .nil, rfl⟩⟩
        | _ => simp [okKey] at ok
      · cases e
end
end TB
namespace TB
open PySem PySem.Spec PyProof.Rows L2

/-! ### order: whole numbers, tuples -/
section
variable {α : Type} {f : α → α → Ordering}
structure Lin (f : α → α → Ordering) : Prop where
  swap : ∀ x y, f y x = (f x y).swap
  tr : ∀ x y z, f x y ≠ .gt → f y z ≠ .gt → f x z ≠ .gt
theorem Lin.refl (L : Lin f) (x : α) : f x x = .eq := by
  have h := L.swap x x
  cases e : f x x <;> rw [e] at h <;> simp_all [Ordering.swap]
theorem Lin.le_of_eq (L : Lin f) {x y : α} (h : f x y = .eq) : f x y ≠ .gt ∧ f y x ≠ .gt := by
  rw [L.swap x y, h]; simp [Ordering.swap]
theorem Lin.of_gt (L : Lin f) {x y : α} : f y x = .gt ↔ f x y = .lt := by
  rw [L.swap x y]; cases f x y <;> simp [Ordering.swap]
theorem Lin.ltle (L : Lin f) {x y z : α} (h1 : f x y = .lt) (h2 : f y z ≠ .gt) : f x z = .lt := by
  have a := L.tr x y z (by rw [h1]; simp) h2
  cases e : f x z with
  | lt => rfl
  | gt => exact absurd e a
  | eq =>
    have q := L.tr y z x h2 (L.le_of_eq e).2
    exact absurd (L.of_gt.mpr h1) q
theorem Lin.lelt (L : Lin f) {x y z : α} (h1 : f x y ≠ .gt) (h2 : f y z = .lt) : f x z = .lt := by
  have a := L.tr x y z h1 (by rw [h2]; simp)
  cases e : f x z with
  | lt => rfl
  | gt => exact absurd e a
  | eq =>
    have q := L.tr z x y (L.le_of_eq e).2 h1
    exact absurd (L.of_gt.mpr h2) q
theorem Lin.eqeq (L : Lin f) {x y z : α} (h1 : f x y = .eq) (h2 : f y z = .eq) : f x z = .eq := by
  have a := L.tr x y z (L.le_of_eq h1).1 (L.le_of_eq h2).1
  have b := L.tr z y x (L.le_of_eq h2).2 (L.le_of_eq h1).2
  cases e : f x z with
  | eq => rfl
  | gt => exact absurd e a
  | lt => exact absurd (L.of_gt.mpr e) b
def lexO (f : α → α → Ordering) : List α → List α → Ordering
  | [], [] => .eq
  | [], _ :: _ => .lt
  | _ :: _, [] => .gt
  | x :: xs, y :: ys => match f x y with
    | .eq => lexO f xs ys
    | o => o
theorem lexO_swap (L : Lin f) : ∀ xs ys, lexO f ys xs = (lexO f xs ys).swap
  | [], [] => rfl
  | [], _ :: _ => rfl
  | _ :: _, [] => rfl
  | x :: xs, y :: ys => by
    simp only [lexO]
    rw [L.swap x y]
    cases f x y with
    | lt => rfl
    | gt => rfl
    | eq => exact lexO_swap L xs ys
theorem lexO_tr (L : Lin f) : ∀ xs ys zs, lexO f xs ys ≠ .gt → lexO f ys zs ≠ .gt → lexO f xs zs ≠ .gt
  | [], _, [], _, _ => by simp [lexO]
  | [], _, _ :: _, _, _ => by simp [lexO]
  | _ :: _, [], _, h, _ => by simp [lexO] at h
  | _ :: _, _ :: _, [], _, h => by simp [lexO] at h
  | x :: xs, y :: ys, z :: zs, h1, h2 => by
    simp only [lexO] at h1 h2 ⊢
    cases e1 : f x y with
    | gt => simp [e1] at h1
    | lt =>
      cases e2 : f y z with
      | gt => simp [e2] at h2
      | lt => rw [L.ltle e1 (by rw [e2]; simp)]; simp
      | eq => rw [L.ltle e1 (by rw [e2]; simp)]; simp
    | eq =>
      cases e2 : f y z with
      | gt => simp [e2] at h2
      | lt => rw [L.lelt (by rw [e1]; simp) e2]; simp
      | eq =>
        rw [L.eqeq e1 e2]
        simp only [e1] at h1
        simp only [e2] at h2
        exact lexO_tr L xs ys zs h1 h2
theorem Lin.lex (L : Lin f) : Lin (lexO f) := ⟨fun x y => lexO_swap L x y, fun x y z => lexO_tr L x y z⟩
end
def ordI (i j : Int) : Ordering := if i < j then .lt else if i = j then .eq else .gt
theorem ordI_lin : Lin ordI := by
  refine ⟨fun x y => ?_, fun x y z => ?_⟩
  · unfold ordI
    split <;> split <;> (try split) <;> (try split) <;> simp [Ordering.swap] <;> omega
  · unfold ordI
    split <;> split <;> (try split) <;> (try split) <;> (try split) <;> (try split) <;> simp <;> omega
/-- what is compared -/
inductive Vw where
  | low
  | num (i : Int)
  | seq (xs : List D)
def D.vw : D → Vw
  | .int i => .num i
  | .tup xs => .seq xs
  | _ => .low
def cmpW (f : D → D → Ordering) : Vw → Vw → Ordering
  | .num i, .num j => ordI i j
  | .seq xs, .seq ys => lexO f xs ys
  | .num _, .seq _ => .lt
  | .seq _, .num _ => .gt
  | .num _, .low => .gt
  | .seq _, .low => .gt
  | .low, .num _ => .lt
  | .low, .seq _ => .lt
  | .low, .low => .eq
/-- the order of values of at most so many levels -/
def cmpN : Nat → D → D → Ordering
  | 0, _, _ => .eq
  | n + 1, x, y => cmpW (cmpN n) x.vw y.vw
theorem cmpW_lin {f : D → D → Ordering} (L : Lin f) : Lin (cmpW f) := by
  have ih := L.lex
  refine ⟨fun x y => ?_, fun x y z h1 h2 => ?_⟩
  · cases x <;> cases y <;> first | rfl | exact ordI_lin.swap _ _ | exact ih.swap _ _
  · cases x <;> cases y <;> cases z <;> first | exact ordI_lin.tr _ _ _ h1 h2 | exact ih.tr _ _ _ h1 h2 | (exact absurd rfl h1) | (exact absurd rfl h2) | (simp [cmpW]; done)
theorem cmpN_lin : ∀ n, Lin (cmpN n)
  | 0 => ⟨fun _ _ => rfl, fun _ _ _ _ _ => by simp [cmpN]⟩
  | n + 1 => ⟨fun x y => (cmpW_lin (cmpN_lin n)).swap _ _, fun x y z => (cmpW_lin (cmpN_lin n)).tr _ _ _⟩
/-- whole numbers and tuples of such, of at most so many levels -/
def plN : Nat → D → Bool
  | 0, _ => false
  | n + 1, x => match x.vw with
    | .low => false
    | .num _ => true
    | .seq xs => xs.all (plN n)
/-- values that may be compared -/
def cokL (f : D → D → Bool) : List D → List D → Bool
  | x :: xs, y :: ys => f x y && cokL f xs ys
  | _, _ => true
def cokN : Nat → D → D → Bool
  | 0, _, _ => false
  | n + 1, x, y => match x.vw, y.vw with
    | .num _, .num _ => true
    | .seq xs, .seq ys => cokL (cokN n) xs ys
    | _, _ => false
theorem vw_num {x : D} {i : Int} (h : x.vw = .num i) : x = .int i := by cases x <;> simp_all [D.vw]
theorem vw_seq {x : D} {xs : List D} (h : x.vw = .seq xs) : x = .tup xs := by cases x <;> simp_all [D.vw]
theorem lexO_inj {f : D → D → Ordering} {p : D → Bool} (hf : ∀ x y, p x = true → p y = true → f x y = .eq → x = y) : ∀ xs ys : List D, xs.all p = true → ys.all p = true → lexO f xs ys = .eq → xs = ys
  | [], [], _, _, _ => rfl
  | [], _ :: _, _, _, h => by simp [lexO] at h
  | _ :: _, [], _, _, h => by simp [lexO] at h
  | x :: xs, y :: ys, hx, hy, h => by
    simp only [List.all_cons, Bool.and_eq_true] at hx hy
    simp only [lexO] at h
    cases e : f x y with
    | lt => simp [e] at h
    | gt => simp [e] at h
    | eq =>
      simp only [e] at h
      rw [hf x y hx.1 hy.1 e, lexO_inj hf xs ys hx.2 hy.2 h]
theorem cmpN_inj : ∀ (n : Nat) (x y : D), plN n x = true → plN n y = true → cmpN n x y = .eq → x = y
  | 0, _, _, h, _, _ => by simp [plN] at h
  | n + 1, x, y, hx, hy, h => by
    simp only [plN] at hx hy
    simp only [cmpN] at h
    cases ex : x.vw with
    | low => simp [ex] at hx
    | num i =>
      rw [ex] at h
      cases ey : y.vw with
      | low => simp [ey] at hy
      | num j =>
        rw [ey] at h
        simp only [cmpW, ordI] at h
        rw [vw_num ex, vw_num ey]
        split at h
        · cases h
        · split at h
          · rename_i e; rw [e]
          · cases h
      | seq ys => rw [ey] at h; simp [cmpW] at h
    | seq xs =>
      rw [ex] at h
      cases ey : y.vw with
      | low => simp [ey] at hy
      | num j => rw [ey] at h; simp [cmpW] at h
      | seq ys =>
        rw [ey] at h
        simp only [ex] at hx
        simp only [ey] at hy
        simp only [cmpW] at h
        rw [vw_seq ex, vw_seq ey, lexO_inj (cmpN_inj n) xs ys hx hy h]

/-! ### a sorted list -/
abbrev lvN : Nat := 9
def D.lt (x y : D) : Bool := cmpN lvN x y == .lt
def insD (x : D) : List D → List D
  | [] => [x]
  | y :: l => if D.lt y x then y :: insD x l else x :: y :: l
def sortD : List D → List D
  | [] => []
  | x :: l => insD x (sortD l)
theorem D.lt_swo : SrtO.Swo D.lt := by
  have L := cmpN_lin lvN
  refine ⟨fun x y h => ?_, fun x y z h1 h2 => ?_⟩
  · have h' : cmpN lvN x y = .lt := beq_iff_eq.mp h
    show (cmpN lvN y x == .lt) = false
    rw [L.swap x y, h']; rfl
  · have a : cmpN lvN x y ≠ .gt := fun q => by
      have e : D.lt y x = true := by show (cmpN lvN y x == .lt) = true; rw [L.swap x y, q]; rfl
      rw [h1] at e; cases e
    have b : cmpN lvN y z ≠ .gt := fun q => by
      have e : D.lt z y = true := by show (cmpN lvN z y == .lt) = true; rw [L.swap y z, q]; rfl
      rw [h2] at e; cases e
    have c := L.tr x y z a b
    show (cmpN lvN z x == .lt) = false
    rw [L.swap x z]
    cases e : cmpN lvN x z with
    | gt => exact absurd e c
    | lt => rfl
    | eq => rfl
theorem insD_perm (x : D) : ∀ l, (insD x l).Perm (x :: l)
  | [] => List.Perm.refl _
  | y :: l => by
    unfold insD
    split
    · exact ((insD_perm x l).cons y).trans (List.Perm.swap x y l)
    · exact List.Perm.refl _
theorem sortD_perm : ∀ l, (sortD l).Perm l
  | [] => List.Perm.refl _
  | x :: l => (insD_perm x (sortD l)).trans ((sortD_perm l).cons x)
theorem insD_srtd (x : D) : ∀ l, SrtO.Srtd D.lt l → SrtO.Srtd D.lt (insD x l)
  | [], _ => List.pairwise_singleton _ _
  | y :: l, h => by
    unfold insD
    split
    · rename_i q
      refine List.pairwise_cons.mpr ⟨fun z hz => ?_, insD_srtd x l (List.pairwise_cons.mp h).2⟩
      rcases List.mem_cons.mp ((insD_perm x l).mem_iff.mp hz) with e | hz
      · rw [e]; exact D.lt_swo.asym y x q
      · exact (List.pairwise_cons.mp h).1 z hz
    · rename_i q
      refine List.pairwise_cons.mpr ⟨fun z hz => ?_, h⟩
      have q' : D.lt y x = false := by cases e : D.lt y x with | true => exact absurd e q | false => rfl
      rcases List.mem_cons.mp hz with e | hz
      · rw [e]; exact q'
      · exact D.lt_swo.tr x y z q' ((List.pairwise_cons.mp h).1 z hz)
theorem sortD_srtd : ∀ l, SrtO.Srtd D.lt (sortD l)
  | [] => List.Pairwise.nil
  | x :: l => insD_srtd x _ (sortD_srtd l)
theorem lt_ff {x y : D} (hx : plN lvN x = true) (hy : plN lvN y = true) (h1 : D.lt x y = false) (h2 : D.lt y x = false) : x = y := by
  refine cmpN_inj lvN x y hx hy ?_
  have a : (cmpN lvN x y == .lt) = false := h1
  have b : (cmpN lvN y x == .lt) = false := h2
  rw [(cmpN_lin lvN).swap x y] at b
  cases e : cmpN lvN x y with
  | eq => rfl
  | lt => rw [e] at a; cases a
  | gt => rw [e] at b; cases b
theorem srtd_uniq : ∀ {l m : List D}, (∀ x ∈ l, plN lvN x = true) → SrtO.Srtd D.lt l → SrtO.Srtd D.lt m → l.Perm m → l = m
  | [], m, _, _, _, h => (List.Perm.eq_nil h.symm).symm
  | x :: l, [], _, _, _, h => absurd h.length_eq (by simp)
  | x :: l, y :: m, p, hl, hm, h => by
    have py : plN lvN y = true := p y (h.mem_iff.mpr List.mem_cons_self)
    have h1 : D.lt x y = false := by
      rcases List.mem_cons.mp (h.mem_iff.mp (List.mem_cons_self (a := x) (l := l))) with e | hx
      · rw [e]; exact D.lt_swo.refl y
      · exact SrtO.srtd_head hm x hx
    have h2 : D.lt y x = false := by
      rcases List.mem_cons.mp (h.mem_iff.mpr (List.mem_cons_self (a := y) (l := m))) with e | hy
      · rw [e]; exact D.lt_swo.refl x
      · exact SrtO.srtd_head hl y hy
    have e := lt_ff (p x List.mem_cons_self) py h1 h2
    subst e
    rw [srtd_uniq (fun z hz => p z (List.mem_cons_of_mem _ hz)) (List.pairwise_cons.mp hl).2 (List.pairwise_cons.mp hm).2 h.cons_inv]
theorem sortD_uniq {l m : List D} (p : ∀ x ∈ l, plN lvN x = true) (hm : SrtO.Srtd D.lt m) (h : m.Perm l) : m = sortD l :=
  (srtd_uniq (fun x hx => p x ((sortD_perm l).mem_iff.mp hx)) (sortD_srtd l) hm ((sortD_perm l).trans h.symm)).symm
end TB
namespace TB
open PySem PySem.Spec PyProof.Rows L2 Srt SrtO

/-! ### such a value in the raw heap -/
def TVn (h : Heap) : Nat → D → Value → Prop
  | 0, _, _ => False
  | n + 1, x, v => match x.vw with
    | .low => False
    | .num i => ∃ t, v = .int i t
    | .seq xs => ∃ a us, v = .ref a ∧ h.IsTuple a (List.toArray us) ∧ Paired (TVn h n) xs us
theorem paired_imp {α β : Type} {F G : α → β → Prop} : ∀ {l : List α} {m : List β}, (∀ a b, a ∈ l → b ∈ m → F a b → G a b) → Paired F l m → Paired G l m
  | _, _, _, .nil => .nil
  | _, _, h, .cons r t => .cons (h _ _ List.mem_cons_self List.mem_cons_self r) (paired_imp (fun a b x y => h a b (List.mem_cons_of_mem _ x) (List.mem_cons_of_mem _ y)) t)
theorem paired_len {α β : Type} {F : α → β → Prop} : ∀ {l : List α} {m : List β}, Paired F l m → l.length = m.length
  | _, _, .nil => rfl
  | _, _, .cons _ t => by rw [List.length_cons, List.length_cons, paired_len t]
theorem paired_at {α β : Type} {F : α → β → Prop} : ∀ {l : List α} {m : List β}, Paired F l m → ∀ (j : Nat) (h1 : j < l.length) (h2 : j < m.length), F l[j] m[j]
  | _, _, .cons r _, 0, _, _ => r
  | _, _, .cons _ t, j + 1, h1, h2 => paired_at t j (by simpa using h1) (by simpa using h2)
theorem TVn.keep {h h' : Heap} (k : ∀ b o, h.get? b = some o → o.cls = .type "tuple" → h'.get? b = some o) : ∀ (n : Nat) {x : D} {v : Value}, TVn h n x v → TVn h' n x v
  | 0, _, _, q => q.elim
  | n + 1, x, v, q => by
    unfold TVn at q ⊢
    cases e : x.vw with
    | low => simp only [e] at q
    | num i => simp only [e] at q ⊢; exact q
    | seq xs =>
      simp only [e] at q ⊢
      obtain ⟨a, us, rfl, ⟨o, ho, hc, hd⟩, r⟩ := q
      exact ⟨a, us, rfl, ⟨o, k a o ho hc, hc, hd⟩, paired_imp (fun _ _ _ _ z => TVn.keep k n z) r⟩
theorem tv_fun {h : Heap} : ∀ (n m : Nat) {x y : D} {v : Value}, TVn h n x v → TVn h m y v → x = y
  | 0, _, _, _, _, q, _ => q.elim
  | _ + 1, 0, _, _, _, _, q => q.elim
  | n + 1, m + 1, x, y, v, q, r => by
    unfold TVn at q r
    cases e : x.vw with
    | low => simp only [e] at q
    | num i =>
      simp only [e] at q
      obtain ⟨t, rfl⟩ := q
      cases e' : y.vw with
      | low => simp only [e'] at r
      | num j => simp only [e'] at r; obtain ⟨t', z⟩ := r; cases z; rw [vw_num e, vw_num e']
      | seq ys => simp only [e'] at r; obtain ⟨_, _, z, _⟩ := r; cases z
    | seq xs =>
      simp only [e] at q
      obtain ⟨a, us, rfl, ⟨o, ho, hc, n1, hd⟩, p⟩ := q
      cases e' : y.vw with
      | low => simp only [e'] at r
      | num j => simp only [e'] at r; obtain ⟨t', z⟩ := r; cases z
      | seq ys =>
        simp only [e'] at r
        obtain ⟨a', us', z, ⟨o', ho', hc', n2, hd'⟩, p'⟩ := r
        cases z
        obtain rfl : o = o' := Option.some.inj (ho.symm.trans ho')
        rw [hd] at hd'
        injection hd' with h1 h2
        have h3 : us = us' := by simpa using congrArg Array.toList h1
        subst h3
        have key : ∀ {l l' : List D} {w : List Value}, Paired (TVn h n) l w → Paired (TVn h m) l' w → l = l' := by
          intro l l' w a b
          induction a generalizing l' with
          | nil => cases b; rfl
          | cons r t ih => cases b with | cons r' t' => rw [tv_fun n m r r', ih t']
        rw [vw_seq e, vw_seq e', key p p']

/-! ### tests of such values -/
theorem ordI_eq (i j : Int) : (ordI i j == .eq) = (i == j) := by
  unfold ordI
  by_cases h : i = j
  · subst h
    simp
  · have : (i == j) = false := by simpa using h
    rw [this]
    split
    · rfl
    · rfl
theorem ordI_lt (i j : Int) : (ordI i j == .lt) = decide (i < j) := by
  unfold ordI
  by_cases h : i < j
  · simp [h]
  · rw [if_neg h, decide_eq_false h]
    split <;> rfl
theorem lexO_all {f : D → D → Ordering} : ∀ (xs ys : List D) (i : Nat) (e : Nat → Bool), (∀ j (h1 : j < xs.length) (h2 : j < ys.length), e (i + j) = (f xs[j] ys[j] == .eq)) →
    (lexO f xs ys == .eq) = (((List.range' i (min xs.length ys.length)).all e) && (xs.length == ys.length))
  | [], [], _, _, _ => by simp [lexO]
  | [], _ :: _, _, _, _ => by simp [lexO]
  | _ :: _, [], _, _, _ => by simp [lexO]
  | x :: xs, y :: ys, i, e, h => by
    have h0 := h 0 (by simp) (by simp)
    simp only [List.getElem_cons_zero, Nat.add_zero] at h0
    have ih := lexO_all xs ys (i + 1) e fun j h1 h2 => by
      have q := h (j + 1) (by simpa using h1) (by simpa using h2)
      simp only [List.getElem_cons_succ] at q
      rw [← q]; congr 1; omega
    have em : min (x :: xs).length (y :: ys).length = min xs.length ys.length + 1 := by simp only [List.length_cons]; omega
    rw [em, List.range'_succ]
    simp only [List.all_cons, lexO]
    rw [h0]
    cases ec : f x y with
    | lt => rfl
    | gt => rfl
    | eq =>
      simp only
      rw [ih]
      simp
theorem lexAt_lex {f : D → D → Ordering} : ∀ (xs ys : List D) (i : Nat) (e r : Nat → Bool), (∀ j (h1 : j < xs.length) (h2 : j < ys.length), e (i + j) = (f xs[j] ys[j] == .eq)) → (∀ j (h1 : j < xs.length) (h2 : j < ys.length), r (i + j) = (f xs[j] ys[j] == .lt)) →
    Ob.lexAt e r (decide (xs.length < ys.length)) i (min xs.length ys.length) = (lexO f xs ys == .lt)
  | [], [], _, _, _, _, _ => by simp [lexO, Ob.lexAt]
  | [], _ :: _, _, _, _, _, _ => by simp [lexO, Ob.lexAt]
  | _ :: _, [], _, _, _, _, _ => by simp [lexO, Ob.lexAt]
  | x :: xs, y :: ys, i, e, r, h, g => by
    have h0 := h 0 (by simp) (by simp)
    have g0 := g 0 (by simp) (by simp)
    simp only [List.getElem_cons_zero, Nat.add_zero] at h0 g0
    have ih := lexAt_lex xs ys (i + 1) e r (fun j h1 h2 => by
      have q := h (j + 1) (by simpa using h1) (by simpa using h2)
      simp only [List.getElem_cons_succ] at q
      rw [← q]; congr 1; omega) (fun j h1 h2 => by
      have q := g (j + 1) (by simpa using h1) (by simpa using h2)
      simp only [List.getElem_cons_succ] at q
      rw [← q]; congr 1; omega)
    have em : min (x :: xs).length (y :: ys).length = min xs.length ys.length + 1 := by simp only [List.length_cons]; omega
    have ed : decide ((x :: xs).length < (y :: ys).length) = decide (xs.length < ys.length) := by simp
    rw [em, ed, Ob.lexAt_succ, h0, g0]
    simp only [lexO]
    cases ec : f x y with
    | lt => rfl
    | gt => rfl
    | eq => simp only [beq_self_eq_true, if_true]; exact ih
theorem cokL_at {f : D → D → Bool} : ∀ {xs ys : List D}, cokL f xs ys = true → ∀ j (h1 : j < xs.length) (h2 : j < ys.length), f xs[j] ys[j] = true
  | x :: xs, y :: ys, h, 0, _, _ => by simp only [cokL, Bool.and_eq_true] at h; exact h.1
  | x :: xs, y :: ys, h, j + 1, h1, h2 => by simp only [cokL, Bool.and_eq_true] at h; exact cokL_at h.2 j (by simpa using h1) (by simpa using h2)
theorem tv_eq : ∀ (n : Nat) {A : Around} {s : Shared} {x y : D} {v u : Value}, TVn s.heap n x v → TVn s.heap n y u → cokN n x y = true → A.units + n < cLine → SeqAt.EqAt A s v u (cmpN n x y == .eq)
  | 0, _, _, _, _, _, _, q, _, _, _ => q.elim
  | n + 1, A, s, x, y, v, u, q, r, c, hu => by
    have q0 := q
    have r0 := r
    unfold TVn at q r
    simp only [cokN] at c
    cases e : x.vw with
    | low => simp only [e] at q
    | num i =>
      simp only [e] at q c
      cases e' : y.vw with
      | low => simp only [e'] at r
      | seq ys => simp [e'] at c
      | num j =>
        simp only [e'] at r
        obtain ⟨t, rfl⟩ := q
        obtain ⟨t', rfl⟩ := r
        simp only [cmpN, e, e', cmpW, ordI_eq]
        exact SeqAt.EqAt.int_int _ _ _ _
    | seq xs =>
      simp only [e] at q c
      cases e' : y.vw with
      | low => simp only [e'] at r
      | num ys => simp [e'] at c
      | seq ys =>
        simp only [e'] at r c
        obtain ⟨a, us, rfl, ht, p⟩ := q
        obtain ⟨a', us', rfl, ht', p'⟩ := r
        by_cases ea : a = a'
        · subst ea
          have exy := tv_fun _ _ q0 r0
          subst exy
          rw [(cmpN_lin (n + 1)).refl x]
          exact SeqAt.EqAt.same _
        · have l1 := paired_len p
          have l2 := paired_len p'
          have hq := lexO_all (f := cmpN n) xs ys 0 (fun j => cmpN n (xs.getD j .non) (ys.getD j .non) == .eq) fun j h1 h2 => by
            simp only [Nat.zero_add, List.getD_eq_getElem?_getD, List.getElem?_eq_getElem h1, List.getElem?_eq_getElem h2, Option.getD_some]
          simp only [cmpN, e, e', cmpW]
          rw [hq, ← List.range_eq_range', l1, l2]
          have z := SeqAt.RcAt.tuples (A := A) (s := s) (e := fun j => cmpN n (xs.getD j .non) (ys.getD j .non) == .eq) ht ht' (by omega) fun j h1 h2 => by
            have k1 : j < xs.length := by rw [l1]; simpa using h1
            have k2 : j < ys.length := by rw [l2]; simpa using h2
            simp only [List.getD_eq_getElem?_getD, List.getElem?_eq_getElem k1, List.getElem?_eq_getElem k2, Option.getD_some]
            exact tv_eq n (paired_at p j k1 (by simpa using h1)) (paired_at p' j k2 (by simpa using h2)) (cokL_at c j k1 k2) (by show A.units + 1 + n < cLine; omega)
          exact SeqAt.EqAt.of_refs ea (by simpa using z)
/-- two tuples: what their parts' tests give -/
theorem tv_parts (n : Nat) {A : Around} {s : Shared} {xs ys : List D} {us ws : List Value} (hlt : ∀ {A : Around} {x y : D} {v u : Value}, TVn s.heap n x v → TVn s.heap n y u → cokN n x y = true → A.units + n < cLine → Ob.RcOp .Lt A s v u (cmpN n x y == .lt))
    (p : Paired (TVn s.heap n) xs us) (p' : Paired (TVn s.heap n) ys ws) (c : cokL (cokN n) xs ys = true) (hu : A.units + n < cLine) : ∃ e r : Nat → Bool,
      (∀ j (h1 : j < us.toArray.size) (h2 : j < ws.toArray.size), SeqAt.EqAt A s us.toArray[j] ws.toArray[j] (e j)) ∧
      (∀ j (h1 : j < us.toArray.size) (h2 : j < ws.toArray.size), e j = false → Ob.RcOp .Lt A s us.toArray[j] ws.toArray[j] (r j)) ∧
      Ob.lexAt e r (decide (us.toArray.size < ws.toArray.size)) 0 (min us.toArray.size ws.toArray.size) = (lexO (cmpN n) xs ys == .lt) := by
  have l1 := paired_len p
  have l2 := paired_len p'
  have hq := lexAt_lex (f := cmpN n) xs ys 0 (fun j => cmpN n (xs.getD j .non) (ys.getD j .non) == .eq) (fun j => cmpN n (xs.getD j .non) (ys.getD j .non) == .lt) (fun j h1 h2 => by
    simp only [Nat.zero_add, List.getD_eq_getElem?_getD, List.getElem?_eq_getElem h1, List.getElem?_eq_getElem h2, Option.getD_some]) (fun j h1 h2 => by
    simp only [Nat.zero_add, List.getD_eq_getElem?_getD, List.getElem?_eq_getElem h1, List.getElem?_eq_getElem h2, Option.getD_some])
  refine ⟨fun j => cmpN n (xs.getD j .non) (ys.getD j .non) == .eq, fun j => cmpN n (xs.getD j .non) (ys.getD j .non) == .lt, fun j h1 h2 => ?_, fun j h1 h2 _ => ?_, ?_⟩
  · have k1 : j < xs.length := by rw [l1]; simpa using h1
    have k2 : j < ys.length := by rw [l2]; simpa using h2
    simp only [List.getD_eq_getElem?_getD, List.getElem?_eq_getElem k1, List.getElem?_eq_getElem k2, Option.getD_some]
    exact tv_eq n (paired_at p j k1 (by simpa using h1)) (paired_at p' j k2 (by simpa using h2)) (cokL_at c j k1 k2) hu
  · have k1 : j < xs.length := by rw [l1]; simpa using h1
    have k2 : j < ys.length := by rw [l2]; simpa using h2
    simp only [List.getD_eq_getElem?_getD, List.getElem?_eq_getElem k1, List.getElem?_eq_getElem k2, Option.getD_some]
    exact hlt (paired_at p j k1 (by simpa using h1)) (paired_at p' j k2 (by simpa using h2)) (cokL_at c j k1 k2) hu
  · rw [← hq, l1, l2]; simp
theorem tv_lt : ∀ (n : Nat) {A : Around} {s : Shared} {x y : D} {v u : Value}, TVn s.heap n x v → TVn s.heap n y u → cokN n x y = true → A.units + n < cLine → Ob.RcOp .Lt A s v u (cmpN n x y == .lt)
  | 0, _, _, _, _, _, _, q, _, _, _ => q.elim
  | n + 1, A, s, x, y, v, u, q, r, c, hu => by
    unfold TVn at q r
    simp only [cokN] at c
    cases e : x.vw with
    | low => simp only [e] at q
    | num i =>
      simp only [e] at q c
      cases e' : y.vw with
      | low => simp only [e'] at r
      | seq ys => simp [e'] at c
      | num j =>
        simp only [e'] at r
        obtain ⟨t, rfl⟩ := q
        obtain ⟨t', rfl⟩ := r
        simp only [cmpN, e, e', cmpW, ordI_lt]
        exact Ob.RcOp.lt_int _ _ _ _
    | seq xs =>
      simp only [e] at q c
      cases e' : y.vw with
      | low => simp only [e'] at r
      | num ys => simp [e'] at c
      | seq ys =>
        simp only [e'] at r c
        obtain ⟨a, us, rfl, ht, p⟩ := q
        obtain ⟨a', us', rfl, ht', p'⟩ := r
        obtain ⟨ee, rr, h1, h2, h3⟩ := tv_parts (A := A.in1) n (tv_lt n) p p' c (by show A.units + 1 + n < cLine; omega)
        simp only [cmpN, e, e', cmpW]
        rw [← h3]
        exact Ob.RcOp.tuples_lt ht ht' (by omega) h1 h2
section
variable {prog : Program} {w : World} {A : Around} {s : Shared}
/-- as the sort asks, of one type -/
theorem tv_one {n : Nat} {x y : D} {v u : Value} {E : Value → Shared → Prop} {Q : Bool → Shared → Prop} (q : TVn s.heap (n + 1) x v) (r : TVn s.heap (n + 1) y u) (c : cokN (n + 1) x y = true) (hu : A.units + (n + 1) < cLine) (h : Q (cmpN (n + 1) x y == .lt) s) :
    wpAny (model prog w) A (oneLt' true v u) Q E s := by
  unfold TVn at q r
  simp only [cokN] at c
  cases e : x.vw with
  | low => simp only [e] at q
  | num i =>
    simp only [e] at q c
    cases e' : y.vw with
    | low => simp only [e'] at r
    | seq ys => simp [e'] at c
    | num j =>
      simp only [e'] at r
      obtain ⟨t, rfl⟩ := q
      obtain ⟨t', rfl⟩ := r
      simp only [cmpN, e, e', cmpW, ordI_lt] at h
      exact oneLt_int h
  | seq xs =>
    simp only [e] at q c
    cases e' : y.vw with
    | low => simp only [e'] at r
    | num ys => simp [e'] at c
    | seq ys =>
      simp only [e'] at r c
      obtain ⟨a, us, rfl, ht, p⟩ := q
      obtain ⟨a', us', rfl, ht', p'⟩ := r
      obtain ⟨ee, rr, h1, h2, h3⟩ := tv_parts (A := A.in1) n (tv_lt n) p p' c (by show A.units + 1 + n < cLine; omega)
      simp only [cmpN, e, e', cmpW] at h
      rw [← h3] at h
      obtain ⟨⟨cls, dd, data, sl⟩, ho, hc, n1, hd⟩ := ht
      obtain ⟨⟨cls2, dd2, data2, sl2⟩, ho2, hc2, n2, hd2⟩ := ht'
      simp only at hc hd hc2 hd2
      subst hc hd hc2 hd2
      rw [oneLt'_eq]
      simp only [if_true]
      refine wpAny_bind (wpAny_cRoomFor (by omega) ?_)
      refine wpAny_bind (wpAny_callSpecialIfBound?_slot ⟨_, ho, rfl⟩ F.slot_tuple_lt (call_meets F.slot_tuple_lt ⟨_, ho, rfl⟩ F.entry_tuple_lt (F.args_tuple_lt_2 _ _) (Ob.tuple_ltAt a a' us.toArray us'.toArray n1 n2 dd dd2 sl sl2 ee rr) ⟨ho, ho2, h1, h2, ?_⟩))
      exact wpAny_truthy_bool h
/-- .. of no type found -/
theorem tv_gen {n : Nat} {x y : D} {v u : Value} {E : Value → Shared → Prop} {Q : Bool → Shared → Prop} (q : TVn s.heap n x v) (r : TVn s.heap n y u) (c : cokN n x y = true) (hu : A.units + n < cLine) (h : Q (cmpN n x y == .lt) s) :
    wpAny (model prog w) A (oneLt' false v u) Q E s := PySem.W.kat_one _ _ (tv_lt n q r c hu prog w _ _ h)
/-- .. tuples -/
theorem tv_lex {b : Bool} (n : Nat) {xs0 ys0 : List D} : ∀ (xs ys : List D) (us ws : List Value) (i : Nat), Paired (TVn s.heap n) xs us → Paired (TVn s.heap n) ys ws → cokL (cokN n) xs ys = true → A.units + n < cLine →
    (b = true → i = 0 → ∀ x l y l', xs = x :: l → ys = y :: l' → (∃ k, x.vw = .num k) ∧ ∃ k, y.vw = .num k) → (lexO (cmpN n) xs ys == .lt) = (lexO (cmpN n) xs0 ys0 == .lt) →
    PySem.W.KatLex prog w A b (decide (us.length < ws.length)) (fun r s' => s' = s ∧ r = (lexO (cmpN n) xs0 ys0 == .lt)) (us.zip ws) i s
  | _, _, _, _, i, .nil, .nil, _, _, _, e => PySem.W.kat_nil ⟨rfl, by rw [← e]; rfl⟩
  | _, _, _, _, i, .nil, .cons _ _, _, _, _, e => PySem.W.kat_nil ⟨rfl, by rw [← e]; simp [lexO]⟩
  | _, _, _, _, i, .cons _ _, .nil, _, _, _, e => PySem.W.kat_nil ⟨rfl, by rw [← e]; simp [lexO]⟩
  | x :: xs, y :: ys, v :: us, u :: ws, i, .cons r t, .cons r' t', c, hu, hb, e => by
    simp only [cokL, Bool.and_eq_true] at c
    have ed : decide ((v :: us).length < (u :: ws).length) = decide (us.length < ws.length) := by simp
    rw [ed]
    refine PySem.W.kat_cons (tv_eq n r r' c.1 hu prog w _ _ ?_)
    have g : ∀ k : Bool, (cmpN n x y == .eq) = k → PySem.W.KatGo prog w A b (decide (us.length < ws.length)) (fun r s' => s' = s ∧ r = (lexO (cmpN n) xs0 ys0 == .lt)) v u (us.zip ws) i k s := by
      intro k hk
      cases k with
      | true =>
        refine PySem.W.kat_yes (tv_lex n xs ys us ws (i + 1) t t' c.2 hu (fun _ z => absurd z (by omega)) ?_)
        rw [← e]
        simp only [lexO]
        rw [beq_iff_eq.mp hk]
      | false =>
        have el : (lexO (cmpN n) (x :: xs) (y :: ys) == .lt) = (cmpN n x y == .lt) := by
          simp only [lexO]
          cases ec : cmpN n x y with
          | lt => rfl
          | gt => rfl
          | eq => rw [ec] at hk; cases hk
        refine PySem.W.kat_no ?_
        by_cases hbi : (b && i == 0) = true
        · rw [hbi]
          simp only [Bool.and_eq_true, beq_iff_eq] at hbi
          obtain ⟨⟨k1, e1⟩, k2, e2⟩ := hb hbi.1 hbi.2 x xs y ys rfl rfl
          cases n with
          | zero => exact r.elim
          | succ n => exact tv_one r r' c.1 hu ⟨rfl, by rw [← e, el]⟩
        · have hbi' : (b && i == 0) = false := by simpa using hbi
          rw [hbi']
          exact tv_gen r r' c.1 hu ⟨rfl, by rw [← e, el]⟩
    exact g _ rfl
end
end TB
namespace TB
open PySem PySem.Spec PyProof.Rows L2 Srt SrtO

theorem paired_memR {α β : Type} {F : α → β → Prop} : ∀ {l : List α} {m : List β}, Paired F l m → ∀ {b : β}, b ∈ m → ∃ a, a ∈ l ∧ F a b
  | _, _, .nil, b, h => by cases h
  | _, _, .cons r t, b, h => by
    rcases List.mem_cons.mp h with e | h
    · subst e; exact ⟨_, List.mem_cons_self, r⟩
    · obtain ⟨a, q, f⟩ := paired_memR t h
      exact ⟨a, List.mem_cons_of_mem _ q, f⟩
open Classical in
noncomputable def dv (h : Heap) (v : Value) : D := if q : ∃ d, TVn h lvN d v then q.choose else .non
theorem dv_eq {h : Heap} {d : D} {v : Value} (q : TVn h lvN d v) : dv h v = d := by
  have e : ∃ d, TVn h lvN d v := ⟨d, q⟩
  unfold dv
  rw [dif_pos e]
  exact tv_fun _ _ e.choose_spec q
theorem dv_swo (h : Heap) : Swo fun v u => D.lt (dv h v) (dv h u) := ⟨fun x y => D.lt_swo.asym _ _, fun x y z => D.lt_swo.tr _ _ _⟩

/-- the first of each tuple -/
def FR (h : Heap) (n : Nat) (d : D) (f : Option Value) : Prop := ∃ xs, d.vw = .seq xs ∧ match xs, f with
  | [], none => True
  | x :: _, some u => TVn h n x u
  | _, _ => False
section
variable {M : Model} {A : Around} {E : Value → Shared → Prop} {s : Shared} {n : Nat}
theorem firsts_tv : ∀ {ds : List D} {vs : List Value}, Paired (TVn s.heap (n + 1)) ds vs → (∀ d ∈ ds, ∃ xs, d.vw = .seq xs) →
    ∃ fs, Paired (FR s.heap n) ds fs ∧ (∀ Q : List (Option Value) → Shared → Prop, Q fs s → wpAny M A (vs.mapM firstOfTuple') Q E s)
      ∧ (∀ gs : List Value, fs = gs.map some → PySem.W.KatTups s.heap vs gs)
  | _, _, .nil, _ => ⟨[], .nil, fun Q h => by rw [List.mapM_nil]; exact wpAny_pure h, fun gs e => by
      cases gs with
      | nil => trivial
      | cons _ _ => simp at e⟩
  | d :: ds, v :: vs, .cons r t, hs => by
    obtain ⟨fs, h1, h2, h3⟩ := firsts_tv t fun d h => hs d (List.mem_cons_of_mem _ h)
    obtain ⟨xs, ex⟩ := hs d List.mem_cons_self
    unfold TVn at r
    simp only [ex] at r
    obtain ⟨a, us, rfl, ⟨o, ho, hc, k, hd⟩, p⟩ := r
    refine ⟨us[0]? :: fs, .cons ⟨xs, ex, ?_⟩ h1, fun Q h => ?_, fun gs e => ?_⟩
    · cases p with
      | nil => trivial
      | cons r _ => exact r
    · rw [List.mapM_cons]
      refine wpAny_bind ?_
      rw [PySem.W.kas_first_eq]
      refine wpAny_bind (PySem.W.Looks.here (show PySem.W.Looks M s.heap (typeOf (.ref a)) o.cls from (PySem.W.Looks.ld ho).andThen .now) ?_)
      rw [hc, if_neg (by first | decide | simp)]
      refine wpAny_bind (listItems_at ho hd (wpAny_pure ?_))
      have e0 : us.toArray[0]? = us[0]? := by simp
      rw [e0]
      exact wpAny_bind (h2 _ (wpAny_pure h))
    · cases gs with
      | nil => simp at e
      | cons g gs =>
        simp only [List.map_cons, List.cons.injEq] at e
        exact PySem.W.KatTups.cons ho hc hd (by simpa using e.1) (h3 gs e.2)
end
section
variable {prog : Program} {w : World} {A : Around} {s : Shared}
theorem looks_num {M : Model} {h : Heap} {n : Nat} {x : D} {v : Value} {i : Int} (q : TVn h n x v) (e : x.vw = .num i) : PySem.W.Looks M h (typeOf v) (.type "int") := by
  cases n with
  | zero => exact q.elim
  | succ n =>
    unfold TVn at q
    simp only [e] at q
    obtain ⟨t, rfl⟩ := q
    exact PySem.W.Looks.now
theorem looks_seq {M : Model} {h : Heap} {n : Nat} {x : D} {v : Value} {xs : List D} (q : TVn h n x v) (e : x.vw = .seq xs) : PySem.W.Looks M h (typeOf v) (.type "tuple") := by
  cases n with
  | zero => exact q.elim
  | succ n =>
    unfold TVn at q
    simp only [e] at q
    obtain ⟨a, us, rfl, ⟨o, ho, hc, _⟩, _⟩ := q
    have z : PySem.W.Looks M h (typeOf (.ref a)) o.cls := (PySem.W.Looks.ld ho).andThen .now
    rw [hc] at z
    exact z
theorem cok_num {n : Nat} {x y : D} {i : Int} (e : x.vw = .num i) (c : cokN (n + 1) x y = true) : ∃ j, y.vw = .num j := by
  simp only [cokN, e] at c
  cases e' : y.vw with
  | num j => exact ⟨j, rfl⟩
  | low => simp [e'] at c
  | seq _ => simp [e'] at c
theorem cok_seq {n : Nat} {x y : D} {xs : List D} (e : x.vw = .seq xs) (c : cokN (n + 1) x y = true) : ∃ ys, y.vw = .seq ys ∧ cokL (cokN n) xs ys = true := by
  simp only [cokN, e] at c
  cases e' : y.vw with
  | num j => simp [e'] at c
  | low => simp [e'] at c
  | seq ys => exact ⟨ys, rfl, by simpa [e'] using c⟩
theorem all_some : ∀ {fs : List (Option Value)}, (fs.toArray.all fun x => x.isSome) = true → ∃ gs : List Value, fs = gs.map some
  | [], _ => ⟨[], rfl⟩
  | f :: fs, h => by
    simp only [List.all_toArray, List.all_cons, Bool.and_eq_true] at h
    obtain ⟨gs, e⟩ := all_some (fs := fs) (by simpa using h.2)
    cases f with
    | none => simp at h
    | some g => exact ⟨g :: gs, by rw [e]; rfl⟩
theorem tv_kind {ds : List D} {vs : List Value} (h2 : 2 ≤ vs.length) (p : Paired (TVn s.heap lvN) ds vs) (c : ∀ x ∈ ds, ∀ y ∈ ds, cokN lvN x y = true) (hu : A.units + 12 < cLine) : ∃ κ,
    (∀ (Q : SortKind → Shared → Prop) (E : Value → Shared → Prop), Q κ s → wpAny (model prog w) A (keyKind' vs.toArray) Q E s) ∧
    ∀ {x y : D} {v u : Value}, x ∈ ds → y ∈ ds → TVn s.heap lvN x v → TVn s.heap lvN y u → wpAny (model prog w) A (keyLt' κ v u) (fun r s' => s' = s ∧ r = D.lt x y) (fun _ _ => False) s := by
  have hl := paired_len p
  obtain ⟨d1, v1, dr, vr, rfl, rfl, r1, pr⟩ : ∃ d1 v1 dr vr, ds = d1 :: dr ∧ vs = v1 :: vr ∧ TVn s.heap lvN d1 v1 ∧ Paired (TVn s.heap lvN) dr vr := by
    cases p with
    | nil => simp at h2
    | cons r t => exact ⟨_, _, _, _, rfl, rfl, r, t⟩
  have m1 : d1 ∈ d1 :: dr := List.mem_cons_self
  cases e1 : d1.vw with
  | low => unfold TVn at r1; simp only [e1] at r1
  | num i =>
    refine ⟨oneType', fun Q E h => PySem.W.kas_kind (T := .type "int") h2 (fun v hv => ?_) (by decide +kernel) (by decide +kernel) h, fun hx hy q r => ?_⟩
    · obtain ⟨d, hd, q⟩ := paired_memR (.cons r1 pr) hv
      obtain ⟨j, ej⟩ := cok_num e1 (c d1 m1 d hd)
      exact looks_num q ej
    · exact tv_one q r (c _ hx _ hy) (by show A.units + 9 < cLine; omega) ⟨rfl, rfl⟩
  | seq x1 =>
    have hseq : ∀ d ∈ d1 :: dr, ∃ xs, d.vw = .seq xs ∧ cokL (cokN 8) x1 xs = true := fun d hd => cok_seq e1 (c d1 m1 d hd)
    obtain ⟨fs, hf, hm, hk⟩ := firsts_tv (M := model prog w) (A := A) (n := 8) (E := fun _ _ => False) (.cons r1 pr) fun d hd => by obtain ⟨xs, e, _⟩ := hseq d hd; exact ⟨xs, e⟩
    have hfl := paired_len hf
    by_cases hall : (fs.toArray.all fun x => x.isSome) = true
    · obtain ⟨gs, rfl⟩ := all_some hall
      have kt := hk gs rfl
      have hgl : gs.length = (d1 :: dr).length := by rw [hfl]; simp
      obtain ⟨g1, gr, rfl⟩ : ∃ g1 gr, gs = g1 :: gr := by
        cases gs with
        | nil => simp at hgl
        | cons a b => exact ⟨a, b, rfl⟩
      -- the first of the first one
      have hf0 := hf
      rw [List.map_cons] at hf
      cases hf with
      | cons f1 fr =>
        obtain ⟨xs, ex, hx⟩ := f1
        rw [e1] at ex
        cases ex
        cases x1 with
        | nil => exact hx.elim
        | cons z1 zr =>
          have hx : TVn s.heap 8 z1 g1 := hx
          -- all the others begin alike
          have hg : ∀ g ∈ g1 :: gr, ∃ d ∈ d1 :: dr, ∃ z l, d.vw = .seq (z :: l) ∧ TVn s.heap 8 z g ∧ cokN 8 z1 z = true := fun g hgm => by
            obtain ⟨d, hd, xs, ed, hq⟩ := paired_memR hf0 (List.mem_map.mpr ⟨g, hgm, rfl⟩)
            obtain ⟨ys, ey, cy⟩ := hseq d hd
            rw [ed] at ey
            cases ey
            cases xs with
            | nil => exact hq.elim
            | cons z l =>
              simp only [cokL, Bool.and_eq_true] at cy
              exact ⟨d, hd, z, l, ed, hq, cy.1⟩
          have hgd : ∀ d ∈ d1 :: dr, ∃ z l, d.vw = .seq (z :: l) ∧ cokN 8 z1 z = true := fun d hd => by
            obtain ⟨ys, ey, cy⟩ := hseq d hd
            have key : ∀ {l : List D} {m : List (Option Value)}, Paired (FR s.heap 8) l m → (∀ f ∈ m, ∃ g, f = some g) → ∀ d ∈ l, ∃ z k, d.vw = .seq (z :: k) := by
              intro l m pp
              induction pp with
              | nil => intro _ d hd; cases hd
              | @cons dd f l m rr tt ih =>
                intro hm d hd
                rcases List.mem_cons.mp hd with e | hd
                · subst e
                  obtain ⟨g, rfl⟩ := hm f List.mem_cons_self
                  obtain ⟨xs, ed, hq⟩ := rr
                  cases xs with
                  | nil => exact hq.elim
                  | cons z k => exact ⟨z, k, ed⟩
                · exact ih (fun f hf => hm f (List.mem_cons_of_mem _ hf)) d hd
            obtain ⟨z, l, ez⟩ := key hf0 (fun f hf => by obtain ⟨g, _, e⟩ := List.mem_map.mp hf; exact ⟨g, e.symm⟩) d hd
            rw [ez] at ey
            cases ey
            simp only [cokL, Bool.and_eq_true] at cy
            exact ⟨z, l, ez, cy.1⟩
          have fin : ∀ (b : Bool), (b = true → ∃ k, z1.vw = .num k) → ∀ {x y : D} {v u : Value}, x ∈ d1 :: dr → y ∈ d1 :: dr → TVn s.heap lvN x v → TVn s.heap lvN y u → wpAny (model prog w) A (keyLt' (tuples' b) v u) (fun r s' => s' = s ∧ r = D.lt x y) (fun _ _ => False) s := by
            intro b hb x y v u mx my q r
            obtain ⟨zx, lx, ex, cx⟩ := hgd x mx
            obtain ⟨zy, ly, ey, cy⟩ := hgd y my
            have cc := c x mx y my
            simp only [cokN, ex, ey] at cc
            unfold TVn at q r
            simp only [ex] at q
            simp only [ey] at r
            obtain ⟨a, us, rfl, ⟨o, ho, hc, k, hd⟩, px⟩ := q
            obtain ⟨a', us', rfl, ⟨o', ho', hc', k', hd'⟩, py⟩ := r
            have el : D.lt x y = (lexO (cmpN 8) (zx :: lx) (zy :: ly) == .lt) := by
              show (cmpN 9 x y == .lt) = _
              simp only [cmpN, ex, ey, cmpW]
            rw [el]
            refine PySem.W.kat_lt ho hd ho' hd' ?_
            have z := tv_lex (prog := prog) (w := w) (A := A) (s := s) (b := b) 8 (xs0 := zx :: lx) (ys0 := zy :: ly) _ _ us us' 0 px py cc (by omega) (fun hbt _ x' l' y' m' e e' => by
              cases e
              cases e'
              obtain ⟨kk, hz⟩ := hb hbt
              exact ⟨cok_num hz cx, cok_num hz cy⟩) rfl
            simpa using z
          cases ez : z1.vw with
          | low => unfold TVn at hx; simp only [ez] at hx
          | num k =>
            refine ⟨tuples' (Value.type "int" != Value.type "tuple"), fun Q E h => PySem.W.kat_kind (T := .type "int") kt (by simp) (fun g hgm => ?_) (by decide +kernel) h, fun hx hy q r => fin _ (fun _ => ⟨k, ez⟩) hx hy q r⟩
            obtain ⟨d, _, z, l, _, hq, cz⟩ := hg g hgm
            obtain ⟨j, ej⟩ := cok_num ez cz
            exact looks_num hq ej
          | seq k =>
            refine ⟨tuples' (Value.type "tuple" != Value.type "tuple"), fun Q E h => PySem.W.kat_kind (T := .type "tuple") kt (by simp) (fun g hgm => ?_) (by decide +kernel) h, fun hx hy q r => fin _ (fun hb => absurd hb (by decide +kernel)) hx hy q r⟩
            obtain ⟨d, _, z, l, _, hq, cz⟩ := hg g hgm
            obtain ⟨j, ej, _⟩ := cok_seq ez cz
            exact looks_seq hq ej
    · have hkind : ∃ κ, (κ = general' ∨ κ = oneType') ∧ ∀ (Q : SortKind → Shared → Prop) (E : Value → Shared → Prop), Q κ s → wpAny (model prog w) A (keyKind' (v1 :: vr).toArray) Q E s := by
        have hm' : ∀ (E : Value → Shared → Prop) (Q : List (Option Value) → Shared → Prop), Q fs s → wpAny (model prog w) A ((v1 :: vr).mapM firstOfTuple') Q E s := fun E Q h => wpAny_mono (hm Q h) (fun _ _ x => x) fun _ _ x => x.elim
        by_cases hfirst : ((fs.toArray)[0]?.bind id).isSome = true
        · refine ⟨general', .inl rfl, fun Q E h => ?_⟩
          rw [kat_kind_eq, List.mapM_toArray, map_eq_pure_bind]
          refine wpAny_bind (wpAny_bind (hm' E _ (wpAny_pure ?_)))
          rw [if_neg hall, if_pos hfirst]
          exact wpAny_pure h
        · refine ⟨oneType', .inr rfl, fun Q E h => ?_⟩
          rw [kat_kind_eq, List.mapM_toArray, map_eq_pure_bind]
          refine wpAny_bind (wpAny_bind (hm' E _ (wpAny_pure ?_)))
          rw [if_neg hall, if_neg hfirst]
          rw [oneTypeOnly'_eq, List.mapM_toArray, map_eq_pure_bind]
          refine wpAny_bind (wpAny_bind (wpAny_bind (PySem.W.kas_mapM (r := Value.type "tuple") _ (fun v hv Q' hq => ?_) (wpAny_pure ?_))))
          · obtain ⟨d, hd, q⟩ := paired_memR (.cons r1 pr) hv
            obtain ⟨ys, ey, _⟩ := hseq d hd
            exact (looks_seq q ey).here hq
          · have hall2 : ((List.map (fun _ => Value.type "tuple") (v1 :: vr)).toArray.all fun x => x == Value.type "tuple") = true := by
              simp only [List.all_toArray, List.all_map, List.all_eq_true]
              intro _ _
              rfl
            have h0 : (List.map (fun _ => Value.type "tuple") (v1 :: vr)).toArray[0]? = some (Value.type "tuple") := by simp
            rw [h0]
            simp only [hall2, if_true]
            exact wpAny_pure (wpAny_pure h)
      obtain ⟨κ, hκ, hq⟩ := hkind
      refine ⟨κ, hq, fun hx hy q r => ?_⟩
      rcases hκ with rfl | rfl
      · exact tv_gen (Q := fun r s' => s' = s ∧ r = D.lt _ _) q r (c _ hx _ hy) (by show A.units + 9 < cLine; omega) ⟨rfl, rfl⟩
      · exact tv_one (Q := fun r s' => s' = s ∧ r = D.lt _ _) q r (c _ hx _ hy) (by show A.units + 9 < cLine; omega) ⟨rfl, rfl⟩
end
end TB
namespace TB
open PySem PySem.Spec PyProof.Rows L2 Srt SrtO

section
variable {X : Cx} {O : Addr → Prop} {ρ : List Addr} {H : Hp}
theorem reps_tv {pins : List (Addr × Obj)} {σ : L2.St} {s : Shared} (I : Inv X pins σ H s) : ∀ (n : Nat) {d : D} {x : V} {v : Value}, plN n d = true → Rep (Zx.of X) O ρ H d x → RelV x v → TVn s.heap n d v
  | 0, _, _, _, h, _, _ => by simp [plN] at h
  | n + 1, d, x, v, h, r, rv => by
    simp only [plN] at h
    unfold TVn
    cases e : d.vw with
    | low => simp [e] at h
    | num i =>
      simp only [e]
      have e' := vw_num e
      subst e'
      cases r
      exact rv
    | seq xs =>
      simp only [e] at h ⊢
      have e' := vw_seq e
      subst e'
      obtain ⟨a, vs, rfl, ha, _, rs⟩ := r.tupE
      obtain rfl : v = Value.ref a := rv
      obtain ⟨_, its, rv, o, ho, hc, n1, hd⟩ := I.hok a _ ha
      refine ⟨a, its, rfl, ⟨o, ho, hc, n1, hd⟩, ?_⟩
      have key : ∀ {ds : List D} {ys : List V} {us : List Value}, ds.all (plN n) = true → Reps (Zx.of X) O ρ H ds ys → Vals ys us → Paired (TVn s.heap n) ds us := by
        intro ds
        induction ds with
        | nil => intro ys us _ r v; cases r; cases v; exact .nil
        | cons d ds ih =>
          intro ys us h r v
          simp only [List.all_cons, Bool.and_eq_true] at h
          cases r with
          | cons q t => cases v with
            | cons q' t' => exact .cons (reps_tv I n h.1 q q') (ih h.2 t t')
      exact key h rs rv
theorem reps_tvs {pins : List (Addr × Obj)} {σ : L2.St} {s : Shared} (I : Inv X pins σ H s) {n : Nat} : ∀ {ds : List D} {ys : List V} {us : List Value}, ds.all (plN n) = true → Reps (Zx.of X) O ρ H ds ys → Vals ys us → Paired (TVn s.heap n) ds us
  | _, _, _, _, .nil, .nil => .nil
  | _, _, _, h, .cons q t, .cons q' t' => by
    simp only [List.all_cons, Bool.and_eq_true] at h
    exact .cons (reps_tv I n h.1 q q') (reps_tvs I h.2 t t')
theorem perm_reps {Z : Zx} : ∀ {its out : List Value}, its.Perm out → ∀ {ds : List D} {xs : List V}, Reps Z O ρ H ds xs → Vals xs its → ∃ ds' xs', ds.Perm ds' ∧ Reps Z O ρ H ds' xs' ∧ Vals xs' out := by
  intro its out p
  induction p with
  | nil => intro ds xs r v; cases v; cases r; exact ⟨[], [], List.Perm.refl _, .nil, .nil⟩
  | cons x p ih =>
    intro ds xs r v
    cases v with
    | cons q t => cases r with
      | cons q' t' =>
        obtain ⟨ds', xs', h1, h2, h3⟩ := ih t' t
        exact ⟨_, _, h1.cons _, .cons q' h2, .cons q h3⟩
  | swap x y l =>
    intro ds xs r v
    cases v with
    | cons q t => cases r with
      | cons q' t' => cases t with
        | cons q2 t2 => cases t' with
          | cons q2' t2' => exact ⟨_, _, List.Perm.swap _ _ _, .cons q2' (.cons q' t2'), .cons q2 (.cons q t2)⟩
  | trans p1 p2 ih1 ih2 =>
    intro ds xs r v
    obtain ⟨ds1, xs1, h1, h2, h3⟩ := ih1 r v
    obtain ⟨ds2, xs2, g1, g2, g3⟩ := ih2 h2 h3
    exact ⟨ds2, xs2, h1.trans g1, g2, g3⟩
theorem srtd_back {h : Heap} {ds : List D} {vs : List Value} (p : Paired (TVn h lvN) ds vs) (s : Srtd (fun v u => D.lt (dv h v) (dv h u)) vs) : Srtd D.lt ds := by
  have l := paired_len p
  rw [Srtd, List.pairwise_iff_getElem] at s ⊢
  intro i j hi hj hij
  have q := s i j (by omega) (by omega) hij
  rw [dv_eq (paired_at p i hi (by omega)), dv_eq (paired_at p j hj (by omega))] at q
  exact q
theorem tv_sortable {prog : Program} {w : World} {A : Around} {s : Shared} {h₁ : Heap} {a : Addr} {ds : List D} {vs : List Value} (h2 : 2 ≤ vs.length) (p : Paired (TVn s.heap lvN) ds vs) (c : ∀ x ∈ ds, ∀ y ∈ ds, cokN lvN x y = true) (hu : A.units + 12 < cLine)
    (k : ∀ b o, s.heap.get? b = some o → b ≠ a ∧ h₁.get? b = some o) : SortableO prog w A { s with heap := h₁ } a vs fun v u => D.lt (dv s.heap v) (dv s.heap u) := by
  intro h' keep
  have kk : ∀ b o, s.heap.get? b = some o → o.cls = .type "tuple" → h'.get? b = some o := fun b o e _ => keep b o (k b o e).1 (k b o e).2
  have p' : Paired (TVn h' lvN) ds vs := paired_imp (fun _ _ _ _ q => q.keep kk) p
  obtain ⟨κ, h3, h4⟩ := tv_kind (prog := prog) (w := w) (A := A) (s := { s with heap := h' }) h2 p' c hu
  refine ⟨κ, h3, fun x y hx hy => ?_⟩
  obtain ⟨d, hd, q⟩ := paired_memR p hx
  obtain ⟨e, he, r⟩ := paired_memR p hy
  have z := h4 hd he (q.keep kk) (r.keep kk)
  show wpAny _ _ _ (fun r s' => s' = _ ∧ r = D.lt (dv s.heap x.1) (dv s.heap y.1)) _ _
  rw [dv_eq q, dv_eq r]
  exact z

/-! ### sorted -/
def okSort (ds : List D) : Bool := ds.all (plN lvN) && ds.all fun x => ds.all (cokN lvN x)
theorem okSort_at {ds : List D} (h : okSort ds = true) : ds.all (plN lvN) = true ∧ ∀ x ∈ ds, ∀ y ∈ ds, cokN lvN x y = true := by
  simp only [okSort, Bool.and_eq_true] at h
  exact ⟨h.1, fun x hx y hy => (List.all_eq_true.mp ((List.all_eq_true.mp h.2) x hx)) y hy⟩
def rSortL (Z : Zx) : List V → Hp → VK → Prop := fun vs H Q => ∃ O ρ a xs ds, vs = [V.ref a] ∧ SqL Z.K H a xs ∧ Reps Z O ρ H ds xs ∧ okSort ds = true ∧
  ∀ (p : Addr) (ys : List V), H p = none → Reps Z O ρ H (sortD ds) ys → Q (.ref p) (upd H p (.lst ys))
theorem sort_out {pins : List (Addr × Obj)} {σ : L2.St} {s : Shared} {ds : List D} {xs : List V} {its out : List Value} (I : Inv X pins σ H s) (r : Reps (Zx.of X) O ρ H ds xs) (rv : Vals xs its) (ok : okSort ds = true)
    (h1 : Srtd (fun v u => D.lt (dv s.heap v) (dv s.heap u)) out) (h2 : Stb (fun v u => D.lt (dv s.heap v) (dv s.heap u)) out its) : ∃ ys, Reps (Zx.of X) O ρ H (sortD ds) ys ∧ Vals ys out := by
  obtain ⟨ds', ys, g1, g2, g3⟩ := perm_reps h2.perm.symm r rv
  obtain ⟨pl, _⟩ := okSort_at ok
  have pl' : ds'.all (plN lvN) = true := List.all_eq_true.mpr fun x hx => List.all_eq_true.mp pl x (g1.mem_iff.mpr hx)
  have e := sortD_uniq (fun x hx => List.all_eq_true.mp pl x hx) (srtd_back (reps_tvs I pl' g2 g3) h1) g1.symm
  rw [e] at g2
  exact ⟨ys, g2, g3⟩
theorem cr_sortL (hu : X.A.units + 14 < cLine) : CallR X (.builtin "sorted") (rSortL (Zx.of X)) := by
  intro pins s σ H vs us Q I r h
  obtain ⟨O, ρ, a, xs, ds, rfl, hs, rd, ok, q⟩ := h
  obtain ⟨its, rv, hl, hz⟩ := I.list hs
  rw [Vals.ref1 r]
  obtain ⟨pl, co⟩ := okSort_at ok
  have p := reps_tvs I pl rd rv
  refine sorted_ord (dv_swo s.heap) hl.isList (by rw [← rv.length]; exact hz) (fun h2 h₁ a' _ kk => tv_sortable h2 p co (by show X.A.units + 1 + 1 + 12 < cLine; omega) kk) fun out h1 h2 => ?_
  obtain ⟨ys, ry, vy⟩ := sort_out I rd rv ok h1 h2
  obtain ⟨ep, he'⟩ := PyProof.Rows.sortedAll_at s.heap its out.toArray
  have hlen : ys.length ≤ sizeLine := by
    rw [vy.length, h2.len, ← rv.length]
    exact hz
  exact ⟨.ref _, upd H (s.heap.objs.size + 1) (.lst ys), I.laid (t' := s.toks) (fun _ _ => PyProof.Rows.sortedAll_old) (Nat.le_succ _) ⟨hlen, out, ep, vy, he'⟩, rfl, q _ _ (I.hok.fresh (Nat.le_succ _)) ry⟩

/-! ### any dict, as its entries -/
theorem DC.raw {pins : List (Addr × Obj)} {σ : L2.St} {s : Shared} {a : Addr} {ks us : List D} (c : DC (Zx.of X) O ρ H a ks us) (I : Inv X pins σ H s) :
    ∃ (es : Array DictEntry) (ep : Nat) (kx ux : List V), (a == sysModules) = false ∧ s.heap.DictRaw a es ep ∧ es.size ≤ sizeLine ∧ Reps (Zx.of X) O ρ H ks kx ∧ Vals kx (es.toList.map (·.key)) ∧ Reps (Zx.of X) O ρ H us ux ∧ Vals ux (es.toList.map (·.val)) := by
  cases c with
  | k l h1 h2 h3 =>
    obtain ⟨z, lo, vs, rel, dd⟩ := dk_rd I.hok h1
    obtain ⟨es, ep, raw, hsz, hat⟩ := dd.raw
    have ek : (l.map fun p => kV p.1) = vs.map fun p => kV p.1 := by
      have e := congrArg (List.map kV) rel.keys
      rw [List.map_map, List.map_map] at e
      exact e
    have kvs : ∀ {l : List (Key × V)} {vs : List (Key × Value)}, KV l vs → Vals (l.map (·.2)) (vs.map (·.2)) := by
      intro l vs r
      unfold KV at r
      induction r with
      | nil => exact .nil
      | cons r t ih => exact .cons r.2 ih
    refine ⟨es, ep, _, _, lo, raw, by rw [hsz, ← rel.length]; exact z, h2, ?_, h3, ?_⟩
    · rw [ek]
      refine L2.keys_at (by rw [List.length_map, Array.length_toList, hsz]) fun j v e => ?_
      rw [List.getElem?_map] at e
      cases ej : es.toList[j]? with
      | none => rw [ej] at e; cases e
      | some en =>
        rw [ej] at e
        cases e
        have hj : j < es.size := by
          have := (List.getElem?_eq_some_iff.mp ej).1
          rwa [Array.length_toList] at this
        have hj2 : j < vs.length := by omega
        have z := hat j hj vs[j].1 vs[j].2 (List.getElem?_eq_getElem hj2)
        have e2 : es[j] = en := by
          have e3 := ej
          rw [Array.getElem?_toList, Array.getElem?_eq_getElem hj] at e3
          exact Option.some.inj e3
        rw [e2] at z
        exact ⟨_, _, List.getElem?_eq_getElem hj2, z.1⟩
    · have e : es.toList.map (·.val) = vs.map (·.2) := by
        refine List.ext_getElem (by rw [List.length_map, List.length_map, Array.length_toList, hsz]) fun j k1 k2 => ?_
        rw [List.length_map, Array.length_toList] at k1
        have hj2 : j < vs.length := by omega
        have z := hat j k1 vs[j].1 vs[j].2 (List.getElem?_eq_getElem hj2)
        simpa using z.2
      rw [e]
      exact kvs rel
  | t bs vs h1 h2 h3 h4 =>
    obtain ⟨⟨z, hs, xs, e1, e2, rv, o, es, ep, ho, hx, hd, he, nd⟩, _, _⟩ := h1.ok I.hok
    have hsz : es.size = xs.length := by rw [← Array.length_toList, he, List.length_map]
    refine ⟨es, ep, _, _, hs, ⟨o, ho, hx, hd⟩, by rw [hsz]; rw [← e1, List.length_map] at z; exact z, h3, ?_, h4, ?_⟩
    · have e : es.toList.map (·.key) = bs.map Value.ref := by
        rw [he, ← e2, List.map_map, List.map_map]
        rfl
      rw [e]
      have key : ∀ bs : List Addr, Vals (bs.map V.ref) (bs.map Value.ref) := by
        intro bs
        induction bs with
        | nil => exact .nil
        | cons b bs ih => exact .cons rfl ih
      exact key bs
    · have e : es.toList.map (·.val) = xs.map (·.2.2) := by
        rw [he, List.map_map]
        rfl
      rw [e]
      exact rv
end

/-! ### a dict's keys in a row -/
theorem kdl_raw {prog : Program} {w : World} {d : Addr} {es : Array DictEntry} {ep : Nat} (lo : (d == sysModules) = false) : PySem.W.KdlSrc prog w "dict" d d es.size (fun i v => ∃ hi : i < es.size, v = es[i].key) (fun h => h.DictRaw d es ep) where
  type := fun _ hm => hm.typeIs
  there := fun _ hm => let ⟨o, ho, _⟩ := hm; ⟨Heap.lt_size ho, Heap.lt_size ho⟩
  keep := fun _ _ hm hk => hm.at fun o e => hk d (.inl rfl) o e
  notList := by decide
  notTuple := by decide
  hint := fun _ _ _ _ hm hq => PySem.W.kdl_hint_dict hm.typeIs hq
  iter := fun _ s hh hm => ⟨_, _, (fun _ _ hq => wpAny_pyIter_dict_raw lo hm hq), Walks.rawKeys hh _ d (by obtain ⟨o, ho, _⟩ := hm; exact Nat.ne_of_lt (Heap.lt_size ho)) es ep, ⟨⟨_, Heap.get?_push_size _ rfl, rfl, rfl⟩, hm.at fun o e => Heap.get?_push_of_some _ e⟩⟩
theorem items_keys {es : Array DictEntry} {acc : Array Value} (h : ItemsOf (fun i v => ∃ hi : i < es.size, v = es[i].key) acc es.size) : acc.toList = es.toList.map (·.key) := by
  refine List.ext_getElem? fun j => ?_
  rw [List.getElem?_map]
  by_cases hj : j < es.size
  · have hj2 : j < acc.size := by rw [h.1]; exact hj
    obtain ⟨_, e⟩ := h.2 j acc[j] (Array.getElem?_eq_getElem hj2)
    rw [Array.getElem?_toList, Array.getElem?_eq_getElem hj2, Array.getElem?_toList, Array.getElem?_eq_getElem hj, e]
    rfl
  · rw [List.getElem?_eq_none (by rw [Array.length_toList, h.1]; omega), List.getElem?_eq_none (by rw [Array.length_toList]; omega)]
    rfl
section
variable {X : Cx}
def rSortDc (Z : Zx) : List V → Hp → VK → Prop := fun vs H Q => ∃ O ρ a ks us, vs = [V.ref a] ∧ DC Z O ρ H a ks us ∧ okSort ks = true ∧
  ∀ (p : Addr) (ys : List V), H p = none → Reps Z O ρ H (sortD ks) ys → Q (.ref p) (upd H p (.lst ys))
/-- sorted(d) -/
theorem cr_sortDc (hc : X.calm = true) (hu : X.A.units + 14 < cLine) : CallR X (.builtin "sorted") (rSortDc (Zx.of X)) := by
  intro pins s σ H vs us Q I r h
  obtain ⟨O, ρ, a, ks, ds, rfl, c, ok, q⟩ := h
  rw [Vals.ref1 r]
  obtain ⟨es, ep, kx, ux, lo, raw, hz, rk, vk, _, _⟩ := c.raw I
  obtain ⟨pl, co⟩ := okSort_at ok
  refine Calls.call_function_entry PyProof.Rows.kind_sorted PyProof.Rows.plain_sorted PyProof.Rows.entry_sorted (PyProof.Rows.args_sorted1 _) ?_
  unfold Builtin.«sorted»
  refine wpAny_bind (m := checkCount "sorted" 1 1 _) (wpAny_pure ?_)
  refine wpAny_bind (PySem.W.kdu_collect (A := X.A.in1) (kdl_raw (ep := ep) lo) (I.ok.hd hc) raw hz fun h' tk acc hk hacc => ?_)
  rw [items_keys hacc]
  have hl : (es.toList.map (·.key)).length ≤ sizeLine := by rw [List.length_map, Array.length_toList]; exact hz
  have I1 : Inv X pins σ H { s with heap := h', toks := tk } := I.kept hk
  refine wpAny_bind (wpAny_newList ?_ hl)
  have hoL : (h'.push (seqObj "list" (es.toList.map (·.key)).toArray 0)).get? h'.objs.size = some (seqObj "list" (es.toList.map (·.key)).toArray 0) := Heap.get?_push_size _ rfl
  show wpAny _ _ _ _ _ { s with heap := h'.push (seqObj "list" (es.toList.map (·.key)).toArray 0), toks := tk }
  have p := reps_tvs I1 pl rk vk
  refine wpAny_bind (wpAny_holding (wpAny_call_entry PyProof.Rows.slot_list_sort ⟨_, hoL, rfl⟩ PyProof.Rows.entry_list_sort
    (list_sort_ord (s := { s with heap := h'.push (seqObj "list" (es.toList.map (·.key)).toArray 0), toks := tk }) (dv_swo h') hoL hl (fun h2 => ?_) fun out h1 h2 => ⟨_, rfl, ?_⟩) (PyProof.Rows.args_list_sort _)))
  · exact tv_sortable (s := { s with heap := h', toks := tk }) h2 p co (by show X.A.units + 1 + 1 + 12 < cLine; omega) fun b o e => ⟨Nat.ne_of_lt (Heap.lt_size e), Heap.get?_push_of_some _ e⟩
  · obtain ⟨ys, ry, vy⟩ := sort_out I1 rk vk ok h1 h2
    obtain ⟨e', he'⟩ := PyProof.Rows.sortedHeap_at (vs := es.toList.map (·.key)) (out := out.toArray) hoL
    have hlen : ys.length ≤ sizeLine := by rw [vy.length, h2.len]; exact hl
    refine wpAny_pure ⟨_, rfl, .ref h'.objs.size, upd H h'.objs.size (.lst ys), I1.laid (t' := tk) (fun b u e => ?_) (Nat.le_refl _) ⟨hlen, out, e', vy, he'⟩, rfl, q _ _ (I1.hok.fresh (Nat.le_refl _)) ry⟩
    have hb : b < h'.objs.size := Heap.lt_size e
    rw [PyProof.Rows.sortedHeap_old (Nat.ne_of_lt hb) (by rw [size_push']; exact Nat.lt_succ_of_lt hb)]
    exact Heap.get?_push_of_some _ e
def rListDc (Z : Zx) : List V → Hp → VK → Prop := fun vs H Q => ∃ O ρ a ks us, vs = [V.ref a] ∧ DC Z O ρ H a ks us ∧
  ∀ (p : Addr) (ys : List V), H p = none → Reps Z O ρ H ks ys → Q (.ref p) (upd H p (.lst ys))
/-- list(d) -/
theorem cr_listDc (hc : X.calm = true) : CallR X (.type "list") (rListDc (Zx.of X)) := by
  intro pins s σ H vs us Q I r h
  obtain ⟨O, ρ, a, ks, ds, rfl, c, q⟩ := h
  rw [Vals.ref1 r]
  obtain ⟨es, ep, kx, ux, lo, raw, hz, rk, vk, _, _⟩ := c.raw I
  refine PySem.W.kdl_call (kdl_raw (ep := ep) lo) (I.ok.hd hc) raw hz fun h' tk acc c' hk hD hacc => ?_
  have e := items_keys hacc
  refine ⟨.ref s.heap.objs.size, upd H s.heap.objs.size (.lst kx), I.laid (t' := tk) hk (Nat.le_refl _) ⟨?_, acc.toList, c', by rw [e]; exact vk, by rw [Array.toArray_toList]; exact hD⟩, rfl, q _ _ (I.hok.fresh (Nat.le_refl _)) rk⟩
  rw [vk.length, List.length_map, Array.length_toList]
  exact hz

/-! ### .. as functions -/
def sortS (h : Hs) (ds : List D) : Option D := match ds with
  | [d] => (match viewL h d with
    | some xs => if okSort xs then some (.lst (sortD xs)) else none
    | none => match viewD h d with
      | some (ks, _) => if okSort ks then some (.lst (sortD ks)) else none
      | none => none)
  | _ => none
theorem sortS_ok : FnR X (fun xs H Q => rSortL (Zx.of X) xs H Q ∨ rSortDc (Zx.of X) xs H Q) sortS := by
  intro O ρ h H ds d vs Q bh R rs e k
  unfold sortS at e
  split at e
  · rename_i d1
    obtain ⟨v, rfl, rv⟩ := rs.one
    split at e
    · rename_i xs e1
      split at e
      · rename_i ok
        cases e
        obtain ⟨p, us, rfl, hq, ru⟩ := viewL_rep R e1 rv
        refine .inl ⟨O, ρ, p, us, xs, rfl, SqL.of hq, ru, ok, fun p ys hp ry => ?_⟩
        exact k _ _ (fresh_mv hp) (R.fresh hp) (new_lst R hp ry)
      · cases e
    · split at e
      · rename_i ks us e1
        split at e
        · rename_i ok
          cases e
          obtain ⟨a, rfl, c⟩ := viewD_rep R e1 rv
          refine .inr ⟨O, ρ, a, ks, us, rfl, c, ok, fun p ys hp ry => ?_⟩
          exact k _ _ (fresh_mv hp) (R.fresh hp) (new_lst R hp ry)
        · cases e
      · cases e
  · cases e
theorem CallR.or {f : Value} {r r' : List V → Hp → VK → Prop} (h : CallR X f r) (h' : CallR X f r') : CallR X f fun xs H Q => r xs H Q ∨ r' xs H Q := by
  intro pins s σ H vs us Q I rv q
  exact q.elim (fun q => h pins s σ H vs us Q I rv q) fun q => h' pins s σ H vs us Q I rv q
theorem cr_sort (hc : X.calm = true) (hu : X.A.units + 14 < cLine) : CallR X (.builtin "sorted") (fun xs H Q => rSortL (Zx.of X) xs H Q ∨ rSortDc (Zx.of X) xs H Q) := CallR.or (cr_sortL hu) (cr_sortDc hc hu)
end
end TB
namespace TB
open PySem PySem.Spec PyProof.Rows L2
section
variable {X : Cx} {a b c e f : Expr} {es : List Expr} {pos apos cpos : Pos} {fa fb fc fo : EF} {fr : AF}

/-! ### methods of lists -/
abbrev MOp := Hs → D → List D → Option (D × Hs)
def MtOk (X : Cx) (r : V → List V → Hp → VK → Prop) (op : MOp) : Prop := ∀ (O : Addr → Prop) (ρ : List Addr) (h h' : Hs) (H : Hp) (o d : D) (ds : List D) (x : V) (vs : List V) (Q : VK), BH X.K H → Rl (Zx.of X) O ρ h H → Rep (Zx.of X) O ρ H o x → Reps (Zx.of X) O ρ H ds vs → op h o ds = some (d, h') →
  (∀ v H', Mv ρ H ρ H' → Rl (Zx.of X) O ρ h' H' → Rep (Zx.of X) O ρ H' d v → Q v H') → r x vs H Q
/-- o.m(e, ..), o a list -/
def eMeth (fo : EF) (fr : AF) (op : MOp) : EF := fun σ h => match fo σ h with
  | none => none
  | some (o, h1) => match viewL h1 o with
    | none => none
    | some _ => match fr σ h1 with
      | none => none
      | some (ds, h2) => op h2 o ds
def eMeth0 (fo : EF) (op : MOp) : EF := fun σ h => match fo σ h with
  | none => none
  | some (o, h1) => match viewL h1 o with
    | none => none
    | some _ => op h1 o []
theorem s_meth {name : Str} {id : String} {r : V → List V → Hp → VK → Prop} {op : MOp} (slot : Slot "list" name id) (hty : typeOf (.builtin id) = pure (.type "method_descriptor")) (hm : MtR X id r) (hop : MtOk X r op) (ho : SE X a fo) (ha : SA X (e :: es) fr)
    (hbase : attributeBase a name X.env (eval a X.env) = eval a X.env := by rfl)
    (hfew : ((backTo cpos (starEach (e :: es) X.env)).all (fun x => !x.1) && (backToKw cpos (keywordEach [] X.env)).all (fun x => x.1.isSome)
      && decide ((e :: es).length + ([] : List Keyword).length + (if ([] : List Keyword).isEmpty then 0 else 1) < 30)) = true := by rfl)
    (hline : (apos.endLine == cpos.line) = true := by rfl) (hs : starEach (e :: es) X.env = (false, eval e X.env) :: starEach es X.env := by rfl) (hplain : (backTo cpos (starEach es X.env)).any (·.1) = false := by rfl) :
    SE X (.Call (.Attribute a name apos) (e :: es) [] cpos) (eMeth fo fr op) := imE (pe_bm F.plainAttrs_list slot hty hm ho ha hbase hfew hline hs hplain) fun τ H Q b0 q => by
  obtain ⟨O, ρ, σ, h, d, h', R, e, k⟩ := q b0
  unfold eMeth at e
  split at e
  · cases e
  · rename_i o h1 ea
    split at e
    · cases e
    · rename_i xs0 ev
      split at e
      · cases e
      · rename_i ds h2 er
        refine one R ea fun x ρ1 H1 b1 m1 r1 p1 => ?_
        obtain ⟨p, us, rfl, hq, ru⟩ := viewL_rep r1 ev p1
        refine ⟨.inl ⟨rfl, us, SqL.of hq⟩, aone (R.mv m1 r1) er fun vs ρ2 H2 b2 m2 r2 p2 => ?_⟩
        exact hop O ρ2 h2 h' H2 o d ds _ vs _ b2 r2 (p1.mv m2) p2 e fun v H3 m3 r3 p3 b3 => k v ρ2 H3 b3 (Rw.tr m1 r1 (Rw.tr m2 r2 m3)) r3 p3
theorem s_meth0 {name : Str} {id : String} {r : V → List V → Hp → VK → Prop} {op : MOp} (slot : Slot "list" name id) (hty : typeOf (.builtin id) = pure (.type "method_descriptor")) (hm : MtR X id r) (hop : MtOk X r op) (ho : SE X a fo)
    (hbase : attributeBase a name X.env (eval a X.env) = eval a X.env := by rfl) (hline : (apos.endLine == cpos.line) = true := by rfl) : SE X (.Call (.Attribute a name apos) [] [] cpos) (eMeth0 fo op) := imE (pe_bm0 F.plainAttrs_list slot hty hm ho hbase hline) fun τ H Q b0 q => by
  obtain ⟨O, ρ, σ, h, d, h', R, e, k⟩ := q b0
  unfold eMeth0 at e
  split at e
  · cases e
  · rename_i o h1 ea
    split at e
    · cases e
    · rename_i xs0 ev
      refine one R ea fun x ρ1 H1 b1 m1 r1 p1 => ?_
      obtain ⟨p, us, rfl, hq, ru⟩ := viewL_rep r1 ev p1
      refine ⟨.inl ⟨rfl, us, SqL.of hq⟩, ?_⟩
      exact hop O ρ1 h1 h' H1 o d [] _ [] _ b1 r1 p1 .nil e fun v H3 m3 r3 p3 b3 => k v ρ1 H3 b3 (Rw.tr m1 r1 m3) r3 p3
def appM : MOp := fun h o ds => match o, ds with
  | .ref n, [x] => (match h[n]? with
    | some (.lst xs) => if xs.length < szL then some (.non, h.set n (.lst (xs ++ [x]))) else none
    | _ => none)
  | _, _ => none
theorem appM_ok : MtOk X rAppend appM := by
  intro O ρ h h' H o d ds x vs Q bh R ro rs e k
  unfold appM at e
  split at e
  · rename_i n y
    split at e
    · rename_i xs hx
      split at e
      · rename_i hz
        cases e
        obtain ⟨a, rfl, hn⟩ := ro.refE
        obtain ⟨ob, ho, rob⟩ := R.ob hn
        rw [hx] at ho; cases ho
        obtain ⟨us, hv, ru⟩ := rob
        obtain ⟨w, rfl, rw'⟩ := rs.one
        have m := own_chg R hn (.lst (us ++ [w]))
        exact ⟨a, us, w, rfl, rfl, hv, by rw [← ru.length, ← szL_eq]; exact hz, k .non _ m (own_upd R hn ⟨_, upd_same, (ru.snoc rw').mv m⟩) .non⟩
      · cases e
    · cases e
  · cases e
def extM : MOp := fun h o ds => match o, ds with
  | .ref n, [x] => (match h[n]?, viewL h x with
    | some (.lst xs), some ys => if xs.length + ys.length ≤ szL then some (.non, h.set n (.lst (xs ++ ys))) else none
    | _, _ => none)
  | _, _ => none
theorem extM_ok : MtOk X rExtend extM := by
  intro O ρ h h' H o d ds x vs Q bh R ro rs e k
  unfold extM at e
  split at e
  · rename_i n y
    split at e
    · rename_i xs ys hx hy
      split at e
      · rename_i hz
        cases e
        obtain ⟨a, rfl, hn⟩ := ro.refE
        obtain ⟨ob, ho, rob⟩ := R.ob hn
        rw [hx] at ho; cases ho
        obtain ⟨us, hv, ru⟩ := rob
        obtain ⟨w, rfl, rw'⟩ := rs.one
        obtain ⟨p, ws, rfl, hq, rws⟩ := viewL_rep R hy rw'
        have m := own_chg R hn (.lst (us ++ ws))
        exact ⟨a, p, us, ws, rfl, rfl, hv, hq, by rw [← ru.length, ← rws.length, ← szL_eq]; exact hz, k .non _ m (own_upd R hn ⟨_, upd_same, (ru.append rws).mv m⟩) .non⟩
      · cases e
    · cases e
  · cases e
theorem Reps.dropLast {Z : Zx} {O : Addr → Prop} {ρ : List Addr} {H : Hp} {ds : List D} {vs : List V} (r : Reps Z O ρ H ds vs) : Reps Z O ρ H ds.dropLast vs.dropLast := by
  rw [List.dropLast_eq_take, List.dropLast_eq_take, r.length]
  exact r.take _
def popM : MOp := fun h o ds => match o, ds with
  | .ref n, [] => (match h[n]? with
    | some (.lst xs) => (match xs[xs.length - 1]? with | some y => some (y, h.set n (.lst xs.dropLast)) | none => none)
    | _ => none)
  | _, _ => none
theorem popM_ok : MtOk X rPop popM := by
  intro O ρ h h' H o d ds x vs Q bh R ro rs e k
  unfold popM at e
  split at e
  · rename_i n
    split at e
    · rename_i xs hx
      split at e
      · rename_i y hy
        cases e
        obtain ⟨a, rfl, hn⟩ := ro.refE
        obtain ⟨ob, ho, rob⟩ := R.ob hn
        rw [hx] at ho; cases ho
        obtain ⟨us, hv, ru⟩ := rob
        have evs := rs.nil_of
        subst evs
        obtain ⟨v, hvv, rv⟩ := ru.get hy
        have m := own_chg R hn (.lst us.dropLast)
        exact ⟨a, us, v, rfl, rfl, hv, by rw [← ru.length]; exact hvv, k v _ m (own_upd R hn ⟨_, upd_same, ru.dropLast.mv m⟩) (rv.mv m)⟩
      · cases e
    · cases e
  · cases e
theorem Reps.eraseIdx {Z : Zx} {O : Addr → Prop} {ρ : List Addr} {H : Hp} : ∀ {ds : List D} {vs : List V} (i : Nat), Reps Z O ρ H ds vs → Reps Z O ρ H (ds.eraseIdx i) (vs.eraseIdx i)
  | _, _, _, .nil => .nil
  | _, _, 0, .cons _ t => t
  | _, _, i + 1, .cons q t => .cons q (Reps.eraseIdx i t)
def popAtM : MOp := fun h o ds => match o, ds with
  | .ref n, [.int i] => (match h[n]? with
    | some (.lst xs) => (match seqIndex? i xs.length with
      | some j => (match xs[j]? with | some y => if -(2 ^ 63) ≤ i ∧ i < 2 ^ 63 then some (y, h.set n (.lst (xs.eraseIdx j))) else none | none => none)
      | none => none)
    | _ => none)
  | _, _ => none
theorem popAtM_ok : MtOk X rPopAt popAtM := by
  intro O ρ h h' H o d ds x vs Q bh R ro rs e k
  unfold popAtM at e
  split at e
  · rename_i n i
    split at e
    · rename_i xs hx
      split at e
      · rename_i j hj
        split at e
        · rename_i y hy
          split at e
          · rename_i hb
            cases e
            obtain ⟨a, rfl, hn⟩ := ro.refE
            obtain ⟨ob, ho, rob⟩ := R.ob hn
            rw [hx] at ho; cases ho
            obtain ⟨us, hv, ru⟩ := rob
            obtain ⟨w, rfl, rw'⟩ := rs.one
            have ew := rw'.intE
            subst ew
            obtain ⟨v, hvv, rv⟩ := ru.get hy
            have m := own_chg R hn (.lst (us.eraseIdx j))
            exact ⟨a, us, i, j, v, rfl, rfl, hv, hb.1, hb.2, by rw [← ru.length]; exact hj, hvv, k v _ m (own_upd R hn ⟨_, upd_same, (ru.eraseIdx j).mv m⟩) (rv.mv m)⟩
          · cases e
        · cases e
      · cases e
    · cases e
  · cases e
theorem s_append (ho : SE X a fo) (ha : SA X [e] fr) (hbase : attributeBase a "append" X.env (eval a X.env) = eval a X.env := by rfl)
    (hfew : ((backTo cpos (starEach [e] X.env)).all (fun x => !x.1) && (backToKw cpos (keywordEach [] X.env)).all (fun x => x.1.isSome) && decide ([e].length + ([] : List Keyword).length + (if ([] : List Keyword).isEmpty then 0 else 1) < 30)) = true := by rfl)
    (hline : (apos.endLine == cpos.line) = true := by rfl) (hs : starEach [e] X.env = (false, eval e X.env) :: starEach [] X.env := by rfl) (hplain : (backTo cpos (starEach [] X.env)).any (·.1) = false := by rfl) :
    SE X (.Call (.Attribute a "append" apos) [e] [] cpos) (eMeth fo fr appM) := s_meth F.slot_list_append F.type_list_append mt_append appM_ok ho ha hbase hfew hline hs hplain
theorem s_extend (ho : SE X a fo) (ha : SA X [e] fr) (hbase : attributeBase a "extend" X.env (eval a X.env) = eval a X.env := by rfl)
    (hfew : ((backTo cpos (starEach [e] X.env)).all (fun x => !x.1) && (backToKw cpos (keywordEach [] X.env)).all (fun x => x.1.isSome) && decide ([e].length + ([] : List Keyword).length + (if ([] : List Keyword).isEmpty then 0 else 1) < 30)) = true := by rfl)
    (hline : (apos.endLine == cpos.line) = true := by rfl) (hs : starEach [e] X.env = (false, eval e X.env) :: starEach [] X.env := by rfl) (hplain : (backTo cpos (starEach [] X.env)).any (·.1) = false := by rfl) :
    SE X (.Call (.Attribute a "extend" apos) [e] [] cpos) (eMeth fo fr extM) := s_meth F.slot_list_extend F.type_list_extend mt_extend extM_ok ho ha hbase hfew hline hs hplain
theorem s_pop (ho : SE X a fo) (hbase : attributeBase a "pop" X.env (eval a X.env) = eval a X.env := by rfl) (hline : (apos.endLine == cpos.line) = true := by rfl) :
    SE X (.Call (.Attribute a "pop" apos) [] [] cpos) (eMeth0 fo popM) := s_meth0 F.slot_list_pop F.type_list_pop mt_pop popM_ok ho hbase hline
theorem s_popAt (ho : SE X a fo) (ha : SA X [e] fr) (hbase : attributeBase a "pop" X.env (eval a X.env) = eval a X.env := by rfl)
    (hfew : ((backTo cpos (starEach [e] X.env)).all (fun x => !x.1) && (backToKw cpos (keywordEach [] X.env)).all (fun x => x.1.isSome) && decide ([e].length + ([] : List Keyword).length + (if ([] : List Keyword).isEmpty then 0 else 1) < 30)) = true := by rfl)
    (hline : (apos.endLine == cpos.line) = true := by rfl) (hs : starEach [e] X.env = (false, eval e X.env) :: starEach [] X.env := by rfl) (hplain : (backTo cpos (starEach [] X.env)).any (·.1) = false := by rfl) :
    SE X (.Call (.Attribute a "pop" apos) [e] [] cpos) (eMeth fo fr popAtM) := s_meth F.slot_list_pop F.type_list_pop mt_popAt popAtM_ok ho ha hbase hfew hline hs hplain
end
end TB
namespace TB
open PySem PySem.Spec PyProof.Rows L2
section
variable {X : Cx} {a b c e f : Expr} {es : List Expr} {pos apos cpos p : Pos} {fa fb fc fo : EF} {fr : AF}

/-! ### a chain of two -/
def eChain (fa fb fc : EF) (op op' : Hs → D → D → Option D) : EF := fun σ h => match fa σ h with
  | none => none
  | some (x, h1) => match fb σ h1 with
    | none => none
    | some (y, h2) => match op h2 x y with
      | some (.bl true) => (match fc σ h2 with
        | none => none
        | some (z, h3) => match op' h3 y z with | some r => some (r, h3) | none => none)
      | some (.bl false) => some (.bl false, h2)
      | _ => none
theorem chain_of {r r' : R2} {op op' : Hs → D → D → Option D} (ho : OpOk X r op) (ho' : OpOk X r' op') {O : Addr → Prop} {ρ : List Addr} {σ : Fr} {h h' : Hs} {d : D} {τ : L2.St} {H : Hp} {Q : VK} (R : Rw (Zx.of X) O ρ σ h τ H) (e : eChain fa fb fc op op' σ h = some (d, h'))
    (k : ∀ v ρ' H', Mv ρ H ρ' H' → Rl (Zx.of X) O ρ' h' H' → Rep (Zx.of X) O ρ' H' d v → Q v H') : tChain r r' (tE (Zx.of X) fa) (tE (Zx.of X) fb) (tE (Zx.of X) fc) τ H Q := by
  unfold eChain at e
  split at e
  · cases e
  · rename_i x h1 ea
    split at e
    · cases e
    · rename_i y h2 eb
      refine one R ea fun v ρ1 H1 b1 m1 r1 p1 => one (R.mv m1 r1) eb fun u ρ2 H2 b2 m2 r2 p2 => ?_
      split at e
      · rename_i eo
        refine ho O ρ2 h2 H2 x y _ v u _ b2 r2 (p1.mv m2) p2 eo fun z H3 m3 r3 p3 => ⟨true, p3.blE, ?_⟩
        rw [if_pos rfl]
        split at e
        · cases e
        · rename_i w h3 ec
          split at e
          · rename_i r0 eo'
            cases e
            have R3 := (R.mv m1 r1).mv m2 r2 |>.mv m3 r3
            refine one R3 ec fun vw ρ4 H4 b4 m4 r4 p4 => ?_
            refine ho' O ρ4 h' H4 y w d u vw _ b4 r4 ((p2.mv m3).mv m4) p4 eo' fun v5 H5 m5 r5 p5 => k v5 ρ4 H5 (Rw.tr m1 r1 (Rw.tr m2 r2 (Rw.tr m3 r3 (Rw.tr m4 r4 m5)))) r5 p5
          · cases e
      · rename_i eo
        cases e
        refine ho O ρ2 _ H2 x y _ v u _ b2 r2 (p1.mv m2) p2 eo fun z H3 m3 r3 p3 => ⟨false, p3.blE, ?_⟩
        rw [if_neg (by simp)]
        exact k _ ρ2 H3 (Rw.tr m1 r1 (Rw.tr m2 r2 m3)) r3 (.bl _)
      · cases e
theorem s_chain {op op' : CmpOp} {r r' : R2} {g g' : Hs → D → D → Option D} (hr : OpR X (compareOp op) r) (hr' : OpR X (compareOp op') r') (ho : OpOk X r g) (ho' : OpOk X r' g') (ha : SE X a fa) (hb : SE X b fb) (hc : SE X c fc)
    (hm : lastMarks [op, op'] [b, c] = false := by with_unfolding_all rfl) : SE X (.Compare a [op, op'] [b, c] pos) (eChain fa fb fc g g') :=
  imE (pe_chain hr hr' ha hb hc hm) fun τ H Q b0 q => by
    obtain ⟨O, ρ, σ, h, d, h', R, e, k⟩ := q b0
    exact chain_of ho ho' R e fun v ρ' H' m r p bh => k v ρ' H' bh m r p
theorem s_tchain {op op' : CmpOp} {r r' : R2} {g g' : Hs → D → D → Option D} (hr : OpR X (compareOp op) r) (hr' : OpR X (compareOp op') r') (ho : OpOk X r g) (ho' : OpOk X r' g') (ha : SE X a fa) (hb : SE X b fb) (hc : SE X c fc)
    (hm : lastMarks [op, op'] [b, c] = false := by with_unfolding_all rfl) : ST X (.Compare a [op, op'] [b, c] pos) (eChain fa fb fc g g') :=
  imT (pt_chain hr hr' ha hb hc hm) fun τ H Q b0 q => by
    obtain ⟨O, ρ, σ, h, d, h', R, e, k⟩ := q b0
    exact chain_of ho ho' R e fun v ρ' H' m r p => ⟨d, p.blE, fun bh => k ρ' H' bh m r⟩
theorem s_lele (ha : SE X a fa) (hb : SE X b fb) (hc : SE X c fc) (hm : lastMarks [.LtE, .LtE] [b, c] = false := by with_unfolding_all rfl) : SE X (.Compare a [.LtE, .LtE] [b, c] pos) (eChain fa fb fc leI leI) := s_chain op_le op_le int2_okB int2_okB ha hb hc hm
theorem s_tlele (ha : SE X a fa) (hb : SE X b fb) (hc : SE X c fc) (hm : lastMarks [.LtE, .LtE] [b, c] = false := by with_unfolding_all rfl) : ST X (.Compare a [.LtE, .LtE] [b, c] pos) (eChain fa fb fc leI leI) := s_tchain op_le op_le int2_okB int2_okB ha hb hc hm
/-! ### all, any, sum -/
theorem allS_ok : FnR X (rAll X.K) allS := by
  intro O ρ h H ds d vs Q bh R rs e k
  unfold allS at e
  split at e
  · rename_i d1
    obtain ⟨v, rfl, rv⟩ := rs.one
    split at e
    · rename_i xs e1
      split at e
      · rename_i bs e2
        cases e
        obtain ⟨p, us, rfl, hq, ru⟩ := viewL_rep R e1 rv
        rw [bools_eq e2] at ru
        exact ⟨p, bs, rfl, by rw [← ru.bls]; exact SqL.of hq, k _ H Mv.refl R (.bl _)⟩
      · cases e
    · cases e
  · cases e
theorem anyS_ok : FnR X (rAny X.K) anyS := by
  intro O ρ h H ds d vs Q bh R rs e k
  unfold anyS at e
  split at e
  · rename_i d1
    obtain ⟨v, rfl, rv⟩ := rs.one
    split at e
    · rename_i xs e1
      split at e
      · rename_i bs e2
        cases e
        obtain ⟨p, us, rfl, hq, ru⟩ := viewL_rep R e1 rv
        rw [bools_eq e2] at ru
        exact ⟨p, bs, rfl, by rw [← ru.bls]; exact SqL.of hq, k _ H Mv.refl R (.bl _)⟩
      · cases e
    · cases e
  · cases e

/-! ### isinstance -/
def tyD (h : Hs) : D → Option String
  | .non => some "NoneType"
  | .bl _ => some "bool"
  | .int _ => some "int"
  | .str _ => some "str"
  | .tup _ => some "tuple"
  | .lst _ => some "list"
  | .ref n => match h[n]? with | some (.lst _) => some "list" | _ => none
  | _ => none
/-- is the one a kind of the other -/
def subTy (a b : String) : Bool := a == b || (a == "bool" && b == "int")
def okTy (b : String) : Bool := b == "int" || b == "bool" || b == "tuple" || b == "str" || b == "list"
theorem subTy_kit {a b : String} (ha : a = "NoneType" ∨ a = "bool" ∨ a = "int" ∨ a = "str" ∨ a = "tuple" ∨ a = "list") (hb : b = "int" ∨ b = "bool" ∨ b = "tuple" ∨ b = "str" ∨ b = "list") : kitB a b = some (subTy a b) := by
  rcases ha with rfl | rfl | rfl | rfl | rfl | rfl <;> rcases hb with rfl | rfl | rfl | rfl | rfl <;> decide +kernel
theorem tyD_rep {O : Addr → Prop} {ρ : List Addr} {h : Hs} {H : Hp} {d : D} {v : V} {n : String} (R : Rl (Zx.of X) O ρ h H) (e : tyD h d = some n) (r : Rep (Zx.of X) O ρ H d v) :
    TyX X.K H v (.type n) ∧ (n = "NoneType" ∨ n = "bool" ∨ n = "int" ∨ n = "str" ∨ n = "tuple" ∨ n = "list") := by
  cases d with
  | non => cases e; cases r; exact ⟨.base .non, by simp⟩
  | bl b => cases e; cases r; exact ⟨.base (.bl _), by simp⟩
  | int i => cases e; cases r; exact ⟨.base (.int _), by simp⟩
  | str x => cases e; cases r; exact ⟨.base (.str _), by simp⟩
  | tup xs => cases e; obtain ⟨a, vs, rfl, ha, _⟩ := r.tupE; exact ⟨.base (.tup ha), by simp⟩
  | lst xs => cases e; obtain ⟨a, vs, rfl, ha, _⟩ := r.lstE; exact ⟨.base (.lst ha.1), by simp⟩
  | ref n =>
    obtain ⟨a, rfl, hn⟩ := r.refE
    obtain ⟨o, ho, ro⟩ := R.ob hn
    simp only [tyD, ho] at e
    cases o with
    | lst xs => cases e; obtain ⟨vs, hv, _⟩ := ro; exact ⟨.base (.lst hv), by simp⟩
    | dic _ _ => simp at e
  | dic _ _ => simp [tyD] at e
  | scr _ => simp [tyD] at e
def eIsi (fa : EF) (T : String) : EF := fun σ h => match fa σ h with
  | none => none
  | some (x, h1) => match tyD h1 x with
    | some n => some (.bl (subTy n T), h1)
    | none => none
theorem s_isi {T : String} {x : Str} {p1 : Pos} (hT : T = "int" ∨ T = "bool" ∨ T = "tuple" ∨ T = "str" ∨ T = "list") (hg : Gl X "isinstance") (hm : X.mg "isinstance" = none) (hg1 : Gl X x) (hm1 : X.mg x = none) (hv1 : bootBuiltins x = some (.type T)) (ha : SE X a fa) (hn : x ≠ "__name__" := by decide) (hd : (x == ("__debug__" : Str)) = false := by decide)
    (he : starEach [a, .Name x p1] X.env = (false, eval a X.env) :: starEach [.Name x p1] X.env := by rfl) (he1 : starEach [.Name x p1] X.env = (false, eval (.Name x p1) X.env) :: starEach [] X.env := by rfl) (hpl : (backTo pos (starEach [.Name x p1] X.env)).any (·.1) = false := by rfl) :
    SE X (.Call (.Name "isinstance" p) [a, .Name x p1] [] pos) (eIsi fa T) :=
  imE (pe_callB call_isi hg hm (by decide +kernel) (pa_cons ha (pa_cons (pe_bltn (v := .ty T) hg1 hm1 hv1 rfl hn hd) pa_nil he1) he) (by decide) (by decide) he hpl) fun τ H Q b0 q => by
    obtain ⟨O, ρ, σ, h, d, h', R, e, k⟩ := q b0
    unfold eIsi at e
    split at e
    · cases e
    · rename_i x0 h1 ea
      split at e
      · rename_i n en
        cases e
        refine one R ea fun v ρ1 H1 b1 m1 r1 p1 => ?_
        obtain ⟨ty, hn⟩ := tyD_rep r1 en p1
        exact ⟨v, .ty T, .type n, .type T, subTy n T, rfl, .ty T, ty, kit_ty (subTy_kit hn hT), fun b2 => k _ ρ1 H1 b2 m1 r1 (.bl _)⟩
      · cases e

/-! ### < of values that may be sorted -/
def ltT (_ : Hs) (a b : D) : Option D := if plN lvN a && plN lvN b && cokN lvN a b then some (.bl (D.lt a b)) else none
def rLtT (Z : Zx) : R2 := fun x y H Q => ∃ O ρ a b, Rep Z O ρ H a x ∧ Rep Z O ρ H b y ∧ plN lvN a = true ∧ plN lvN b = true ∧ cokN lvN a b = true ∧ Q (.bl (D.lt a b)) H
theorem op_ltT (hu : X.A.units + 14 < cLine) : OpR X (compareOp .Lt) (rLtT (Zx.of X)) := by
  intro pins s σ H x y v u Q I rx ry h
  obtain ⟨O, ρ, a, b, ra, rb, pa, pb, c, q⟩ := h
  have z := tv_lt lvN (A := X.A) (reps_tv I lvN pa ra rx) (reps_tv I lvN pb rb ry) c (by show X.A.units + 9 < cLine; omega)
  exact z X.prog X.w X.xe (EP X pins σ Q) ⟨.bl _, H, I, rfl, q⟩
theorem ltT_ok : OpOk X (rLtT (Zx.of X)) ltT := by
  intro O ρ h H a b d x y Q bh R ra rb e k
  unfold ltT at e
  split at e
  · rename_i c
    cases e
    simp only [Bool.and_eq_true] at c
    exact ⟨O, ρ, a, b, ra, rb, c.1.1, c.1.2, c.2, k _ H Mv.refl R (.bl _)⟩
  · cases e
theorem s_ltT (hu : X.A.units + 14 < cLine) (ha : SE X a fa) (hb : SE X b fb) : SE X (.Compare a [.Lt] [b] pos) (bin2 fa fb ltT) := s_cmp (op_ltT hu) ltT_ok ha hb (nomark _)
theorem s_tltT (hu : X.A.units + 14 < cLine) (ha : SE X a fa) (hb : SE X b fb) : ST X (.Compare a [.Lt] [b] pos) (bin2 fa fb ltT) := s_tcmp (op_ltT hu) ltT_ok ha hb (nomark _)
end
end TB
namespace TB
open PySem PySem.Spec PyProof.Rows L2

/-! ### enumerate(tuple) -/
theorem meets_enumerate_newT {v : Value} {o : Obj} {H : Heap → Prop} (B : Begins v o H) :
    Meets (Builtin.«enumerate.__new__» ⟨[.type "enumerate", v], []⟩) (fun _ R s => H s.heap ∧
      R (.ok (.ret (.ref (s.heap.push o).objs.size))) { s with heap := (s.heap.push o).push { cls := .type "enumerate", data := .fields #[.none, .bool false, .ref s.heap.objs.size, rawInt 0, .none, .none] } }) :=
  .of_wp fun prog w A R s h => by
    obtain ⟨hp, g, d, tk, os⟩ := s; obtain ⟨h1, h⟩ := h
    have hsub := sub_enumerate
    have q1 : ∀ {A' : Around} {E : Value → Shared → Prop} {Q : Value → Shared → Prop}, Q (.ref hp.objs.size) ⟨hp.push o, g, d, tk, os⟩ → wpAny (model prog w) A' (pyIter v) Q E ⟨hp, g, d, tk, os⟩ :=
      fun q => B.iter prog w _ _ ⟨hp, g, d, tk, os⟩ _ h1 q
    wp_walk using q1
    refine wpAny_stack_any fun st => wpAny_pure ?_
    split
    · rename_i c _ _ _ _ _
      cases (c == Value.type "enumerate")
      · wp_walk using q1
        exact ⟨_, rfl, h⟩
      · wp_walk using q1
        exact ⟨_, rfl, h⟩
    · wp_walk using q1
      exact ⟨_, rfl, h⟩
theorem call_enumT {prog : Program} {w : World} {A : Around} {E : Value → Shared → Prop} {s : Shared} {v : Value} {o : Obj} {H : Heap → Prop} {Q : Value → Shared → Prop} (B : Begins v o H) (h1 : H s.heap)
    (h : ∀ h', IsEnum h' (s.heap.objs.size + 1) s.heap.objs.size 0 .none → h'.get? s.heap.objs.size = some o → h'.objs.size = s.heap.objs.size + 2 →
      (∀ b o, s.heap.get? b = some o → h'.get? b = some o) → Q (.ref (s.heap.objs.size + 1)) { s with heap := h' }) :
    wpAny (model prog w) A (call (.type "enumerate") [v]) Q E s := by
  refine callType_new F.called_enumerate (by decide) (F.typeCall_enumerate_1 _) (F.newCall_enumerate_1 _) (fun obj => F.args_object_init_2 obj _) F.entry_enumerate_new
    (meets_enumerate_newT B) ⟨h1, ?_⟩
  have hz : (s.heap.push o).objs.size = s.heap.objs.size + 1 := Heap.size_push ..
  show _ ∧ _
  rw [hz]
  have he : IsEnum ((s.heap.push o).push { cls := .type "enumerate", data := .fields #[.none, .bool false, .ref s.heap.objs.size, rawInt 0, .none, .none] }) (s.heap.objs.size + 1) s.heap.objs.size 0 .none := by
    have := Heap.get?_push_size (s.heap.push o) (o := { cls := .type "enumerate", data := .fields #[.none, .bool false, .ref s.heap.objs.size, rawInt 0, .none, .none] }) rfl
    rw [hz] at this; exact this
  refine ⟨⟨_, he, rfl⟩, h _ he (Heap.get?_push_of_some _ (Heap.get?_push_size _ B.free)) (by rw [Heap.size_push, hz]) fun b o x => Heap.get?_push_of_some _ (Heap.get?_push_of_some _ x)⟩
end TB
namespace TB
open PySem PySem.Spec PyProof.Rows L2

theorem enumT_end {prog : Program} {w : World} {A : Around} {E : Value → Shared → Prop} {s : Shared} {e it l : Addr} {i : Nat} {items : Array Value} {old : Value} {Q : Option Value → Shared → Prop} (hh : A.handled = none)
    (he : IsEnum s.heap e it i old) (hit : s.heap.IsTupleIter it l i) (hl : s.heap.IsTuple l items) (hx : items[i]? = none)
    (hQ : ∀ h', Heap.ExtBut it s.heap h' → Q none { s with heap := h' }) : wpAny (model prog w) A (pyNext (.ref e)) Q E s := by
  have hT : s.TypeIs (.ref e) "enumerate" := ⟨_, he, rfl⟩
  unfold pyNext
  refine wpAny_bind (wpAny_attempt (wpAny_callSpecial?_slot (name := Str.ofString "__next__") hT F.slot_enumerate_next
    (wpAny_call_entry F.slot_enumerate_next hT F.entry_enumerate_next ?_ (F.args_enumerate_next_1 _))))
  show wpAny _ _ (field (.ref e) 2 >>= _) _ _ _
  refine wpAny_bind (wpAny_field he rfl (x := .ref it) rfl ?_)
  refine wpAny_bind (wpAny_nextOf_tuple_end hh hit hl hx fun h' x he' hx' => ?_)
  obtain ⟨o, ho, hc⟩ := hx'
  refine wpAny_bind (wpAny_isInstance (T := "StopIteration") (b := true) ⟨o, ho, hc⟩ isSubtype_stop ?_)
  exact wpAny_pure (hQ _ he')
/-- the tuple at a, each item in a new pair -/
def Itet (K : PySem.W.Frag) (a : Addr) : It :=
  ⟨fun i H => ∃ (xs : List V) (x : V), SqT K H a xs ∧ xs[i]? = some x, fun i H v H' => ∃ T x, v = .ref T ∧ H T = none ∧ H' = upd H T (.tup [.int (i : Nat), x]) ∧ ∀ xs, SqT K H a xs → xs[i]? = some x, fun i H => ∃ xs : List V, SqT K H a xs ∧ xs.length ≤ i⟩
theorem turn_enumT {P : Program} {w : World} {K : PySem.W.Frag} {elts : List Expr} {kk : Nat} {tpos : Pos} (a e it : Addr) :
    Turn P w K (.Tuple elts kk tpos) (Itet K a) [e, it] e (fun i h => (∃ old, IsEnum h e it ((i : Nat) : Int) old) ∧ h.IsTupleIter it a i ∧ e ≠ it) where
  mem := by simp
  obj := fun i h st b hb => by
    obtain ⟨⟨old, he⟩, ⟨o, ho, hc, hd⟩, _⟩ := st
    have e' : b = e ∨ b = it := by simpa using hb
    rcases e' with z | z
    · rw [z]; exact ⟨_, he, fun v q => nomatch q⟩
    · rw [z]; exact ⟨o, ho, fun v q => by rw [hd] at q; cases q⟩
  keep := fun i h h' st k => let ⟨⟨old, he⟩, hi, hne⟩ := st; ⟨⟨old, k e (by simp) _ he⟩, hi.at fun o q => k it (by simp) o q, hne⟩
  item := by
    intro X hP hw hK hc i pins s σ H E I hf st hg
    subst hP hw hK
    obtain ⟨⟨old, he⟩, hit, hne⟩ := st
    obtain ⟨xs, x, hq, hx⟩ := hg
    obtain ⟨its, rv, p, hz⟩ := I.tuple hq
    obtain ⟨u, hu, ru⟩ := rv.get hx
    have hel : e < s.heap.objs.size := Heap.lt_size he
    have hil : it < s.heap.objs.size := by obtain ⟨_, q, _⟩ := hit; exact Heap.lt_size q
    have hta : s.heap.IsTuple a its.toArray := p
    have hae : a ≠ e := by
      rintro rfl
      obtain ⟨o, ho, hcls, _⟩ := hta
      rw [he] at ho; cases ho; exact absurd (Value.type.inj hcls) (by decide)
    have hai : a ≠ it := by
      rintro rfl
      obtain ⟨o, ho, hcls, _⟩ := hta
      obtain ⟨o', ho', hc', _⟩ := hit
      rw [ho] at ho'; cases ho'; rw [hcls] at hc'; exact absurd (Value.type.inj hc') (by decide)
    have hi : i < its.toArray.size := by
      have := (List.getElem?_eq_some_iff.mp hu).1
      simpa using this
    refine PySem.wpAny_pyNext_enum_itemC (Draws.tuple (A := X.A.in1) (I.ok.hd hc) it a hai its.toArray) he ⟨hit, hta⟩ hi hne (by simp [hne, hae.symm]) fun x' h' tk hP ho hs' hT hsz hk => ?_
    have ex' : x' = u := by
      have q : its.toArray[i]? = some u := by simpa using hu
      rw [hP] at q; exact Option.some.inj q
    subst ex'
    obtain ⟨hit', _⟩ := hs'
    refine ⟨_, rfl, wpAny_letOwnedTupleGo_enum (s := { s with heap := h', toks := tk + 1 }) ho fun h'' he' sb => ?_⟩
    have hT2 : h''.get? s.heap.objs.size = some { cls := .type "tuple", data := .seq #[.int i tk, x'] } := (sb.2 _ (Nat.ne_of_gt hel)).trans hT
    have new : ObjOk X.prog X.w (upd H s.heap.objs.size (.tup [.int (i : Nat), x])) h'' s.heap.objs.size (.tup [.int (i : Nat), x]) :=
      ⟨by show 2 ≤ sizeLine; decide, [.int i tk, x'], .cons ⟨_, rfl⟩ (.cons ru .nil), ⟨_, hT2, rfl, _, rfl⟩⟩
    have I1 : Inv X pins σ (upd H s.heap.objs.size (.tup [.int (i : Nat), x])) { s with heap := h'', toks := tk + 1 } :=
      I.turnedNew (ch := [e, it]) (fun b ob hb q => (sb.2 b (fun z => hb (by simp [z]))).trans (hk b ob (fun z => hb (by simp [z])) (fun z => hb (by simp [z])) q)) hf (Nat.le_refl _) new
    refine ⟨.ref s.heap.objs.size, _, I1, rfl, ⟨_, x, rfl, I.hok.fresh (Nat.le_refl _), rfl, fun ys hy => by rw [I.tuple_inj hy hq]; exact hx⟩, ⟨⟨x', ?_⟩, hit'.at fun o q => (sb.2 it (Ne.symm hne)).trans q, hne⟩, fun b hb => ?_⟩
    · have e1 : ((i + 1 : Nat) : Int) = (i : Int) + 1 := by omega
      rw [e1]; exact he'
    · have hb' : b < s.heap.objs.size := by
        have e' : b = e ∨ b = it := by simpa using hb
        rcases e' with z | z
        · rw [z]; exact hel
        · rw [z]; exact hil
      rw [upd_ne (Nat.ne_of_lt hb')]
      exact (hf b hb).1
  done := by
    intro X hP hw hK hc i pins s σ H E I hf st hg
    subst hP hw hK
    obtain ⟨⟨old, he⟩, hit, hne⟩ := st
    obtain ⟨xs, hq, hx⟩ := hg
    obtain ⟨its, rv, p, hz⟩ := I.tuple hq
    obtain ⟨f0, f1, f2, f3, f4, f5⟩ := hf it (by simp)
    have hl := rv.length
    have hta : s.heap.IsTuple a its.toArray := p
    have hai : a ≠ it := by
      rintro rfl
      obtain ⟨o, ho, hcls, _⟩ := hta
      obtain ⟨o', ho', hc', _⟩ := hit
      rw [ho] at ho'; cases ho'; rw [hcls] at hc'; exact absurd (Value.type.inj hc') (by decide)
    exact enumT_end (I.ok.hd hc) he hit hta (by simp; omega) fun h' eb => ⟨rfl, I.turned (t' := s.toks) (fun b o hb q => eb b o hb q) f0 f1 f3 f4 f5⟩
  self := fun A i s Q E st h => let ⟨⟨_, he⟩, _⟩ := st; wpAny_pyIter_enum he h

section
variable {X : Cx} {e a : Expr} {fr : AF} {fa : EF} {p pos tpos : Pos} {elts : List Expr} {kk : Nat}
def iEnumT (K : PySem.W.Frag) (ta : TA) : TI := fun σ H R => ta σ H fun vs H1 => ∃ a, vs = [.ref a] ∧ ((∃ xs, SqL K H1 a xs ∧ R (Ite K a) H1) ∨ ∃ xs, SqT K H1 a xs ∧ R (Itet K a) H1)
theorem pi_enumT {ta : TA} (hg : Gl X "enumerate") (hm : X.mg "enumerate" = none) (ha : PA X [e] ta) (hs : starEach [e] X.env = [(false, eval e X.env)] := by rfl) :
    PI X (.Tuple elts kk tpos) (.Call (.Name "enumerate" p) [e] [] pos) (iEnumT X.K ta) := by
  refine ⟨fun pins s σ H R I h => ?_⟩
  refine Call_ (ld_blt I hg hm boot_enumerate (PyProof.Rows.callWith_type1 (thn (ha.run pos pins s σ H _ I h) fun us s1 ⟨vs, H1, I1, r1, q1⟩ => ?_) hs rfl))
  obtain ⟨a, ex, q⟩ := q1
  subst ex
  cases r1 with
  | cons r rr =>
    cases rr
    cases r
    have fin : ∀ (J : It) (T : Nat → Heap → Prop) (h' : Heap), (∀ b o, s1.heap.get? b = some o → h'.get? b = some o) → Turn X.prog X.w X.K (.Tuple elts kk tpos) J [s1.heap.objs.size + 1, s1.heap.objs.size] (s1.heap.objs.size + 1) T → T 0 h' → R J H1 →
        PIE X pins σ (.Tuple elts kk tpos) R (.ref (s1.heap.objs.size + 1)) { s1 with heap := h' } := fun J T h' hk tn t0 q =>
      ⟨s1.heap.objs.size + 1, [s1.heap.objs.size + 1, s1.heap.objs.size], T, J, H1, rfl, I1.kept (t' := s1.toks) hk, tn, t0, fun b hb => by
        have e' : b = s1.heap.objs.size + 1 ∨ b = s1.heap.objs.size := by simpa using hb
        have hle : s1.heap.objs.size ≤ b := by
          rcases e' with z | z
          · rw [z]; exact Nat.le_add_right _ _
          · rw [z]; exact Nat.le_refl _
        exact I1.fpOk hle (I1.hok.fresh hle), q⟩
    rcases q with ⟨xs, hq, q⟩ | ⟨xs, hq, q⟩
    · obtain ⟨its, rv, p', hz⟩ := I1.list hq
      exact call_enumerate_list p'.isList fun h' he hit hsz hk => wpAny_pyIter_enum he (fin _ _ h' hk (turn_enum a _ _) ⟨⟨.none, he⟩, hit, Nat.succ_ne_self _⟩ q)
    · obtain ⟨its, rv, p', hz⟩ := I1.tuple hq
      exact call_enumT (begins_tuple a its.toArray) p' fun h' he ho hsz hk => wpAny_pyIter_enum he (fin _ _ h' hk (turn_enumT a _ _) ⟨⟨.none, he⟩, ⟨_, ho, rfl, rfl⟩, Nat.succ_ne_self _⟩ q)
/-- the i-th item, counted -/
def cntS (g : Src) : Src := fun h i => match g h i with
  | some (some d) => some (some (.tup [.int (i : Nat), d]))
  | some none => some none
  | none => none
def isRef : D → Bool
  | .ref _ => true
  | _ => false
def iEnumF (fr : AF) : IF := fun σ h => match fr σ h with
  | some ([d], h1) => if isRef d then none else (match viewQ h1 d with | some xs => some (cntS (srcL xs), xs.length + 1, h1) | none => none)
  | _ => none
theorem it_enumT {Z : Zx} {O : Addr → Prop} {ρ : List Addr} {H : Hp} {a : Addr} {vs : List V} {xs : List D} (f : ∀ ρ' H', MvO O ρ H ρ' H' → SqT Z.K H' a vs) (r : Reps Z O ρ H xs vs) : ItOk Z O (Itet Z.K a) (cntS (srcL xs)) ρ H := by
  intro ρ2 h2 H2 i b m R
  have q := f ρ2 H2 m
  refine ⟨fun e => ?_, fun d e => ?_⟩
  · simp only [cntS, srcL] at e
    cases ex : xs[i]? with
    | some x => rw [ex] at e; cases e
    | none => exact ⟨vs, q, by rw [← r.length]; simpa using ex⟩
  · simp only [cntS, srcL] at e
    cases ex : xs[i]? with
    | none => rw [ex] at e; cases e
    | some x =>
      rw [ex] at e
      cases e
      obtain ⟨v, hv, rv⟩ := (r.mvO m).get ex
      refine ⟨?_, ⟨vs, v, q, hv⟩, fun x' H3 ⟨T, y, eT, hn, eH, hy⟩ => ?_⟩
      · have h1 := b.2 a vs q
        have h2 := (List.getElem?_eq_some_iff.mp hv).1
        rw [szL_eq]; omega
      · subst eT eH
        have := hy vs q
        rw [hv] at this
        cases this
        exact ⟨fresh_mv hn, R.fresh hn, new_tup R hn (.cons (.int _) (.cons rv .nil))⟩
theorem it_enumL {Z : Zx} {O : Addr → Prop} {ρ : List Addr} {H : Hp} {a : Addr} {vs : List V} {xs : List D} (f : ∀ ρ' H', MvO O ρ H ρ' H' → SqL Z.K H' a vs) (r : Reps Z O ρ H xs vs) : ItOk Z O (Ite Z.K a) (cntS (srcL xs)) ρ H := by
  intro ρ2 h2 H2 i b m R
  have q := f ρ2 H2 m
  refine ⟨fun e => ?_, fun d e => ?_⟩
  · simp only [cntS, srcL] at e
    cases ex : xs[i]? with
    | some x => rw [ex] at e; cases e
    | none => exact ⟨vs, q, by rw [← r.length]; simpa using ex⟩
  · simp only [cntS, srcL] at e
    cases ex : xs[i]? with
    | none => rw [ex] at e; cases e
    | some x =>
      rw [ex] at e
      cases e
      obtain ⟨v, hv, rv⟩ := (r.mvO m).get ex
      refine ⟨?_, ⟨vs, v, q, hv⟩, fun x' H3 ⟨T, y, eT, hn, eH, hy⟩ => ?_⟩
      · have h1 := b.1 a vs q
        have h2 := (List.getElem?_eq_some_iff.mp hv).1
        rw [szL_eq]; omega
      · subst eT eH
        have := hy vs q
        rw [hv] at this
        cases this
        exact ⟨fresh_mv hn, R.fresh hn, new_tup R hn (.cons (.int _) (.cons rv .nil))⟩
/-- enumerate(xs): a tuple, a list that nobody changes -/
theorem i_enum (hg : Gl X "enumerate") (hm : X.mg "enumerate" = none) (ha : SA X [a] fr) (hs : starEach [a] X.env = [(false, eval a X.env)] := by rfl) : SI X (.Tuple elts kk tpos) (.Call (.Name "enumerate" p) [a] [] pos) (iEnumF fr) := imI (pi_enumT hg hm ha hs) fun τ H R b0 q => by
  obtain ⟨O, ρ, σ, h, g, n, h', Rr, e, k⟩ := q b0
  unfold iEnumF at e
  split at e
  · rename_i d h1 ea
    split at e
    · cases e
    rename_i hir
    split at e
    · rename_i xs ex
      cases e
      refine aone Rr ea fun vs ρ1 H1 b1 m1 r1 p1 => ?_
      obtain ⟨v, rfl, rv⟩ := p1.one
      cases d with
      | tup ys =>
        simp only [viewQ, Option.some.injEq] at ex; subst ex
        obtain ⟨a, us, rfl, f, n, r⟩ := rv.tupE
        exact ⟨a, rfl, .inr ⟨us, SqT.of f, fun b => k _ ρ1 H1 b m1 r1 fun O' _ g2 => it_enumT (Z := Zx.of X) (fun ρ' H' m => SqT.of (m.tup a _ f n)) (r.grow g2)⟩⟩
      | scr ys =>
        simp only [viewQ, Option.some.injEq] at ex; subst ex
        obtain ⟨a, us, rfl, f, r⟩ := rv.scrE
        exact ⟨a, rfl, .inl ⟨us, f.sq, fun b => k _ ρ1 H1 b m1 r1 fun O' _ g2 => it_enumL (Z := Zx.of X) (fun ρ' H' m => ((f.grow g2).mvO m).sq) (r.grow g2)⟩⟩
      | lst ys =>
        simp only [viewQ, viewL, Option.some.injEq] at ex; subst ex
        obtain ⟨a, us, rfl, f, r⟩ := rv.lstE
        exact ⟨a, rfl, .inl ⟨us, SqL.of f.1, fun b => k _ ρ1 H1 b m1 r1 fun O' _ g2 => it_enumL (Z := Zx.of X) (fun ρ' H' m => SqL.of (m.keep a _ f.1 f.2.1 fun z => f.2.2 (g2 _ _ f.1 z))) (r.grow g2)⟩⟩
      | ref n => exact absurd rfl hir
      | non => simp [viewQ, viewL] at ex
      | bl _ => simp [viewQ, viewL] at ex
      | int _ => simp [viewQ, viewL] at ex
      | str _ => simp [viewQ, viewL] at ex
      | dic _ _ => simp [viewQ, viewL] at ex
    · cases e
  · cases e
end
end TB
namespace TB
open PySem PySem.Spec PyProof.Rows L2

/-! ### frozen dicts walked, whatever their keys -/
/-- the object at d is od, and stays so -/
def Fzn (H : Hp) (d : Addr) (od : Obj) : Prop := ∃ u, H d = some (.frz od u)
/-- one of ks in turn, nothing new -/
def Itx (d : Addr) (od : Obj) (ks : List V) : It := ⟨fun i H => Fzn H d od ∧ i < ks.length, fun i H x H' => H' = H ∧ ks[i]? = some x, fun i H => Fzn H d od ∧ ks.length ≤ i⟩
/-- .. pairs, each a new tuple -/
def Itxi (d : Addr) (od : Obj) (ks us : List V) : It := ⟨fun i H => Fzn H d od ∧ i < ks.length, fun i H x H' => ∃ T k v, ks[i]? = some k ∧ us[i]? = some v ∧ x = .ref T ∧ H T = none ∧ H' = upd H T (.tup [k, v]), fun i H => Fzn H d od ∧ ks.length ≤ i⟩
section
variable {P : Program} {w : World} {K : PySem.W.Frag} {tg : Expr} {d : Addr} {od : Obj} {es : Array DictEntry} {ep : Nat}
theorem fzn_raw {X : Cx} {pins : List (Addr × Obj)} {σ : L2.St} {H : Hp} {s : Shared} (I : Inv X pins σ H s) (f : Fzn H d od) (hx : od.ExactDict) (hd : od.data = .dict es ep) : s.heap.DictRaw d es ep := by
  obtain ⟨u, f⟩ := f
  exact ⟨od, (I.hok d _ f).1, hx, hd⟩
theorem turn_xk {kx : List V} (it : Addr) (hx : od.ExactDict) (hod : od.data = .dict es ep) (hk : Vals kx (es.toList.map (·.key))) : Turn P w K tg (Itx d od kx) [it] it (fun i h => h.IsKeyIter it d i es.size ep) where
  mem := by simp
  obj := fun i h st b hb => by
    have e : b = it := by simpa using hb
    subst e
    obtain ⟨oi, e, c, dd⟩ := st
    exact ⟨oi, e, fun v z => by rw [dd] at z; cases z⟩
  keep := fun i h h' st k => st.at fun oi e => k it (by simp) oi e
  item := by
    intro X hP hw hK hc i pins s σ H E I hf st hg
    subst hP hw hK
    obtain ⟨f, hi⟩ := hg
    obtain ⟨f0, f1, f2, f3, f4, f5⟩ := hf it (by simp)
    have hm := fzn_raw I f hx hod
    have hl : kx.length = es.size := by rw [hk.length, List.length_map, Array.length_toList]
    have hi2 : i < es.size := by omega
    obtain ⟨x, hx1⟩ : ∃ x, kx[i]? = some x := ⟨kx[i], List.getElem?_eq_getElem hi⟩
    obtain ⟨u, hu, ru⟩ := hk.get hx1
    have eu : es[i].key = u := by
      rw [List.getElem?_map, Array.getElem?_toList, Array.getElem?_eq_getElem hi2] at hu
      exact Option.some.inj hu
    refine wpAny_pyNext_keys_item_raw st hm hi2 fun h' st' sb => ?_
    have I1 : Inv X pins σ H { s with heap := h' } := I.turned (t' := s.toks) (fun b ob hb e => (sb.2 b hb).trans e) f0 f1 f3 f4 f5
    obtain ⟨oi, e, c, dd⟩ := id st'
    exact ⟨es[i].key, rfl, go_of (s := { s with heap := h' }) e c dd (by decide) ⟨x, H, I1, by rw [eu]; exact ru, ⟨rfl, hx1⟩, st', fun b hb => (hf b hb).1⟩⟩
  done := by
    intro X hP hw hK hc i pins s σ H E I hf st hg
    subst hP hw hK
    obtain ⟨f, hi⟩ := hg
    obtain ⟨f0, f1, f2, f3, f4, f5⟩ := hf it (by simp)
    have hm := fzn_raw I f hx hod
    have hl : kx.length = es.size := by rw [hk.length, List.length_map, Array.length_toList]
    exact wpAny_pyNext_keys_end_raw (I.ok.hd hc) st hm (by omega) fun h' eb => ⟨rfl, I.turned (t' := s.toks) (fun b ob hb e => eb b ob hb e) f0 f1 f3 f4 f5⟩
  self := fun A i s Q E st h => wpAny_pyIter_keyiter st h
theorem turn_xv {ux : List V} (it : Addr) (hx : od.ExactDict) (hod : od.data = .dict es ep) (hk : Vals ux (es.toList.map (·.val))) : Turn P w K tg (Itx d od ux) [it] it (fun i h => h.IsValIter it d i es.size ep) where
  mem := by simp
  obj := fun i h st b hb => by
    have e : b = it := by simpa using hb
    subst e
    obtain ⟨oi, e, c, dd⟩ := st
    exact ⟨oi, e, fun v z => by rw [dd] at z; cases z⟩
  keep := fun i h h' st k => st.at fun oi e => k it (by simp) oi e
  item := by
    intro X hP hw hK hc i pins s σ H E I hf st hg
    subst hP hw hK
    obtain ⟨f, hi⟩ := hg
    obtain ⟨f0, f1, f2, f3, f4, f5⟩ := hf it (by simp)
    have hm := fzn_raw I f hx hod
    have hl : ux.length = es.size := by rw [hk.length, List.length_map, Array.length_toList]
    have hi2 : i < es.size := by omega
    obtain ⟨x, hx1⟩ : ∃ x, ux[i]? = some x := ⟨ux[i], List.getElem?_eq_getElem hi⟩
    obtain ⟨u, hu, ru⟩ := hk.get hx1
    have eu : es[i].val = u := by
      rw [List.getElem?_map, Array.getElem?_toList, Array.getElem?_eq_getElem hi2] at hu
      exact Option.some.inj hu
    refine wpAny_pyNext_values_item_raw st hm hi2 fun h' st' sb => ?_
    have I1 : Inv X pins σ H { s with heap := h' } := I.turned (t' := s.toks) (fun b ob hb e => (sb.2 b hb).trans e) f0 f1 f3 f4 f5
    obtain ⟨oi, e, c, dd⟩ := id st'
    exact ⟨es[i].val, rfl, go_of (s := { s with heap := h' }) e c dd (by decide) ⟨x, H, I1, by rw [eu]; exact ru, ⟨rfl, hx1⟩, st', fun b hb => (hf b hb).1⟩⟩
  done := by
    intro X hP hw hK hc i pins s σ H E I hf st hg
    subst hP hw hK
    obtain ⟨f, hi⟩ := hg
    obtain ⟨f0, f1, f2, f3, f4, f5⟩ := hf it (by simp)
    have hm := fzn_raw I f hx hod
    have hl : ux.length = es.size := by rw [hk.length, List.length_map, Array.length_toList]
    exact wpAny_pyNext_values_end_raw (I.ok.hd hc) st hm (by omega) fun h' eb => ⟨rfl, I.turned (t' := s.toks) (fun b ob hb e => eb b ob hb e) f0 f1 f3 f4 f5⟩
  self := fun A i s Q E st h => wpAny_pyIter_valiter st h
theorem turn_xi {kx ux : List V} {elts : List Expr} {kk : Nat} {tpos : Pos} (it : Addr) (hx : od.ExactDict) (hod : od.data = .dict es ep) (hk : Vals kx (es.toList.map (·.key))) (hu : Vals ux (es.toList.map (·.val))) :
    Turn P w K (.Tuple elts kk tpos) (Itxi d od kx ux) [it] it (fun i h => ∃ ok ov, IsItemIter h it d i es.size ep ok ov) where
  mem := by simp
  obj := fun i h st b hb => by
    have e : b = it := by simpa using hb
    subst e
    obtain ⟨ok, ov, e⟩ := st
    exact ⟨_, e, fun v z => nomatch z⟩
  keep := fun i h h' st k => let ⟨ok, ov, e⟩ := st; ⟨ok, ov, k it (by simp) _ e⟩
  item := by
    intro X hP hw hK hc i pins s σ H E I hf st hg
    subst hP hw hK
    obtain ⟨f, hi⟩ := hg
    have hm := fzn_raw I f hx hod
    have hl : kx.length = es.size := by rw [hk.length, List.length_map, Array.length_toList]
    have hl2 : ux.length = es.size := by rw [hu.length, List.length_map, Array.length_toList]
    have hi2 : i < es.size := by omega
    obtain ⟨x, hx1⟩ : ∃ x, kx[i]? = some x := ⟨kx[i], List.getElem?_eq_getElem hi⟩
    obtain ⟨y, hy1⟩ : ∃ y, ux[i]? = some y := ⟨ux[i], List.getElem?_eq_getElem (by omega)⟩
    obtain ⟨u, hu1, ru⟩ := hk.get hx1
    obtain ⟨v, hv1, rv⟩ := hu.get hy1
    have eu : es[i].key = u := by
      rw [List.getElem?_map, Array.getElem?_toList, Array.getElem?_eq_getElem hi2] at hu1
      exact Option.some.inj hu1
    have ev : es[i].val = v := by
      rw [List.getElem?_map, Array.getElem?_toList, Array.getElem?_eq_getElem hi2] at hv1
      exact Option.some.inj hv1
    obtain ⟨ok, ov, he⟩ := st
    have hlt : it < s.heap.objs.size := Heap.lt_size he
    refine wpAny_pyNext_items_item_raw he hm hi2 fun h' ho hT hz hk' => ?_
    refine ⟨_, rfl, wpAny_letOwnedTupleGo_items (s := { s with heap := h' }) ho fun h'' he' sb => ?_⟩
    have hT2 : h''.get? s.heap.objs.size = some { cls := .type "tuple", data := .seq #[es[i].key, es[i].val] } := (sb.2 _ (Nat.ne_of_gt hlt)).trans hT
    have new : ObjOk X.prog X.w (upd H s.heap.objs.size (.tup [x, y])) h'' s.heap.objs.size (.tup [x, y]) :=
      ⟨by show 2 ≤ sizeLine; decide, [es[i].key, es[i].val], .cons (by rw [eu]; exact ru) (.cons (by rw [ev]; exact rv) .nil), ⟨_, hT2, rfl, _, rfl⟩⟩
    have I1 : Inv X pins σ (upd H s.heap.objs.size (.tup [x, y])) { s with heap := h'' } :=
      I.turnedNew (t' := s.toks) (ch := [it]) (fun b ob hb e => (sb.2 b (by simpa using hb)).trans (hk' b ob (by simpa using hb) e)) hf (Nat.le_refl _) new
    refine ⟨.ref s.heap.objs.size, _, I1, rfl, ⟨_, x, y, hx1, hy1, rfl, I.hok.fresh (Nat.le_refl _), rfl⟩, ⟨es[i].key, es[i].val, he'⟩, fun b hb => ?_⟩
    have e : b = it := by simpa using hb
    rw [e, upd_ne (Nat.ne_of_lt hlt)]
    exact (hf it (by simp)).1
  done := by
    intro X hP hw hK hc i pins s σ H E I hf st hg
    subst hP hw hK
    obtain ⟨f, hi⟩ := hg
    obtain ⟨f0, f1, f2, f3, f4, f5⟩ := hf it (by simp)
    have hm := fzn_raw I f hx hod
    have hl : kx.length = es.size := by rw [hk.length, List.length_map, Array.length_toList]
    obtain ⟨ok, ov, he⟩ := st
    exact wpAny_pyNext_items_end_raw (I.ok.hd hc) he hm (by omega) fun h' eb => ⟨rfl, I.turned (t' := s.toks) (fun b ob hb e => eb b ob hb e) f0 f1 f3 f4 f5⟩
  self := fun A i s Q E st h => let ⟨_, _, e⟩ := st; PySem.W.kcp_self e h
end
/-- a frozen dict -/
structure FD (Z : Zx) (O : Addr → Prop) (ρ : List Addr) (H : Hp) (a : Addr) (ks us : List D) : Prop where
  c : DC Z O ρ H a ks us
  f : ∃ od, Fzn H a od
  n : a ∉ ρ
  o : ¬ O a
theorem Rep.fd {Z : Zx} {O : Addr → Prop} {ρ : List Addr} {H : Hp} {ks us : List D} {v : V} (r : Rep Z O ρ H (.dic ks us) v) : ∃ a, v = .ref a ∧ FD Z O ρ H a ks us := by
  cases r with
  | dicK h n o rk rv => exact ⟨_, rfl, .k _ (.inr ⟨_, h⟩) rk rv, ⟨_, _, h⟩, n, o⟩
  | dicT h n o q rk rv => exact ⟨_, rfl, .t _ _ (.inr ⟨_, h⟩) q rk rv, ⟨_, _, h⟩, n, o⟩
section
variable {X : Cx} {tg e a : Expr} {td : TE} {fa : EF} {apos cpos tpos : Pos} {elts : List Expr} {kk : Nat}
def iXk (Z : Zx) (td : TE) : TI := fun σ H R => td σ H fun x H1 => ∃ O ρ d ks us, x = .ref d ∧ FD Z O ρ H1 d ks us ∧ ∀ od kx, Fzn H1 d od → Reps Z O ρ H1 ks kx → kx.length ≤ sizeLine → R (Itx d od kx) H1
def iXv (Z : Zx) (td : TE) : TI := fun σ H R => td σ H fun x H1 => ∃ O ρ d ks us, x = .ref d ∧ FD Z O ρ H1 d ks us ∧ ∀ od ux, Fzn H1 d od → Reps Z O ρ H1 us ux → ux.length ≤ sizeLine → R (Itx d od ux) H1
def iXi (Z : Zx) (td : TE) : TI := fun σ H R => td σ H fun x H1 => ∃ O ρ d ks us, x = .ref d ∧ FD Z O ρ H1 d ks us ∧ ∀ od kx ux, Fzn H1 d od → Reps Z O ρ H1 ks kx → Reps Z O ρ H1 us ux → kx.length ≤ sizeLine → ux.length = kx.length → R (Itxi d od kx ux) H1
theorem FD.all {pins : List (Addr × Obj)} {σ : L2.St} {H : Hp} {s : Shared} {O : Addr → Prop} {ρ : List Addr} {d : Addr} {ks us : List D} (I : Inv X pins σ H s) (f : FD (Zx.of X) O ρ H d ks us) :
    ∃ (od : Obj) (es : Array DictEntry) (ep : Nat) (kx ux : List V), (d == sysModules) = false ∧ Fzn H d od ∧ od.ExactDict ∧ od.data = .dict es ep ∧ s.heap.DictRaw d es ep ∧ es.size ≤ sizeLine ∧ Reps (Zx.of X) O ρ H ks kx ∧ Vals kx (es.toList.map (·.key)) ∧ Reps (Zx.of X) O ρ H us ux ∧ Vals ux (es.toList.map (·.val)) ∧ kx.length ≤ sizeLine ∧ ux.length = kx.length := by
  obtain ⟨es, ep, kx, ux, lo, raw, hz, rk, vk, ru, vu⟩ := f.c.raw I
  obtain ⟨od, u, hf⟩ := f.f
  have ho := (I.hok d _ hf).1
  have raw' := raw
  obtain ⟨o, ho', hx, hd⟩ := raw'
  rw [ho] at ho'
  cases ho'
  have l1 : kx.length = es.size := by rw [vk.length, List.length_map, Array.length_toList]
  have l2 : ux.length = es.size := by rw [vu.length, List.length_map, Array.length_toList]
  exact ⟨od, es, ep, kx, ux, lo, ⟨u, hf⟩, hx, hd, raw, hz, rk, vk, ru, vu, by omega, by omega⟩
theorem pi_xk (he : PE X e td) : PI X tg e (iXk (Zx.of X) td) := by
  refine ⟨fun pins s σ H R I h => ?_⟩
  refine thn (he.run pins s σ H _ I h) fun u s1 ⟨x, H1, I1, rx, O, ρ, d, ks, us, ex, f, q⟩ => ?_
  subst ex
  obtain rfl : u = Value.ref d := rx
  obtain ⟨od, es, ep, kx, ux, lo, fz, hx, hd, raw, hz, rk, vk, ru, vu, l1, l2⟩ := f.all I1
  exact wpAny_pyIter_dict_raw lo raw (pi_one (tk := s1.toks) I1 _ (turn_xk _ hx hd vk) ⟨_, Heap.get?_push_size _ rfl, rfl, rfl⟩ (q od kx fz rk l1))
theorem pi_xv (he : PE X e td) (hbase : attributeBase e "values" X.env (eval e X.env) = eval e X.env := by rfl) (hline : (apos.endLine == cpos.line) = true := by rfl) : PI X tg (.Call (.Attribute e "values" apos) [] [] cpos) (iXv (Zx.of X) td) := by
  refine ⟨fun pins s σ H R I h => ?_⟩
  refine wpAny_Call_method (T := "dict") (id := "dict.values") hbase rfl hline F.plainAttrs_dict F.slot_dict_values F.type_dict_values (thn (he.run pins s σ H _ I h) fun u s1 ⟨x, H1, I1, rx, O, ρ, d, ks, us, ex, f, q⟩ => ?_)
  subst ex
  obtain rfl : u = Value.ref d := rx
  obtain ⟨od, es, ep, kx, ux, lo, fz, hx, hd, raw, hz, rk, vk, ru, vu, l1, l2⟩ := f.all I1
  refine ⟨raw.typeIs, fun b q => by cases q; obtain ⟨o, ho, hxx, _⟩ := raw; exact ⟨o, ho, hxx.2.1⟩, ?_⟩
  have I2 : Inv X pins σ H1 { s1 with heap := s1.heap.push { cls := .type "dict_values", data := .fields #[.ref d] } } := I1.kept (t' := s1.toks) fun b ob q => Heap.get?_push_of_some _ q
  have raw2 : (s1.heap.push { cls := .type "dict_values", data := .fields #[.ref d] }).DictRaw d es ep := raw.at fun o e => Heap.get?_push_of_some _ e
  have fin : wpAny (model X.prog X.w) X.A (pyIter (.ref s1.heap.objs.size)) (PIE X pins σ tg R) X.xe { s1 with heap := s1.heap.push { cls := .type "dict_values", data := .fields #[.ref d] } } :=
    wpAny_pyIter_values_raw (d := d) ⟨_, Heap.get?_push_size _ rfl, rfl, rfl⟩ raw2 (pi_one (tk := s1.toks) I2 _ (turn_xv _ hx hd vu) ⟨_, Heap.get?_push_size _ rfl, rfl, rfl⟩ (q od ux fz ru (by omega)))
  show wpAny _ _ (callWith cpos (.builtin "dict.values") [.ref d] [] []) _ X.xe s1
  exact method_meetsIn F.slot_dict_values F.entry_dict_values rfl (PySem.evalArgs_none ⟨rfl, raw.typeIs, F.args_dict_values_1 _, _, meets_dict_values_raw d lo, ⟨_, _, raw⟩, fin⟩)
theorem pi_xi (he : PE X e td) (hbase : attributeBase e "items" X.env (eval e X.env) = eval e X.env := by rfl) (hline : (apos.endLine == cpos.line) = true := by rfl) : PI X (.Tuple elts kk tpos) (.Call (.Attribute e "items" apos) [] [] cpos) (iXi (Zx.of X) td) := by
  refine ⟨fun pins s σ H R I h => ?_⟩
  refine wpAny_Call_method (T := "dict") (id := "dict.items") hbase rfl hline F.plainAttrs_dict F.slot_dict_items F.type_dict_items (thn (he.run pins s σ H _ I h) fun u s1 ⟨x, H1, I1, rx, O, ρ, d, ks, us, ex, f, q⟩ => ?_)
  subst ex
  obtain rfl : u = Value.ref d := rx
  obtain ⟨od, es, ep, kx, ux, lo, fz, hx, hd, raw, hz, rk, vk, ru, vu, l1, l2⟩ := f.all I1
  refine ⟨raw.typeIs, fun b q => by cases q; obtain ⟨o, ho, hxx, _⟩ := raw; exact ⟨o, ho, hxx.2.1⟩, ?_⟩
  have I2 : Inv X pins σ H1 { s1 with heap := s1.heap.push { cls := .type "dict_items", data := .fields #[.ref d] } } := I1.kept (t' := s1.toks) fun b ob q => Heap.get?_push_of_some _ q
  have raw2 : (s1.heap.push { cls := .type "dict_items", data := .fields #[.ref d] }).DictRaw d es ep := raw.at fun o e => Heap.get?_push_of_some _ e
  have fin : wpAny (model X.prog X.w) X.A (pyIter (.ref s1.heap.objs.size)) (PIE X pins σ (.Tuple elts kk tpos) R) X.xe { s1 with heap := s1.heap.push { cls := .type "dict_items", data := .fields #[.ref d] } } :=
    wpAny_pyIter_items_raw (d := d) ⟨_, Heap.get?_push_size _ rfl, rfl, rfl⟩ raw2 (pi_one (tk := s1.toks) I2 _ (turn_xi _ hx hd vk vu) ⟨.none, .none, Heap.get?_push_size _ rfl⟩ (q od kx ux fz rk ru l1 l2))
  show wpAny _ _ (callWith cpos (.builtin "dict.items") [.ref d] [] []) _ X.xe s1
  exact method_meetsIn F.slot_dict_items F.entry_dict_items rfl (PySem.evalArgs_none ⟨rfl, raw.typeIs, F.args_dict_items_1 _, _, meets_dict_items_raw d lo, ⟨_, _, raw⟩, fin⟩)

/-! ### .. as functions -/
theorem it_x {Z : Zx} {O : Addr → Prop} {ρ : List Addr} {H : Hp} {d : Addr} {od : Obj} {vs : List V} {xs : List D} (f : Fzn H d od) (n : d ∉ ρ) (no : ¬ O d) (r : Reps Z O ρ H xs vs) (hz : vs.length ≤ sizeLine) : ItOk Z O (Itx d od vs) (srcL xs) ρ H := by
  intro ρ2 h2 H2 i b m R
  have q : Fzn H2 d od := by obtain ⟨u, f⟩ := f; exact ⟨u, m.keep d _ f n no⟩
  refine ⟨fun e => ?_, fun d' e => ?_⟩
  · unfold srcL at e
    exact ⟨q, by rw [← r.length]; simpa using e⟩
  · unfold srcL at e
    have e' : xs[i]? = some d' := by simpa using e
    obtain ⟨v, hv, rv⟩ := (r.mvO m).get e'
    have h2 := (List.getElem?_eq_some_iff.mp hv).1
    refine ⟨by rw [szL_eq]; omega, ⟨q, h2⟩, fun x H3 ⟨eH, y⟩ => ?_⟩
    subst eH
    rw [hv] at y
    cases y
    exact ⟨Mv.refl, R, rv⟩
def prS (ks us : List D) : Src := fun _ i => match ks[i]?, us[i]? with
  | some k, some v => some (some (.tup [k, v]))
  | none, _ => some none
  | _, _ => none
theorem it_xi {Z : Zx} {O : Addr → Prop} {ρ : List Addr} {H : Hp} {d : Addr} {od : Obj} {kx ux : List V} {ks us : List D} (f : Fzn H d od) (n : d ∉ ρ) (no : ¬ O d) (r : Reps Z O ρ H ks kx) (r2 : Reps Z O ρ H us ux) (hz : kx.length ≤ sizeLine) : ItOk Z O (Itxi d od kx ux) (prS ks us) ρ H := by
  intro ρ2 h2 H2 i b m R
  have q : Fzn H2 d od := by obtain ⟨u, f⟩ := f; exact ⟨u, m.keep d _ f n no⟩
  unfold prS
  refine ⟨fun e => ?_, fun d' e => ?_⟩
  · split at e
    · cases e
    · rename_i ek
      exact ⟨q, by rw [← r.length]; simpa using ek⟩
    · cases e
  · split at e
    · rename_i k v ek ev
      cases e
      obtain ⟨x, hx, rx⟩ := (r.mvO m).get ek
      obtain ⟨y, hy, ry⟩ := (r2.mvO m).get ev
      have h2 := (List.getElem?_eq_some_iff.mp hx).1
      refine ⟨by rw [szL_eq]; omega, ⟨q, h2⟩, fun x' H3 ⟨T, k', v', hk, hv, ex, hT, eH⟩ => ?_⟩
      subst eH ex
      rw [hx] at hk
      rw [hy] at hv
      cases hk
      cases hv
      exact ⟨fresh_mv hT, R.fresh hT, new_tup R hT (.cons rx (.cons ry .nil))⟩
    · cases e
    · cases e
def iDk (fa : EF) : IF := fun σ h => match fa σ h with | some (.dic ks us, h1) => some (srcL ks, ks.length + 1, h1) | _ => none
def iDv (fa : EF) : IF := fun σ h => match fa σ h with | some (.dic ks us, h1) => some (srcL us, us.length + 1, h1) | _ => none
def iDi (fa : EF) : IF := fun σ h => match fa σ h with | some (.dic ks us, h1) => some (prS ks us, ks.length + 1, h1) | _ => none
theorem i_dk (ha : SE X a fa) : SI X tg a (iDk fa) := imI (pi_xk ha) fun τ H R b0 q => by
  obtain ⟨O, ρ, σ, h, g, n, h', Rr, e, k⟩ := q b0
  unfold iDk at e
  split at e
  · rename_i ks us h1 ea
    cases e
    refine one Rr ea fun v ρ1 H1 b1 m1 r1 p1 => ?_
    obtain ⟨d, rfl, f⟩ := p1.fd
    exact ⟨O, ρ1, d, ks, us, rfl, f, fun od kx fz rk l1 b => k _ ρ1 H1 b m1 r1 fun O' _ g2 => it_x (Z := Zx.of X) fz f.n (fun z => f.o (by obtain ⟨u, q⟩ := fz; exact g2 _ _ q z)) (rk.grow g2) l1⟩
  · cases e
theorem i_dv (ha : SE X a fa) (hbase : attributeBase a "values" X.env (eval a X.env) = eval a X.env := by rfl) (hline : (apos.endLine == cpos.line) = true := by rfl) : SI X tg (.Call (.Attribute a "values" apos) [] [] cpos) (iDv fa) := imI (pi_xv ha hbase hline) fun τ H R b0 q => by
  obtain ⟨O, ρ, σ, h, g, n, h', Rr, e, k⟩ := q b0
  unfold iDv at e
  split at e
  · rename_i ks us h1 ea
    cases e
    refine one Rr ea fun v ρ1 H1 b1 m1 r1 p1 => ?_
    obtain ⟨d, rfl, f⟩ := p1.fd
    exact ⟨O, ρ1, d, ks, us, rfl, f, fun od kx fz rk l1 b => k _ ρ1 H1 b m1 r1 fun O' _ g2 => it_x (Z := Zx.of X) fz f.n (fun z => f.o (by obtain ⟨u, q⟩ := fz; exact g2 _ _ q z)) (rk.grow g2) l1⟩
  · cases e
theorem i_di (ha : SE X a fa) (hbase : attributeBase a "items" X.env (eval a X.env) = eval a X.env := by rfl) (hline : (apos.endLine == cpos.line) = true := by rfl) : SI X (.Tuple elts kk tpos) (.Call (.Attribute a "items" apos) [] [] cpos) (iDi fa) := imI (pi_xi ha hbase hline) fun τ H R b0 q => by
  obtain ⟨O, ρ, σ, h, g, n, h', Rr, e, k⟩ := q b0
  unfold iDi at e
  split at e
  · rename_i ks us h1 ea
    cases e
    refine one Rr ea fun v ρ1 H1 b1 m1 r1 p1 => ?_
    obtain ⟨d, rfl, f⟩ := p1.fd
    exact ⟨O, ρ1, d, ks, us, rfl, f, fun od kx ux fz rk ru l1 _ b => k _ ρ1 H1 b m1 r1 fun O' _ g2 => it_xi (Z := Zx.of X) fz f.n (fun z => f.o (by obtain ⟨u, q⟩ := fz; exact g2 _ _ q z)) (rk.grow g2) (ru.grow g2) l1⟩
  · cases e
end
end TB
namespace TB
open PySem PySem.Spec PyProof.Rows L2

/-! ### list comprehensions with two for -/
def lc2N (g : Src) (gt : GF) (ft : EF) (fi1 : IF) (gt1 : GF) (ft1 fe : EF) (own own1 : List Nat) : Nat → Nat → Fr → Hs → Option (List D × Hs)
  | 0, _, _, _ => none
  | m + 1, i, σ, h => match g h i with
    | some none => some ([], h)
    | some (some d) => (match gt d (wipeD σ own) h with
      | some (σ1, h1) => (match ft σ1 h1 with
        | some (.bl true, h2) => (match fi1 σ1 h2 with
          | some (g1, n1, h3) => (match lcN g1 gt1 ft1 fe own1 n1 0 σ1 h3 with
            | some (zs, h4) => (match lc2N g gt ft fi1 gt1 ft1 fe own own1 m (i + 1) σ h4 with
              | some (ys, h5) => some (zs ++ ys, h5)
              | none => none)
            | none => none)
          | none => none)
        | some (.bl false, h2) => lc2N g gt ft fi1 gt1 ft1 fe own own1 m (i + 1) σ h2
        | _ => none)
      | none => none)
    | none => none
def eLc2 (fi : IF) (gt : GF) (ft : EF) (fi1 : IF) (gt1 : GF) (ft1 fe : EF) (own own1 : List Nat) : EF := fun σ h => match fi σ h with
  | some (g, n, h1) => (match lc2N g gt ft fi1 gt1 ft1 fe own own1 n 0 σ h1 with
    | some (ys, h2) => if ys.length ≤ szL then some (.lst ys, h2) else none
    | none => none)
  | none => none
theorem MvO.trans {O : Addr → Prop} {ρ ρ' ρ2 : List Addr} {H H' H2 : Hp} (m : MvO O ρ H ρ' H') (n : MvO O ρ' H' ρ2 H2) (hd : ∀ a ∈ ρ', ∃ o, H' a = some o) : MvO O ρ H ρ2 H2 := by
  obtain ⟨l, e, hl⟩ := m.pre
  obtain ⟨l2, e2, hl2⟩ := n.pre
  refine ⟨⟨l ++ l2, by rw [e2, e, List.append_assoc], fun a ha => ?_⟩, fun a o h k oa => n.keep a o (m.keep a o h k oa) (m.out h k) oa, fun a vs h k => n.tup a vs (m.tup a vs h k) (m.out h k), fun a o h k => let ⟨o', h'⟩ := m.dom a o h k; n.dom a o' h' (m.out h k)⟩
  rcases List.mem_append.mp ha with q | q
  · exact hl a q
  · cases z : H a with
    | none => rfl
    | some o =>
      by_cases ka : a ∈ ρ
      · obtain ⟨o', ho⟩ := hd a (by rw [e]; exact List.mem_append_left _ ka)
        rw [hl2 a q] at ho; cases ho
      · obtain ⟨o', ho⟩ := m.dom a o z ka
        rw [hl2 a q] at ho; cases ho
theorem lc2_of {X : Cx} {fi fi1 : IF} {gt gt1 : GF} {ft ft1 fe : EF} {own own1 ws ws1 : List Nat} (hs : ∀ j ∈ ws, j ∈ own) (hs1 : ∀ j ∈ ws1, j ∈ own1) {τ : L2.St} {H : Hp} {Q : VK} (b0 : BH X.K H) (q : tE (Zx.of X) (eLc2 fi gt ft fi1 gt1 ft1 fe own own1) τ H Q) :
    tLc2 (tI (Zx.of X) fi) (tG (Zx.of X) gt ws) (tT (Zx.of X) ft) (tI (Zx.of X) fi1) (tG (Zx.of X) gt1 ws1) (tT (Zx.of X) ft1) (tE (Zx.of X) fe) own own1 τ H fun v H' => BH X.K H' → Q v H' := by
  obtain ⟨O, ρ0, σ, h0, d, hf, R0, e0, k⟩ := q b0
  unfold eLc2 at e0
  split at e0
  · rename_i g n h1 ei
    split at e0
    · rename_i ys' hf' el
      split at e0
      · rename_i hsz
        simp only [Option.some.injEq, Prod.mk.injEq] at e0
        obtain ⟨rfl, rfl⟩ := e0
        refine fun _ => ⟨O, ρ0, σ, h0, g, n, h1, R0, ei, fun J ρ1 H1 b1 m1 r1 it => fun D hD => ?_⟩
        have fD := r1.free hD
        have g1 : ∀ a o, H1 a = some o → (O a ∨ a = D) → O a := fun a o e z => z.elim id fun z => by subst z; rw [hD] at e; cases e
        have it := it (fun a => O a ∨ a = D) (fun _ z => .inl z) g1
        have hS : RepS (Zx.of X) (fun a => O a ∨ a = D) ρ1 H1 σ τ := (R0.s.mv m1).grow g1
        have mD : Mv ρ1 H1 ρ1 (upd H1 D (.lst [])) := fresh_mv hD
        have rD : Rl (Zx.of X) (fun a => O a ∨ a = D) ρ1 h1 (upd H1 D (.lst [])) := r1.more hD
        have bD : BH X.K (upd H1 D (.lst [])) := bh_upd b1 (Nat.zero_le _)
        refine ⟨fun i m H' => ∃ ρ h acc av ys, BH X.K H' ∧ Mv ρ1 H1 ρ H' ∧ Rl (Zx.of X) (fun a => O a ∨ a = D) ρ h H' ∧ H' D = some (.lst av) ∧ Reps (Zx.of X) (fun a => O a ∨ a = D) ρ H' acc av ∧
          lc2N g gt ft fi1 gt1 ft1 fe own own1 m i σ h = some (ys, hf') ∧ acc ++ ys = ys', ⟨n, ρ1, h1, [], [], ys', bD, mD, rD, upd_same, .nil, el, rfl⟩, ?_⟩
        rintro i m H2 ⟨ρ, h, acc, av, ys, b2, m2, r2, e2, ra, e, et⟩
        have hdD : D ∉ ρ := fun z => r2.dis D z (.inr rfl)
        cases m with
        | zero => cases e
        | succ m =>
          unfold lc2N at e
          obtain ⟨i1, i2⟩ := it ρ h H2 i b2 m2.toO r2
          split at e
          · rename_i eg
            cases e
            refine .inl ⟨i1 eg, fun b => ?_⟩
            have gb : ∀ a o, H2 a = some o → O a → (O a ∨ a = D) := fun _ _ _ z => .inl z
            have r3 := r2.grow (O' := O) gb (fun a z => r2.dom a (.inl z))
            rw [List.append_nil] at et
            subst et
            exact k (.ref D) ρ H2 b (Rw.tr m1 r1 m2) r3 (.lst ⟨e2, hdD, fD.2⟩ (ra.grow gb))
          · rename_i d eg
            obtain ⟨li, go, yl⟩ := i2 d eg
            refine .inr ⟨go, fun H' => ∃ ρ h acc av ys, BH X.K H' ∧ Mv ρ1 H1 ρ H' ∧ Rl (Zx.of X) (fun a => O a ∨ a = D) ρ h H' ∧ H' D = some (.lst av) ∧ Reps (Zx.of X) (fun a => O a ∨ a = D) ρ H' acc av ∧
              lc2N g gt ft fi1 gt1 ft1 fe own own1 m (i + 1) σ h = some (ys, hf') ∧ acc ++ ys = ys', fun H' q => ⟨m, Nat.lt_succ_self _, q⟩, fun x H3 y => ?_⟩
            obtain ⟨m3, r3, p3⟩ := yl x H3 y
            have m13 := Rw.tr m2 r2 m3
            split at e
            · rename_i σ4 h4 eg4
              refine fun _ => ⟨fun a => O a ∨ a = D, ρ, wipeD σ own, h, d, σ4, h4, ⟨r3, (hS.mv m13).wipe own⟩, p3, eg4, fun τ4 ρ4 H4 b4 m4 R4 c4 l4 => ?_⟩
              refine ⟨wipe_eq l4 c4 hs, ?_⟩
              have m14 := Rw.tr m13 r3 m4
              split at e
              · rename_i h5 et5
                refine tone R4 et5 fun ρ5 H5 b5 m5 r5 => ?_
                rw [if_pos rfl]
                have m15 := Rw.tr m14 R4.l m5
                have R5 := R4.mv m5 r5
                split at e
                · rename_i g1' n1' h6 ei1
                  split at e
                  · rename_i zs h7 el7
                    split at e
                    · rename_i ws' h8 el8
                      cases e
                      refine fun _ => ⟨fun a => O a ∨ a = D, ρ5, σ4, h5, g1', n1', h6, R5, ei1, fun J1 ρ6 H6 b6 m6 r6 it1 => ?_⟩
                      have it1 := it1 (fun a => O a ∨ a = D) (fun _ z => z) fun _ _ _ z => z
                      have m16 := Rw.tr m15 r5 m6
                      have S6 : RepS (Zx.of X) (fun a => O a ∨ a = D) ρ6 H6 σ4 τ4 := R5.s.mv m6
                      have m26 : Mv ρ H2 ρ6 H6 := Rw.tr m3 r3 (Rw.tr m4 R4.l (Rw.tr m5 r5 m6))
                      have mD6 : H6 D = some (.lst av) := m26.keep D _ e2 hdD
                      refine ⟨fun j kk H' => ∃ ρ h acc1 av1 zs1, BH X.K H' ∧ Mv ρ1 H1 ρ H' ∧ Rl (Zx.of X) (fun a => O a ∨ a = D) ρ h H' ∧ H' D = some (.lst av1) ∧ Reps (Zx.of X) (fun a => O a ∨ a = D) ρ H' acc1 av1 ∧
                        lcN g1' gt1 ft1 fe own1 kk j σ4 h = some (zs1, h7) ∧ acc1 ++ (zs1 ++ ws') = ys' ∧ RepS (Zx.of X) (fun a => O a ∨ a = D) ρ H' σ4 τ4 ∧ ItOk (Zx.of X) (fun a => O a ∨ a = D) J1 g1' ρ H', ⟨n1', ρ6, h6, acc, av, zs, b6, m16, r6, mD6, ra.mv m26, el7, et, S6, it1⟩, ?_⟩
                      rintro j kk H7 ⟨ρ7, h7', acc1, av1, zs1, b7, m17, r7, e7, ra7, el1, et1, S7, it7⟩
                      have hd7 : D ∉ ρ7 := fun z => r7.dis D z (.inr rfl)
                      cases kk with
                      | zero => cases el1
                      | succ kk =>
                        unfold lcN at el1
                        obtain ⟨k1, k2⟩ := it7 ρ7 h7' H7 j b7 Mv.refl.toO r7
                        split at el1
                        · rename_i eg1
                          cases el1
                          exact .inl ⟨k1 eg1, ρ7, _, acc1, av1, ws', b7, m17, r7, e7, ra7, el8, by simpa using et1⟩
                        · rename_i d1 eg1
                          obtain ⟨lj, go1, yl1⟩ := k2 d1 eg1
                          refine .inr ⟨go1, fun H' => ∃ ρ h acc1 av1 zs1, BH X.K H' ∧ Mv ρ1 H1 ρ H' ∧ Rl (Zx.of X) (fun a => O a ∨ a = D) ρ h H' ∧ H' D = some (.lst av1) ∧ Reps (Zx.of X) (fun a => O a ∨ a = D) ρ H' acc1 av1 ∧
                            lcN g1' gt1 ft1 fe own1 kk (j + 1) σ4 h = some (zs1, h7) ∧ acc1 ++ (zs1 ++ ws') = ys' ∧ RepS (Zx.of X) (fun a => O a ∨ a = D) ρ H' σ4 τ4 ∧ ItOk (Zx.of X) (fun a => O a ∨ a = D) J1 g1' ρ H', fun H' q => ⟨kk, Nat.lt_succ_self _, q⟩, fun x1 H8 y1 => ?_⟩
                          obtain ⟨m8, r8, p8⟩ := yl1 x1 H8 y1
                          have m18 := Rw.tr m17 r7 m8
                          split at el1
                          · rename_i σ9 h9 eg9
                            refine fun _ => ⟨fun a => O a ∨ a = D, ρ7, wipeD σ4 own1, h7', d1, σ9, h9, ⟨r8, (S7.mv m8).wipe own1⟩, p8, eg9, fun τ9 ρ9 H9 b9 m9 R9 c9 l9 => ?_⟩
                            refine ⟨wipe_eq l9 c9 hs1, ?_⟩
                            have m79 := Rw.tr m8 r8 m9
                            have m19 := Rw.tr m17 r7 m79
                            split at el1
                            · rename_i h10 et10
                              refine tone R9 et10 fun ρ10 H10 b10 m10 r10 => ?_
                              rw [if_pos rfl]
                              split at el1
                              · rename_i y11 h11 ey
                                refine one (R9.mv m10 r10) ey fun v11 ρ11 H11 b11 m11 r11 p11 => ?_
                                have m711 : Mv ρ7 H7 ρ11 H11 := Rw.tr m79 R9.l (Rw.tr m10 r10 m11)
                                have m111 := Rw.tr m17 r7 m711
                                have mD11 : H11 D = some (.lst av1) := m711.keep D _ e7 hd7
                                split at el1
                                · rename_i ys12 h12 el12
                                  cases el1
                                  have ml : av1.length < sizeLine := by
                                    have q1 := ra7.length
                                    have q2 := congrArg List.length et1
                                    simp only [List.length_append, List.length_cons] at q2
                                    rw [← szL_eq]; omega
                                  have bN : BH X.K (upd H11 D (.lst (av1 ++ [v11]))) := bh_upd b11 (by rw [List.length_append, List.length_singleton]; omega)
                                  have hnt : ∀ vs, H11 D ≠ some (.tup vs) := fun vs z => by rw [mD11] at z; cases z
                                  have mO : MvO (fun a => O a ∨ a = D) ρ7 H7 ρ11 (upd H11 D (.lst (av1 ++ [v11]))) :=
                                    ⟨m711.pre, fun a o ea na oa => by rw [upd_ne (fun z => oa (.inr z))]; exact m711.keep a o ea na, fun a vs ea na => by
                                      rw [upd_ne (fun z => by subst z; rw [e7] at ea; cases ea)]; exact m711.keep a _ ea na, fun a o ea na => by
                                      by_cases z : a = D
                                      · exact ⟨_, by rw [z]; exact upd_same⟩
                                      · exact ⟨o, by rw [upd_ne z]; exact m711.keep a o ea na⟩⟩
                                  refine ⟨av1, mD11, ml, ρ11, h11, acc1 ++ [y11], av1 ++ [v11], ys12, bN, ⟨m111.pre, fun a o ea na => ?_⟩, r11.chg (.inr rfl) hnt, upd_same, ((ra7.mv m711).snoc p11).chg (.inr rfl) hnt, el12, by rw [List.append_assoc]; exact et1, ⟨S7.1, fun q dq eq => ?_⟩, fun ρz hz Hz iz bz mz rz => it7 ρz hz Hz iz bz (mO.trans mz (fun a z => ?_)) rz⟩
                                  · have : a ≠ D := fun z => by subst z; rw [hD] at ea; cases ea
                                    rw [upd_ne this]
                                    exact m111.keep a o ea na
                                  · obtain ⟨v, h1', h2'⟩ := (S7.mv m711).2 q dq eq
                                    exact ⟨v, h1', h2'.chg (.inr rfl) hnt⟩
                                  · obtain ⟨o, ho⟩ := r11.there z
                                    have : a ≠ D := fun z2 => r11.dis a z (.inr z2)
                                    exact ⟨o, by rw [upd_ne this]; exact ho⟩
                                · cases el1
                              · cases el1
                            · rename_i h10 et10
                              refine tone R9 et10 fun ρ10 H10 b10 m10 r10 => ?_
                              rw [if_neg Bool.false_ne_true]
                              have m710 : Mv ρ7 H7 ρ10 H10 := Rw.tr m79 R9.l m10
                              exact ⟨ρ10, h10, acc1, av1, zs1, b10, Rw.tr m17 r7 m710, r10, m710.keep D _ e7 hd7, ra7.mv m710, el1, et1, S7.mv m710, fun ρz hz Hz iz bz mz rz => it7 ρz hz Hz iz bz (m710.toO.trans mz (fun a z => r10.there z)) rz⟩
                            · cases el1
                          · cases el1
                        · cases el1
                    · cases e
                  · cases e
                · cases e
              · rename_i h5 et5
                refine tone R4 et5 fun ρ5 H5 b5 m5 r5 => ?_
                rw [if_neg Bool.false_ne_true]
                have m15 := Rw.tr m14 R4.l m5
                have m25 : Mv ρ H2 ρ5 H5 := Rw.tr m3 r3 (Rw.tr m4 R4.l m5)
                exact ⟨ρ5, h5, acc, av, ys, b5, m15, r5, m25.keep D _ e2 hdD, ra.mv m25, e, et⟩
              · cases e
            · cases e
          · cases e
      · cases e0
    · cases e0
  · cases e0
section
variable {X : Cx} {elt tg iter tg1 iter1 c a : Expr} {es : List Expr} {ifs ifs1 : List Expr} {scope : Scope} {own : List (Str × Nat)} {pos spos p : Pos} {fi fi1 : IF} {gt gt1 : GF} {ft ft1 fe : EF} {ws ws1 vs1 : List Nat} {fr : AF}
theorem s_lc2 (hc : X.calm = true) (hN : X.N.Nodup) (hi : SI X tg iter fi) (ok : BlkOk X.N X.env.scope scope own) (hw : ∀ j ∈ ws, j ∈ own.map (·.2)) (hw1 : ∀ j ∈ ws1, j ∈ vs1) (hv : ∀ i ∈ vs1, i ∈ own.map (·.2))
    (hg : ∀ (s : Shared) (H : Hp) (C : Addr) (cl : List (Str × Addr)) (fp : List Addr), SG (X.blk s H scope (compEnvC scope cl C X.env) fp) tg gt ws) (ht : ∀ (s : Shared) (H : Hp) (C : Addr) (cl : List (Str × Addr)) (fp : List Addr), SPT (X.blk s H scope (compEnvC scope cl C X.env) fp) ifs ft)
    (hi1 : ∀ (s : Shared) (H : Hp) (C : Addr) (cl : List (Str × Addr)) (fp : List Addr), SI (X.blk s H scope (compEnvC scope cl C X.env) fp) tg1 iter1 fi1)
    (hg1 : ∀ (s : Shared) (H : Hp) (C : Addr) (cl : List (Str × Addr)) (fp : List Addr), SG (X.blk s H scope (compEnvC scope cl C X.env) fp) tg1 gt1 ws1) (ht1 : ∀ (s : Shared) (H : Hp) (C : Addr) (cl : List (Str × Addr)) (fp : List Addr), SPT (X.blk s H scope (compEnvC scope cl C X.env) fp) ifs1 ft1)
    (he : ∀ (s : Shared) (H : Hp) (C : Addr) (cl : List (Str × Addr)) (fp : List Addr), SE (X.blk s H scope (compEnvC scope cl C X.env) fp) elt fe) (hs : ∀ x, foldedSetIterable iter X.env x = pure x := by intro _; rfl) (hs1 : ∀ env x, foldedSetIterable iter1 env x = pure x := by intro _ _; rfl) :
    SE X (.ListComp elt [⟨tg, iter, ifs, 0⟩, ⟨tg1, iter1, ifs1, 0⟩] scope pos) (eLc2 fi gt ft fi1 gt1 ft1 fe (own.map (·.2)) vs1) :=
  imE (pe_lc2 (g := tG (Zx.of X) gt ws) (tt := tT (Zx.of X) ft) (wi1 := tI (Zx.of X) fi1) (g1 := tG (Zx.of X) gt1 ws1) (tt1 := tT (Zx.of X) ft1) (te := tE (Zx.of X) fe) hc hN hi ok hv hg ht hi1 hg1 ht1 he hs hs1) fun _ _ _ b0 q => lc2_of hw hw1 b0 q
theorem ss_setLc2 {i : Nat} {y : Str} {py : Pos} (hc : X.calm = true) (hN : X.N.Nodup) (hsw : swapsWith (.ListComp elt [⟨tg, iter, ifs, 0⟩, ⟨tg1, iter1, ifs1, 0⟩] scope pos) (some (.Name y py)) spos.line X.env = pure true) (hi : SI X tg iter fi) (ok : BlkOk X.N X.env.scope scope own) (hw : ∀ j ∈ ws, j ∈ own.map (·.2)) (hw1 : ∀ j ∈ ws1, j ∈ vs1) (hv : ∀ i ∈ vs1, i ∈ own.map (·.2))
    (hg : ∀ (s : Shared) (H : Hp) (C : Addr) (cl : List (Str × Addr)) (fp : List Addr), SG (X.blk s H scope (compEnvC scope cl C X.env) fp) tg gt ws) (ht : ∀ (s : Shared) (H : Hp) (C : Addr) (cl : List (Str × Addr)) (fp : List Addr), SPT (X.blk s H scope (compEnvC scope cl C X.env) fp) ifs ft)
    (hi1 : ∀ (s : Shared) (H : Hp) (C : Addr) (cl : List (Str × Addr)) (fp : List Addr), SI (X.blk s H scope (compEnvC scope cl C X.env) fp) tg1 iter1 fi1)
    (hg1 : ∀ (s : Shared) (H : Hp) (C : Addr) (cl : List (Str × Addr)) (fp : List Addr), SG (X.blk s H scope (compEnvC scope cl C X.env) fp) tg1 gt1 ws1) (ht1 : ∀ (s : Shared) (H : Hp) (C : Addr) (cl : List (Str × Addr)) (fp : List Addr), SPT (X.blk s H scope (compEnvC scope cl C X.env) fp) ifs1 ft1)
    (he : ∀ (s : Shared) (H : Hp) (C : Addr) (cl : List (Str × Addr)) (fp : List Addr), SE (X.blk s H scope (compEnvC scope cl C X.env) fp) elt fe) (hy : X.N[i]? = some y := by rfl) (hyl : X.env.scope.names.lookup y = some .local := by rfl) (hs : ∀ x, foldedSetIterable iter X.env x = pure x := by intro _; rfl) (hs1 : ∀ env x, foldedSetIterable iter1 env x = pure x := by intro _ _; rfl) :
    SS X (.Assign [.Name y py] (.ListComp elt [⟨tg, iter, ifs, 0⟩, ⟨tg1, iter1, ifs1, 0⟩] scope pos) spos) (sAsg (eLc2 fi gt ft fi1 gt1 ft1 fe (own.map (·.2)) vs1) (gN i)) :=
  imS (ps_setLc2 (g := tG (Zx.of X) gt ws) (tt := tT (Zx.of X) ft) (wi1 := tI (Zx.of X) fi1) (g1 := tG (Zx.of X) gt1 ws1) (tt1 := tT (Zx.of X) ft1) (te := tE (Zx.of X) fe) hc hN hy hyl hsw hi ok hv hg ht hi1 hg1 ht1 he hs hs1) fun De τ H b0 q => by
    obtain ⟨O, ρ, σ, h, o, R, e, k⟩ := q b0
    unfold sAsg at e
    split at e
    · rename_i d h1 ea
      simp only [gN] at e
      cases e
      have z : tE (Zx.of X) (eLc2 fi gt ft fi1 gt1 ft1 fe (own.map (·.2)) vs1) τ H fun v H' => De.nx (τ.set i (some v)) H' := fun _ => ⟨O, ρ, σ, h, d, h1, R, ea, fun v ρ1 H1 b1 m1 r1 p1 => k _ ρ1 H1 b1 m1 ⟨r1, (R.s.mv m1).set i p1⟩⟩
      exact lc2_of hw hw1 b0 z
    · cases e

/-! ### list(x), to be changed -/
def lstO (h : Hs) (ds : List D) : Option (D × Hs) := match ds with | [d] => (match viewQ h d with | some xs => some (.ref h.length, h ++ [.lst xs]) | none => none) | _ => none
theorem s_listO (hg : Gl X "list") (hm : X.mg "list" = none) (ha : SA X [a] fr) (he : starEach [a] X.env = (false, eval a X.env) :: starEach [] X.env := by rfl) (hpl : (backTo pos (starEach [] X.env)).any (·.1) = false := by rfl) :
    SE X (.Call (.Name "list" p) [a] [] pos) (eArgsH fr lstO) := imE (pe_callTy call_list_of hg hm (by decide +kernel) ha (by decide) (by decide) he hpl) fun τ H Q b0 q => by
  obtain ⟨O, ρ, σ, h, d, h', R, e, k⟩ := q b0
  unfold eArgsH at e
  split at e
  · rename_i ds h1 ea
    refine aone R ea fun vs ρ1 H1 b1 m1 r1 p1 => ?_
    unfold lstO at e
    split at e
    · rename_i d1
      split at e
      · rename_i xs ex
        cases e
        obtain ⟨v, rfl, rv⟩ := p1.one
        obtain ⟨q1, us, rfl, hq, ru⟩ := viewQ_rep r1 ex rv
        refine ⟨q1, us, rfl, hq, fun l hl b => ?_⟩
        obtain ⟨m, rl, rp⟩ := own_new (u := .lst us) (o := .lst xs) r1 hl ⟨us, upd_same, ru.mv (own_mv hl)⟩
        exact k _ _ _ b (Rw.tr m1 r1 m) rl rp
      · cases e
    · cases e
  · cases e
end
end TB
namespace TB
open PySem PySem.Spec PyProof.Rows L2

/-! ### reasoning about the functions -/
theorem szl0 : (0 ≤ szL) = True := by simp
theorem szl1 : (1 ≤ szL) = True := eq_true (by decide)
theorem szl2 : (2 ≤ szL) = True := eq_true (by decide)
theorem szl3 : (3 ≤ szL) = True := eq_true (by decide)
theorem szl4 : (4 ≤ szL) = True := eq_true (by decide)
theorem szl5 : (5 ≤ szL) = True := eq_true (by decide)
theorem lt_szL {n : Nat} (h : n ≤ 10000000) : n < szL := by rw [szL]; omega
theorem le_szL {n : Nat} (h : n ≤ 10000000) : n ≤ szL := by rw [szL]; omega
theorem ltI_i {h : Hs} {i j : Int} : ltI h (.int i) (.int j) = some (.bl (decide (i < j))) := rfl
theorem leI_i {h : Hs} {i j : Int} : leI h (.int i) (.int j) = some (.bl (decide (i ≤ j))) := rfl
theorem gtI_i {h : Hs} {i j : Int} : gtI h (.int i) (.int j) = some (.bl (decide (j < i))) := rfl
theorem geI_i {h : Hs} {i j : Int} : geI h (.int i) (.int j) = some (.bl (decide (j ≤ i))) := rfl
theorem subD_i {h : Hs} {i j : Int} : subD h (.int i) (.int j) = some (.int (i - j)) := rfl
theorem addD_i {h : Hs} {i j : Int} : addD h (.int i) (.int j) = some (.int (i + j)) := rfl
theorem modD_i {h : Hs} {i j : Int} (hj : 0 < j) : modD h (.int i) (.int j) = some (.int (i % j)) := by
  unfold modD int2
  simp [hj]
theorem divD_i {h : Hs} {i j : Int} (hj : 0 < j) (hk : j < 1073741824) : divD h (.int i) (.int j) = some (.int (i / j)) := by
  unfold divD int2
  simp [hj, hk]
theorem mulD_i {h : Hs} {i j : Int} (hj : -p64 < j ∧ j < p64) : mulD h (.int i) (.int j) = some (.int (i * j)) := by
  unfold mulD mulI int2
  simp [hj]
theorem mulD_j {h : Hs} {i j : Int} (hj : -p64 < i ∧ i < p64) : mulD h (.int i) (.int j) = some (.int (i * j)) := by
  unfold mulD mulI int2
  simp [hj]
theorem filter_tt {α : Type} (l : List α) : l.filter (fun _ => true) = l := List.filter_eq_self.mpr fun _ _ => rfl
theorem callP_nr {s : List D → Option D} {h : Hs} {ds : List D} (n : nrA ds = true) : callP s h ds = s ds := by unfold callP; rw [if_pos n]
theorem fzN_nr {n0 n : Nat} {h : Hs} {d : D} (e : d.nr = true) : fzN n0 n h d = some d := by
  cases n <;> (unfold fzN; rw [if_pos e])
theorem fz_nr {h : Hs} {d : D} (e : d.nr = true) : fz h d = some d := fzN_nr e
theorem runP_rt {np n : Nat} {f : SF} {ds : List D} {d d' : D} {h : Hs} (hl : ds.length = np) (e : f (start0 n ds) [] = some (.rt d h)) (z : fz h d = some d') : runP np n f ds = some d' := by
  unfold runP runB
  rw [if_pos hl, e]
  exact z
/-- a for, by an invariant of turn, slots, heap -/
theorem for_inv {Q : Out → Prop} {g : Src} {gt : GF} {fb : SF} (P : Nat → Fr → Hs → Prop) (n : Nat)
    (step : ∀ i σ h, i < n → P i σ h → ∃ d σ1 h1, g h i = some (some d) ∧ gt d σ h = some (σ1, h1) ∧ ∃ o, fb σ1 h1 = some o ∧
      match o with | .nx σ2 h2 => P (i + 1) σ2 h2 | .ct σ2 h2 => P (i + 1) σ2 h2 | .bk σ2 h2 => Q (.nx σ2 h2) | .rt d h2 => Q (.rt d h2))
    (fin : ∀ σ h, P n σ h → g h n = some none ∧ Q (.nx σ h)) : ∀ (m i : Nat) (σ : Fr) (h : Hs), i ≤ n → i + m = n + 1 → P i σ h → ∃ o, sForN g gt fb m i σ h = some o ∧ Q o := by
  intro m
  induction m with
  | zero => intro i σ h hi e p; omega
  | succ m ih =>
    intro i σ h hin e p
    by_cases hi : i < n
    · obtain ⟨d, σ1, h1, eg, et, o, eb, q⟩ := step i σ h hi p
      unfold sForN
      rw [eg]
      simp only [et, eb]
      cases o with
      | nx σ2 h2 => exact ih (i + 1) σ2 h2 (by omega) (by omega) q
      | ct σ2 h2 => exact ih (i + 1) σ2 h2 (by omega) (by omega) q
      | bk σ2 h2 => exact ⟨_, rfl, q⟩
      | rt d h2 => exact ⟨_, rfl, q⟩
    · have : i = n := by omega
      subst this
      obtain ⟨eg, q⟩ := fin σ h p
      unfold sForN
      rw [eg]
      exact ⟨_, rfl, q⟩
/-- .. over a fixed list -/
theorem forL_inv {Q : Out → Prop} {xs : List D} {gt : GF} {fb : SF} {σ : Fr} {h : Hs} (P : List D → List D → Fr → Hs → Prop)
    (step : ∀ ys d zs σ h, xs = ys ++ d :: zs → P ys (d :: zs) σ h → ∃ σ1 h1, gt d σ h = some (σ1, h1) ∧ ∃ o, fb σ1 h1 = some o ∧
      match o with | .nx σ2 h2 => P (ys ++ [d]) zs σ2 h2 | .ct σ2 h2 => P (ys ++ [d]) zs σ2 h2 | .bk σ2 h2 => Q (.nx σ2 h2) | .rt d h2 => Q (.rt d h2))
    (fin : ∀ σ h, P xs [] σ h → Q (.nx σ h)) (p : P [] xs σ h) : ∃ o, sForN (srcL xs) gt fb (xs.length + 1) 0 σ h = some o ∧ Q o := by
  refine for_inv (Q := Q) (fun i σ h => P (xs.take i) (xs.drop i) σ h) xs.length (fun i σ h hi q => ?_) (fun σ h q => ⟨?_, fin σ h ?_⟩) (xs.length + 1) 0 σ h (Nat.zero_le _) (by omega) (by simpa using p)
  · have ed : xs.drop i = xs[i] :: xs.drop (i + 1) := List.drop_eq_getElem_cons hi
    rw [ed] at q
    have ex : xs = xs.take i ++ xs[i] :: xs.drop (i + 1) := by rw [← ed, List.take_append_drop]
    obtain ⟨σ1, h1, et, o, eb, r⟩ := step (xs.take i) xs[i] (xs.drop (i + 1)) σ h ex q
    refine ⟨xs[i], σ1, h1, ?_, et, o, eb, ?_⟩
    · unfold srcL; rw [List.getElem?_eq_getElem hi]
    · have e : xs.take (i + 1) = xs.take i ++ [xs[i]] := by rw [List.take_add_one, List.getElem?_eq_getElem hi]; rfl
      rw [e]
      exact r
  · unfold srcL; rw [List.getElem?_eq_none (Nat.le_refl _)]
  · simpa using q
/-- a while, by an invariant and a measure -/
theorem while_inv {Q : Out → Prop} {fc : EF} {fb : SF} (P : Nat → Fr → Hs → Prop)
    (step : ∀ k σ h, P k σ h → ∃ b h1, fc σ h = some (.bl b, h1) ∧ if b = true then ∃ o, fb σ h1 = some o ∧
      match o with | .nx σ2 h2 => ∃ j, j < k ∧ P j σ2 h2 | .ct σ2 h2 => ∃ j, j < k ∧ P j σ2 h2 | .bk σ2 h2 => Q (.nx σ2 h2) | .rt d h2 => Q (.rt d h2) else Q (.nx σ h1)) :
    ∀ (m k : Nat) (σ : Fr) (h : Hs), k < m → P k σ h → ∃ o, sWhileN fc fb m σ h = some o ∧ Q o := by
  intro m
  induction m with
  | zero => intro k σ h hk p; omega
  | succ m ih =>
    intro k σ h hk p
    obtain ⟨b, h1, ec, q⟩ := step k σ h p
    unfold sWhileN
    rw [ec]
    cases b with
    | false => exact ⟨_, rfl, q⟩
    | true =>
      rw [if_pos rfl] at q
      obtain ⟨o, eb, r⟩ := q
      simp only [eb]
      cases o with
      | nx σ2 h2 => obtain ⟨j, hj, p2⟩ := r; exact ih j σ2 h2 (by omega) p2
      | ct σ2 h2 => obtain ⟨j, hj, p2⟩ := r; exact ih j σ2 h2 (by omega) p2
      | bk σ2 h2 => exact ⟨_, rfl, r⟩
      | rt d h2 => exact ⟨_, rfl, r⟩
/-- a for over a list of things of a kind -/
theorem forM_inv {α : Type} {e : α → D} {Q : Out → Prop} {l : List α} {gt : GF} {fb : SF} {σ : Fr} {h : Hs} (P : List α → Fr → Hs → Prop)
    (step : ∀ ys x zs σ h, l = ys ++ x :: zs → P ys σ h → ∃ σ1 h1, gt (e x) σ h = some (σ1, h1) ∧ ∃ o, fb σ1 h1 = some o ∧
      match o with | .nx σ2 h2 => P (ys ++ [x]) σ2 h2 | .ct σ2 h2 => P (ys ++ [x]) σ2 h2 | .bk σ2 h2 => Q (.nx σ2 h2) | .rt d h2 => Q (.rt d h2))
    (fin : ∀ σ h, P l σ h → Q (.nx σ h)) (p : P [] σ h) : ∃ o, sForN (srcL (l.map e)) gt fb ((l.map e).length + 1) 0 σ h = some o ∧ Q o := by
  refine forL_inv (fun ys zs σ h => ∃ us vs, l = us ++ vs ∧ ys = us.map e ∧ zs = vs.map e ∧ P us σ h) (fun ys d zs σ h _ q => ?_) (fun σ h q => ?_) ⟨[], l, rfl, rfl, rfl, p⟩
  · obtain ⟨us, vs, el, ey, ez, q⟩ := q
    cases vs with
    | nil => simp at ez
    | cons x vs =>
      simp only [List.map_cons, List.cons.injEq] at ez
      obtain ⟨rfl, rfl⟩ := ez
      obtain ⟨σ1, h1, et, o, eb, r⟩ := step us x vs σ h el q
      refine ⟨σ1, h1, et, o, eb, ?_⟩
      cases o with
      | nx σ2 h2 => exact ⟨us ++ [x], vs, by rw [el]; simp, by rw [ey]; simp, rfl, r⟩
      | ct σ2 h2 => exact ⟨us ++ [x], vs, by rw [el]; simp, by rw [ey]; simp, rfl, r⟩
      | bk σ2 h2 => exact r
      | rt d h2 => exact r
  · obtain ⟨us, vs, el, ey, ez, q⟩ := q
    have : vs = [] := by simpa using ez.symm
    subst this
    rw [List.append_nil] at el
    subst el
    exact fin σ h q
/-- .. of a range from 0 -/
theorem forR_inv {Q : Out → Prop} {n : Nat} {gt : GF} {fb : SF} {σ : Fr} {h : Hs} (P : Nat → Fr → Hs → Prop)
    (step : ∀ i σ h, i < n → P i σ h → ∃ σ1 h1, gt (.int (i : Nat)) σ h = some (σ1, h1) ∧ ∃ o, fb σ1 h1 = some o ∧
      match o with | .nx σ2 h2 => P (i + 1) σ2 h2 | .ct σ2 h2 => P (i + 1) σ2 h2 | .bk σ2 h2 => Q (.nx σ2 h2) | .rt d h2 => Q (.rt d h2))
    (fin : ∀ σ h, P n σ h → Q (.nx σ h)) (p : P 0 σ h) : ∃ o, sForN (srcR 0 n) gt fb (n + 1) 0 σ h = some o ∧ Q o := by
  refine for_inv P n (fun i σ h hi q => ?_) (fun σ h q => ⟨?_, fin σ h q⟩) (n + 1) 0 σ h (Nat.zero_le _) (by omega) p
  · obtain ⟨σ1, h1, et, r⟩ := step i σ h hi q
    exact ⟨.int (i : Nat), σ1, h1, by unfold srcR; rw [if_pos hi, Int.zero_add], et, r⟩
  · unfold srcR; rw [if_neg (by omega)]
/-- .. counted -/
theorem forE_inv {α : Type} {e : α → D} {Q : Out → Prop} {l : List α} {gt : GF} {fb : SF} {σ : Fr} {h : Hs} (P : Nat → Fr → Hs → Prop)
    (step : ∀ i x σ h, l[i]? = some x → P i σ h → ∃ σ1 h1, gt (.tup [.int (i : Nat), e x]) σ h = some (σ1, h1) ∧ ∃ o, fb σ1 h1 = some o ∧
      match o with | .nx σ2 h2 => P (i + 1) σ2 h2 | .ct σ2 h2 => P (i + 1) σ2 h2 | .bk σ2 h2 => Q (.nx σ2 h2) | .rt d h2 => Q (.rt d h2))
    (fin : ∀ σ h, P l.length σ h → Q (.nx σ h)) (p : P 0 σ h) : ∃ o, sForN (cntS (srcL (l.map e))) gt fb ((l.map e).length + 1) 0 σ h = some o ∧ Q o := by
  rw [List.length_map]
  refine for_inv P l.length (fun i σ h hi q => ?_) (fun σ h q => ⟨?_, fin σ h q⟩) (l.length + 1) 0 σ h (Nat.zero_le _) (by omega) p
  · obtain ⟨σ1, h1, et, r⟩ := step i l[i] σ h (List.getElem?_eq_getElem hi) q
    exact ⟨.tup [.int (i : Nat), e l[i]], σ1, h1, by simp only [cntS, srcL, List.getElem?_map, List.getElem?_eq_getElem hi, Option.map_some], et, r⟩
  · simp only [cntS, srcL, List.getElem?_map]
    rw [List.getElem?_eq_none (Nat.le_refl _)]
    rfl
/-- a list comprehension, the heap as it is -/
theorem lcN_eval {α : Type} {e : α → D} {g : Src} {gt : GF} {ft fe : EF} {own : List Nat} {σ : Fr} {h : Hs} {p : α → Bool} {f : α → D} : ∀ (zs : List α) (m i : Nat), (∀ j, g h (i + j) = some ((zs[j]?).map e)) → zs.length < m →
    (∀ x ∈ zs, ∃ σ1, gt (e x) (wipeD σ own) h = some (σ1, h) ∧ ft σ1 h = some (.bl (p x), h) ∧ (p x = true → fe σ1 h = some (f x, h))) → lcN g gt ft fe own m i σ h = some ((zs.filter p).map f, h)
  | [], m, i, hg, hm, _ => by
    cases m with
    | zero => exact absurd hm (by simp)
    | succ m =>
      unfold lcN
      have := hg 0
      simp only [Nat.add_zero, List.getElem?_nil, Option.map_none] at this
      rw [this]
      rfl
  | d :: zs, m, i, hg, hm, hs => by
    cases m with
    | zero => exact absurd hm (by simp)
    | succ m =>
      obtain ⟨σ1, e1, e2, e3⟩ := hs d List.mem_cons_self
      have ih := lcN_eval (e := e) (g := g) (gt := gt) (ft := ft) (fe := fe) (own := own) (σ := σ) (h := h) (p := p) (f := f) zs m (i + 1) (fun j => by have := hg (j + 1); rw [show i + 1 + j = i + (j + 1) by omega, this]; simp) (by simpa using hm) fun d hd => hs d (List.mem_cons_of_mem _ hd)
      unfold lcN
      have := hg 0
      simp only [Nat.add_zero, List.getElem?_cons_zero, Option.map_some] at this
      rw [this]
      simp only [e1, e2]
      cases ep : p d with
      | true =>
        simp only [e3 ep, ih]
        rw [List.filter_cons_of_pos ep]
        rfl
      | false =>
        simp only [ih]
        rw [List.filter_cons_of_neg (by rw [ep]; simp)]
theorem lcM_eval {α : Type} {e : α → D} {l : List α} {gt : GF} {ft fe : EF} {own : List Nat} {σ : Fr} {h : Hs} {p : α → Bool} {f : α → D}
    (hs : ∀ x ∈ l, ∃ σ1, gt (e x) (wipeD σ own) h = some (σ1, h) ∧ ft σ1 h = some (.bl (p x), h) ∧ (p x = true → fe σ1 h = some (f x, h))) : lcN (srcL (l.map e)) gt ft fe own ((l.map e).length + 1) 0 σ h = some ((l.filter p).map f, h) :=
  lcN_eval l _ 0 (fun j => by unfold srcL; rw [Nat.zero_add, List.getElem?_map]) (by rw [List.length_map]; exact Nat.lt_succ_self _) hs
theorem lcR_eval {lo : Int} {n : Nat} {gt : GF} {ft fe : EF} {own : List Nat} {σ : Fr} {h : Hs} {p : Nat → Bool} {f : Nat → D}
    (hs : ∀ i, i < n → ∃ σ1, gt (.int (lo + (i : Nat))) (wipeD σ own) h = some (σ1, h) ∧ ft σ1 h = some (.bl (p i), h) ∧ (p i = true → fe σ1 h = some (f i, h))) :
    lcN (srcR lo n) gt ft fe own (n + 1) 0 σ h = some (((List.range n).filter p).map f, h) := by
  refine lcN_eval (e := fun i : Nat => D.int (lo + (i : Nat))) _ _ 0 (fun j => ?_) (by simp) fun d hd => hs d (List.mem_range.mp hd)
  unfold srcR
  rw [Nat.zero_add]
  by_cases hj : j < n
  · rw [if_pos hj, List.getElem?_range hj]
    rfl
  · rw [if_neg hj, List.getElem?_eq_none (by simpa using hj)]
    rfl
theorem lc2N_eval {α : Type} {e : α → D} {g : Src} {gt gt1 : GF} {ft ft1 fe : EF} {fi1 : IF} {own own1 : List Nat} {σ : Fr} {h : Hs} {F : α → List D} : ∀ (zs : List α) (m i : Nat), (∀ j, g h (i + j) = some ((zs[j]?).map e)) → zs.length < m →
    (∀ x ∈ zs, ∃ σ1, gt (e x) (wipeD σ own) h = some (σ1, h) ∧ ft σ1 h = some (.bl true, h) ∧ ∃ g1 n1, fi1 σ1 h = some (g1, n1, h) ∧ lcN g1 gt1 ft1 fe own1 n1 0 σ1 h = some (F x, h)) → lc2N g gt ft fi1 gt1 ft1 fe own own1 m i σ h = some (zs.flatMap F, h)
  | [], m, i, hg, hm, _ => by
    cases m with
    | zero => exact absurd hm (by simp)
    | succ m =>
      unfold lc2N
      have := hg 0
      simp only [Nat.add_zero, List.getElem?_nil, Option.map_none] at this
      rw [this]
      rfl
  | d :: zs, m, i, hg, hm, hs => by
    cases m with
    | zero => exact absurd hm (by simp)
    | succ m =>
      obtain ⟨σ1, e1, e2, g1, n1, e3, e4⟩ := hs d List.mem_cons_self
      have ih := lc2N_eval (e := e) (g := g) (gt := gt) (ft := ft) (fe := fe) (fi1 := fi1) (gt1 := gt1) (ft1 := ft1) (own := own) (own1 := own1) (σ := σ) (h := h) (F := F) zs m (i + 1) (fun j => by have := hg (j + 1); rw [show i + 1 + j = i + (j + 1) by omega, this]; simp) (by simpa using hm) fun d hd => hs d (List.mem_cons_of_mem _ hd)
      unfold lc2N
      have := hg 0
      simp only [Nat.add_zero, List.getElem?_cons_zero, Option.map_some] at this
      rw [this]
      simp only [e1, e2, e3, e4, ih, List.flatMap_cons]
theorem lc2M_eval {α : Type} {e : α → D} {l : List α} {gt gt1 : GF} {ft ft1 fe : EF} {fi1 : IF} {own own1 : List Nat} {σ : Fr} {h : Hs} {F : α → List D}
    (hs : ∀ x ∈ l, ∃ σ1, gt (e x) (wipeD σ own) h = some (σ1, h) ∧ ft σ1 h = some (.bl true, h) ∧ ∃ g1 n1, fi1 σ1 h = some (g1, n1, h) ∧ lcN g1 gt1 ft1 fe own1 n1 0 σ1 h = some (F x, h)) :
    lc2N (srcL (l.map e)) gt ft fi1 gt1 ft1 fe own own1 ((l.map e).length + 1) 0 σ h = some (l.flatMap F, h) :=
  lc2N_eval l _ 0 (fun j => by unfold srcL; rw [Nat.zero_add, List.getElem?_map]) (by rw [List.length_map]; exact Nat.lt_succ_self _) hs
theorem lc2R_eval {n : Nat} {gt gt1 : GF} {ft ft1 fe : EF} {fi1 : IF} {own own1 : List Nat} {σ : Fr} {h : Hs} {F : Nat → List D}
    (hs : ∀ i, i < n → ∃ σ1, gt (.int (i : Nat)) (wipeD σ own) h = some (σ1, h) ∧ ft σ1 h = some (.bl true, h) ∧ ∃ g1 n1, fi1 σ1 h = some (g1, n1, h) ∧ lcN g1 gt1 ft1 fe own1 n1 0 σ1 h = some (F i, h)) :
    lc2N (srcR 0 n) gt ft fi1 gt1 ft1 fe own own1 (n + 1) 0 σ h = some ((List.range n).flatMap F, h) := by
  refine lc2N_eval (e := fun i : Nat => D.int (i : Nat)) _ _ 0 (fun j => ?_) (by simp) fun d hd => hs d (List.mem_range.mp hd)
  unfold srcR
  rw [Nat.zero_add]
  by_cases hj : j < n
  · rw [if_pos hj, List.getElem?_range hj, Int.zero_add]
    rfl
  · rw [if_neg hj, List.getElem?_eq_none (by simpa using hj)]
    rfl
theorem eLc2_eq {fi fi1 : IF} {gt gt1 : GF} {ft ft1 fe : EF} {own own1 : List Nat} {σ : Fr} {h h1 h2 : Hs} {g : Src} {n : Nat} {ys : List D} (e1 : fi σ h = some (g, n, h1)) (e2 : lc2N g gt ft fi1 gt1 ft1 fe own own1 n 0 σ h1 = some (ys, h2)) (hl : ys.length ≤ szL) :
    eLc2 fi gt ft fi1 gt1 ft1 fe own own1 σ h = some (.lst ys, h2) := by
  unfold eLc2
  rw [e1]
  simp only
  rw [e2]
  simp only
  rw [if_pos hl]
theorem eLc_eq {fi : IF} {gt : GF} {ft fe : EF} {own : List Nat} {σ : Fr} {h h1 h2 : Hs} {g : Src} {n : Nat} {ys : List D} (e1 : fi σ h = some (g, n, h1)) (e2 : lcN g gt ft fe own n 0 σ h1 = some (ys, h2)) :
    eLc fi gt ft fe own σ h = some (.lst ys, h2) := by
  unfold eLc
  rw [e1]
  simp only
  rw [e2]
theorem seq_nx {f g : SF} {σ σ1 : Fr} {h h1 : Hs} (e : f σ h = some (.nx σ1 h1)) : sSeq f g σ h = g σ1 h1 := by
  unfold sSeq
  rw [e]
theorem asg_N {fe : EF} {i : Nat} {σ : Fr} {h h1 : Hs} {d : D} (e : fe σ h = some (d, h1)) : sAsg fe (gN i) σ h = some (.nx (σ.set i (some d)) h1) := by
  unfold sAsg
  rw [e]
  rfl
theorem ret_eq {fe : EF} {g : SF} {σ : Fr} {h h1 : Hs} {d : D} (e : fe σ h = some (d, h1)) : sSeq (sRet fe) g σ h = some (.rt d h1) := by
  unfold sSeq sRet
  rw [e]
end TB
namespace TB
open PySem PySem.Spec PyProof.Rows L2
mutual
theorem sub_nr {r : Nat → Option D} : ∀ {d : D}, d.nr = true → D.sub r d = some d
  | .non, _ => by simp [D.sub]
  | .bl _, _ => by simp [D.sub]
  | .int _, _ => by simp [D.sub]
  | .str _, _ => by simp [D.sub]
  | .tup xs, h => by simp only [D.nr] at h; simp only [D.sub, subA_nr h]
  | .lst xs, h => by simp only [D.nr] at h; simp only [D.sub, subA_nr h]
  | .dic ks vs, h => by
    simp only [D.nr, Bool.and_eq_true] at h
    simp only [D.sub, h.1, if_true, subA_nr h.2]
  | .ref _, h => by simp [D.nr] at h
  | .scr xs, h => by simp only [D.nr] at h; simp only [D.sub, h, if_true]
theorem subA_nr {r : Nat → Option D} : ∀ {l : List D}, nrA l = true → subA r l = some l
  | [], _ => by simp [subA]
  | x :: l, h => by
    simp only [nrA, Bool.and_eq_true] at h
    simp only [subA, sub_nr h.1, subA_nr h.2]
end
theorem iEnumF_tup {fr : AF} {σ : Fr} {h h1 : Hs} {xs : List D} (e : fr σ h = some ([.tup xs], h1)) : iEnumF fr σ h = some (cntS (srcL xs), xs.length + 1, h1) := by
  unfold iEnumF
  rw [e]
  rfl
/-- an owned list, frozen -/
theorem fz_lst {h : Hs} {n : Nat} {xs : List D} (e : h[n]? = some (.lst xs)) (nr : nrA xs = true) : fz h (.ref n) = some (.lst xs) := by
  unfold fz fzN
  rw [if_neg (by simp [D.nr])]
  simp only [D.sub, Nat.not_lt_zero, if_false, e, subA_nr nr]
/-- an owned dict, frozen -/
theorem fz_dic {h : Hs} {n : Nat} {ks us : List D} (e : h[n]? = some (.dic ks us)) (nk : nrA ks = true) (nr : nrA us = true) : fz h (.ref n) = some (.dic ks us) := by
  unfold fz fzN
  rw [if_neg (by simp [D.nr])]
  simp only [D.sub, Nat.not_lt_zero, if_false, e, nk, if_true, subA_nr nr]
variable {α β : Type}

/-! ### things of a kind: sorted, as keys -/
def insF (f : α → D) (x : α) : List α → List α
  | [] => [x]
  | y :: l => if D.lt (f y) (f x) then y :: insF f x l else x :: y :: l
def sortF (f : α → D) : List α → List α
  | [] => []
  | x :: l => insF f x (sortF f l)
theorem insF_map (f : α → D) (x : α) : ∀ l, insD (f x) (l.map f) = (insF f x l).map f
  | [] => rfl
  | y :: l => by
    simp only [List.map_cons, insD, insF]
    split
    · rw [List.map_cons, insF_map f x l]
    · rfl
theorem sortF_map (f : α → D) : ∀ l, sortD (l.map f) = (sortF f l).map f
  | [] => rfl
  | x :: l => by simp only [List.map_cons, sortD, sortF, sortF_map f l, insF_map]
theorem insF_perm (f : α → D) (x : α) : ∀ l, (insF f x l).Perm (x :: l)
  | [] => List.Perm.refl _
  | y :: l => by
    unfold insF
    split
    · exact ((insF_perm f x l).cons y).trans (List.Perm.swap x y l)
    · exact List.Perm.refl _
theorem sortF_perm (f : α → D) : ∀ l, (sortF f l).Perm l
  | [] => List.Perm.refl _
  | x :: l => (insF_perm f x (sortF f l)).trans ((sortF_perm f l).cons x)
theorem okSort_map {f : α → D} (h1 : ∀ x, plN lvN (f x) = true) (h2 : ∀ x y, cokN lvN (f x) (f y) = true) (l : List α) : okSort (l.map f) = true := by
  unfold okSort
  rw [Bool.and_eq_true]
  refine ⟨List.all_eq_true.mpr fun d hd => ?_, List.all_eq_true.mpr fun d hd => List.all_eq_true.mpr fun d' hd' => ?_⟩
  · obtain ⟨x, _, rfl⟩ := List.mem_map.mp hd
    exact h1 x
  · obtain ⟨x, _, rfl⟩ := List.mem_map.mp hd
    obtain ⟨y, _, rfl⟩ := List.mem_map.mp hd'
    exact h2 x y
/-- what is sorted and without twins rises -/
theorem sortF_rise {f : α → D} (h1 : ∀ x, plN lvN (f x) = true) (inj : ∀ x y, f x = f y → x = y) {l : List α} (nd : l.Nodup) {i : Nat} {x y : α} (hx : (sortF f l)[i]? = some x) (hy : (sortF f l)[i + 1]? = some y) : D.lt (f x) (f y) = true := by
  have s := sortD_srtd (l.map f)
  rw [sortF_map] at s
  have nd2 : (sortF f l).Nodup := (sortF_perm f l).nodup_iff.mpr nd
  obtain ⟨i1, e1⟩ := List.getElem?_eq_some_iff.mp hx
  obtain ⟨i2, e2⟩ := List.getElem?_eq_some_iff.mp hy
  have q := (List.pairwise_iff_getElem.mp s) i (i + 1) (by rw [List.length_map]; exact i1) (by rw [List.length_map]; exact i2) (Nat.lt_succ_self _)
  rw [List.getElem_map, List.getElem_map, e1, e2] at q
  cases e : D.lt (f x) (f y) with
  | true => rfl
  | false =>
    have z := inj _ _ (lt_ff (h1 x) (h1 y) e q)
    have w := (List.pairwise_iff_getElem.mp nd2) i (i + 1) i1 i2 (Nat.lt_succ_self _)
    rw [e1, e2] at w
    exact absurd z w
section
variable {e : α → D} [DecidableEq α] (he : ∀ x y, (e x).eqv (e y) = decide (x = y))
include he
/-- the value at a key -/
def lk (ks : List α) (vs : List β) (q : α) : Option β := match ks, vs with
  | k :: ks, v :: vs => if k = q then some v else lk ks vs q
  | _, _ => none
theorem dget_map {g : β → D} (q : α) : ∀ (ks : List α) (vs : List β), dget (ks.map e) (vs.map g) (e q) = (lk ks vs q).map g
  | [], _ => by simp [dget, lk]
  | _ :: _, [] => by simp [dget, lk]
  | k :: ks, v :: vs => by
    simp only [List.map_cons, dget, lk, he]
    by_cases h : k = q
    · simp [h]
    · simp only [h, decide_false, if_false, Bool.false_eq_true]
      exact dget_map q ks vs
omit he in
theorem lk_some {q : α} : ∀ {ks : List α} {vs : List β}, ks.length = vs.length → ((lk ks vs q).isSome = true ↔ q ∈ ks)
  | [], _, _ => by simp [lk]
  | _ :: _, [], h => by simp at h
  | k :: ks, v :: vs, h => by
    unfold lk
    by_cases hk : k = q
    · simp [hk]
    · simp only [hk, if_false, List.mem_cons]
      rw [lk_some (by simpa using h)]
      simp [Ne.symm hk]
omit he in
theorem lk_at {q : α} {v : β} : ∀ {ks : List α} {vs : List β} {i : Nat}, ks.Nodup → ks[i]? = some q → vs[i]? = some v → lk ks vs q = some v
  | [], _, _, _, h, _ => by simp at h
  | _ :: _, [], _, _, _, h => by simp at h
  | k :: ks, u :: vs, 0, _, h1, h2 => by
    simp only [List.getElem?_cons_zero, Option.some.injEq] at h1 h2
    subst h1 h2
    simp [lk]
  | k :: ks, u :: vs, i + 1, nd, h1, h2 => by
    simp only [List.getElem?_cons_succ] at h1 h2
    have hk : k ≠ q := fun z => (List.nodup_cons.mp nd).1 (z ▸ List.mem_of_getElem? h1)
    simp only [lk, hk, if_false]
    exact lk_at (List.nodup_cons.mp nd).2 h1 h2
theorem any_map (q : α) : ∀ l : List α, ((l.map e).any fun z => z.eqv (e q)) = decide (q ∈ l)
  | [] => by simp
  | x :: l => by
    simp only [List.map_cons, List.any_cons, he, any_map q l, List.mem_cons]
    by_cases h : x = q
    · simp [h]
    · have : ¬ q = x := fun z => h z.symm
      simp [h, this]
/-- a new key -/
theorem dput_new {g : β → D} {ks : List α} {vs : List β} {q : α} {x : D} (hl : ks.length = vs.length) (h : q ∉ ks) : dput (ks.map e) (vs.map g) (e q) x = .dic ((ks ++ [q]).map e) (vs.map g ++ [x]) := by
  unfold dput
  rw [dget_map he]
  have : (lk ks vs q).isSome = false := by
    cases z : (lk ks vs q).isSome with
    | false => rfl
    | true => exact absurd ((lk_some hl).mp z) h
  rw [Option.isSome_map, this]
  simp
/-- a set: all its values True -/
def tts (n : Nat) : List D := List.replicate n (.bl true)
def addk (ks : List α) (q : α) : List α := if q ∈ ks then ks else ks ++ [q]
omit he in
theorem tts_map (ks : List α) : tts ks.length = ks.map fun _ => D.bl true := by
  unfold tts; induction ks with
  | nil => rfl
  | cons k ks ih => simp [List.replicate_succ, ih]
theorem dput_set {ks : List α} {q : α} : dput (ks.map e) (tts ks.length) (e q) (.bl true) = .dic ((addk ks q).map e) (tts (addk ks q).length) := by
  unfold addk
  by_cases h : q ∈ ks
  · rw [if_pos h]
    unfold dput
    rw [tts_map, dget_map he (g := fun _ : α => D.bl true), Option.isSome_map, (lk_some rfl).mpr h, if_pos rfl]
    congr 1
    have : ∀ l m : List D, l.length = m.length → (∀ d ∈ m, d = D.bl true) → (l.zip m).map (fun p => if p.1.eqv (e q) then D.bl true else p.2) = m := by
      intro l
      induction l with
      | nil => intro m hl hm; cases m with | nil => rfl | cons _ _ => simp at hl
      | cons a l ih =>
        intro m hl hm
        cases m with
        | nil => simp at hl
        | cons b m =>
          simp only [List.zip_cons_cons, List.map_cons]
          rw [ih m (by simpa using hl) fun d hd => hm d (List.mem_cons_of_mem _ hd), hm b List.mem_cons_self]
          simp
    exact this _ _ (by simp) fun d hd => by obtain ⟨_, _, rfl⟩ := List.mem_map.mp hd; rfl
  · rw [if_neg h, tts_map, tts_map, dput_new he (g := fun _ : α => D.bl true) rfl h]
    simp
omit he in
theorem addk_mem {ks : List α} {q x : α} : x ∈ addk ks q ↔ x ∈ ks ∨ x = q := by
  unfold addk
  split
  · rename_i h
    exact ⟨.inl, fun z => z.elim id fun z => z ▸ h⟩
  · simp
omit he in
theorem addk_nodup {ks : List α} {q : α} (nd : ks.Nodup) : (addk ks q).Nodup := by
  unfold addk
  split
  · exact nd
  · rename_i h
    exact List.nodup_append.mpr ⟨nd, by simp, fun a ha b hb => by rw [List.mem_singleton.mp hb]; rintro rfl; exact h ha⟩
end
end TB
namespace TB
open PySem PySem.Spec PyProof.Rows L2
theorem iR1_eq {fr : AF} {σ : Fr} {h h1 : Hs} {n : Nat} (e : fr σ h = some ([.int (n : Nat)], h1)) (hn : n ≤ 16777216) : iR1 fr σ h = some (srcR 0 n, n + 1, h1) := by
  unfold iR1
  rw [e]
  simp only
  rw [if_pos (by omega), Int.toNat_natCast]
theorem iDv_eq {fa : EF} {σ : Fr} {h h1 : Hs} {ks us : List D} (e : fa σ h = some (.dic ks us, h1)) : iDv fa σ h = some (srcL us, us.length + 1, h1) := by
  unfold iDv; rw [e]
theorem iSeq_tup {fa : EF} {σ : Fr} {h h1 : Hs} {xs : List D} (e : fa σ h = some (.tup xs, h1)) : iSeq fa σ h = some (srcL xs, xs.length + 1, h1) := by
  unfold iSeq; rw [e]; rfl
theorem iSeq_lst {fa : EF} {σ : Fr} {h h1 : Hs} {xs : List D} (e : fa σ h = some (.lst xs, h1)) : iSeq fa σ h = some (srcL xs, xs.length + 1, h1) := by
  unfold iSeq; rw [e]; rfl
theorem sFor_eq {fi : IF} {gt : GF} {fb : SF} {σ : Fr} {h h1 : Hs} {g : Src} {n : Nat} (e : fi σ h = some (g, n, h1)) : sFor fi gt fb σ h = sForN g gt fb n 0 σ h1 := by
  unfold sFor; rw [e]
theorem sort_dic {α : Type} {e : α → D} {h : Hs} {n : Nat} {ks : List α} {us : List D} (e0 : h[n]? = some (.dic (ks.map e) us)) (h1 : ∀ x, plN lvN (e x) = true) (h2 : ∀ x y, cokN lvN (e x) (e y) = true) : sortS h [.ref n] = some (.lst ((sortF e ks).map e)) := by
  have e1 : viewL h (.ref n) = none := by simp only [viewL, e0]
  have e2 : viewD h (.ref n) = some (ks.map e, us) := by simp only [viewD, e0]
  simp only [sortS, e1, e2, okSort_map h1 h2, if_true, sortF_map]
theorem sort_frz {α : Type} {e : α → D} {h : Hs} {ks : List α} {us : List D} (h1 : ∀ x, plN lvN (e x) = true) (h2 : ∀ x y, cokN lvN (e x) (e y) = true) : sortS h [.dic (ks.map e) us] = some (.lst ((sortF e ks).map e)) := by
  have e1 : viewL h (.dic (ks.map e) us) = none := rfl
  simp only [sortS, e1, viewD, okSort_map h1 h2, if_true, sortF_map]
end TB
namespace TB
open PySem PySem.Spec PyProof.Rows L2
section
variable {α β : Type} [DecidableEq α] {e : α → D} {g : β → D} (he : ∀ x y, (e x).eqv (e y) = decide (x = y)) (hk : ∀ (ks : List α) (q : α), okKey (ks.map e) (e q) = true)
include he hk
theorem in_key {h : Hs} {n : Nat} {ks : List α} {us : List D} (e0 : h[n]? = some (.dic (ks.map e) us)) (hl : us.length = ks.length) (q : α) : inK h (e q) (.ref n) = some (.bl (decide (q ∈ ks))) := by
  simp only [inK, viewD, e0, hk, if_true]
  have z := dget_map he (g := id) q ks us
  rw [List.map_id] at z
  rw [z, Option.isSome_map]
  congr 2
  by_cases h : q ∈ ks
  · rw [decide_eq_true h]; exact (lk_some hl.symm).mpr h
  · rw [decide_eq_false h]
    cases y : (lk ks us q).isSome with
    | false => rfl
    | true => exact absurd ((lk_some hl.symm).mp y) h
theorem notin_key {h : Hs} {n : Nat} {ks : List α} {us : List D} (e0 : h[n]? = some (.dic (ks.map e) us)) (hl : us.length = ks.length) (q : α) : notInD h (e q) (.ref n) = some (.bl (!decide (q ∈ ks))) := by
  have e1 : inQ h (e q) (.ref n) = none := by simp only [inQ, viewL, e0]
  simp only [notInD, orOp, notQ, e1, in_key he hk e0 hl q]
theorem ix_key {h : Hs} {n : Nat} {ks : List α} {vs : List β} {q : α} {v : β} (e0 : h[n]? = some (.dic (ks.map e) (vs.map g))) (hv : lk ks vs q = some v) : ixD h (.ref n) (e q) = some (g v) := by
  have e1 : ixS h (.ref n) (e q) = none := by simp only [ixS, viewQ, viewL, e0]
  have e2 : ixK h (.ref n) (e q) = some (g v) := by
    simp only [ixK, viewD, e0, hk, if_true]
    rw [dget_map he, hv]
    rfl
  simp only [ixD, orOp, e1, e2]
theorem set_new {h : Hs} {n : Nat} {ks : List α} {vs : List β} {q : α} {v : β} (e0 : h[n]? = some (.dic (ks.map e) (vs.map g))) (hl : ks.length = vs.length) (hz : ks.length ≤ 1000000) (hq : q ∉ ks) :
    setS h (.ref n) (e q) (g v) = some (h.set n (.dic ((ks ++ [q]).map e) ((vs ++ [v]).map g))) := by
  simp only [setS, e0, hk, Bool.true_and]
  rw [decide_eq_true (lt_szL (by rw [List.length_map]; omega)), if_pos rfl, dput_new he hl hq]
  simp
end
theorem ix_list {α : Type} {e : α → D} {h : Hs} {n i : Nat} {xs : List α} {x : α} (e0 : h[n]? = some (.lst (xs.map e))) (hx : xs[i]? = some x) : ixD h (.ref n) (.int (i : Nat)) = some (e x) := by
  have z : atI (xs.map e) (i : Int) = some (e x) := by
    unfold atI ixN
    have hi := (List.getElem?_eq_some_iff.mp hx).1
    rw [if_pos (by omega), if_pos (by rw [List.length_map]; omega)]
    simp [hx]
  simp only [ixD, orOp, ixS, viewQ, viewL, e0, z]
end TB
namespace TB
open PySem PySem.Spec PyProof.Rows L2

/-! ### reasoning by what is to hold behind -/
def WS (f : SF) (σ : Fr) (h : Hs) (Q : Out → Prop) : Prop := ∃ o, f σ h = some o ∧ Q o
def WE (f : EF) (σ : Fr) (h : Hs) (Q : D → Hs → Prop) : Prop := ∃ d h', f σ h = some (d, h') ∧ Q d h'
def WA (f : AF) (σ : Fr) (h : Hs) (Q : List D → Hs → Prop) : Prop := ∃ ds h', f σ h = some (ds, h') ∧ Q ds h'
def WG (g : GF) (d : D) (σ : Fr) (h : Hs) (Q : Fr → Hs → Prop) : Prop := ∃ σ' h', g d σ h = some (σ', h') ∧ Q σ' h'
def WGs (g : GFs) (ds : List D) (σ : Fr) (h : Hs) (Q : Fr → Hs → Prop) : Prop := ∃ σ' h', g ds σ h = some (σ', h') ∧ Q σ' h'
def WO (f : OF) (σ : Fr) (h : Hs) (Q : Option Int → Hs → Prop) : Prop := ∃ d h', f σ h = some (d, h') ∧ Q d h'
def WIt (f : IF) (σ : Fr) (h : Hs) (Q : Src → Nat → Hs → Prop) : Prop := ∃ g n h', f σ h = some (g, n, h') ∧ Q g n h'
def thn2 (g : SF) (Q : Out → Prop) : Out → Prop
  | .nx σ h => WS g σ h Q
  | .rt d h => Q (.rt d h)
  | .bk σ h => Q (.bk σ h)
  | .ct σ h => Q (.ct σ h)
def lpQ (P : Fr → Hs → Prop) (Q : Out → Prop) : Out → Prop
  | .nx σ h => P σ h
  | .ct σ h => P σ h
  | .bk σ h => Q (.nx σ h)
  | .rt d h => Q (.rt d h)
/-- a test's value -/
def IfB (d : D) (A B : Prop) : Prop := ∃ b, d = .bl b ∧ (b = true → A) ∧ (b = false → B)
theorem ifb {b : Bool} {A B : Prop} (h1 : b = true → A) (h2 : b = false → B) : IfB (.bl b) A B := ⟨b, rfl, h1, h2⟩
theorem ift {A B : Prop} (h1 : A) : IfB (.bl true) A B := ⟨true, rfl, fun _ => h1, fun e => absurd e (by decide)⟩
theorem iff0 {A B : Prop} (h1 : B) : IfB (.bl false) A B := ⟨false, rfl, fun e => absurd e (by decide), fun _ => h1⟩
theorem ifd {p : Prop} {_ : Decidable p} {A B : Prop} (h1 : p → A) (h2 : ¬ p → B) : IfB (.bl (decide p)) A B := ⟨decide p, rfl, fun e => h1 (of_decide_eq_true e), fun e => h2 (of_decide_eq_false e)⟩
theorem ifn {p : Prop} {_ : Decidable p} {A B : Prop} (h1 : ¬ p → A) (h2 : p → B) : IfB (.bl (!decide p)) A B := ⟨!decide p, rfl, fun e => h1 (by simpa using e), fun e => h2 (by simpa using e)⟩

section
variable {f g : SF} {σ : Fr} {h : Hs} {Q : Out → Prop} {fa fb fc : EF} {R : D → Hs → Prop} {fr : AF}
theorem WS.imp {Q' : Out → Prop} (w : WS f σ h Q) (k : ∀ o, Q o → Q' o) : WS f σ h Q' := by
  obtain ⟨o, e, q⟩ := w
  exact ⟨o, e, k o q⟩
theorem WE.imp {R' : D → Hs → Prop} (w : WE fa σ h R) (k : ∀ d h, R d h → R' d h) : WE fa σ h R' := by
  obtain ⟨d, h', e, q⟩ := w
  exact ⟨d, h', e, k d h' q⟩
theorem ws_join (M : Out → Prop) (w : WS f σ h M) (k : ∀ o, M o → Q o) : WS f σ h Q := w.imp k
theorem WS.ev {o : Out} (w : WS f σ h fun o' => o' = o) : f σ h = some o := by
  obtain ⟨_, e, rfl⟩ := w
  exact e
theorem WE.ev {d : D} {h1 : Hs} (w : WE fa σ h fun d' h' => d' = d ∧ h' = h1) : fa σ h = some (d, h1) := by
  obtain ⟨_, _, e, rfl, rfl⟩ := w
  exact e
theorem we_of {d : D} {h1 : Hs} (e : fa σ h = some (d, h1)) (q : R d h1) : WE fa σ h R := ⟨_, _, e, q⟩
theorem ws_seq (w : WS f σ h (thn2 g Q)) : WS (sSeq f g) σ h Q := by
  obtain ⟨o, e, q⟩ := w
  unfold WS sSeq
  rw [e]
  cases o with
  | nx σ1 h1 => exact q
  | rt d h1 => exact ⟨_, rfl, q⟩
  | bk σ1 h1 => exact ⟨_, rfl, q⟩
  | ct σ1 h1 => exact ⟨_, rfl, q⟩
theorem ws_mid (M : Out → Prop) (w : WS f σ h M) (k : ∀ o, M o → thn2 g Q o) : WS (sSeq f g) σ h Q := ws_seq (w.imp k)
theorem t_nx (w : WS g σ h Q) : thn2 g Q (.nx σ h) := w
theorem t_rt {d : D} (w : Q (.rt d h)) : thn2 g Q (.rt d h) := w
theorem t_bk (w : Q (.bk σ h)) : thn2 g Q (.bk σ h) := w
theorem t_ct (w : Q (.ct σ h)) : thn2 g Q (.ct σ h) := w
theorem l_nx {P : Fr → Hs → Prop} (w : P σ h) : lpQ P Q (.nx σ h) := w
theorem l_ct {P : Fr → Hs → Prop} (w : P σ h) : lpQ P Q (.ct σ h) := w
theorem l_bk {P : Fr → Hs → Prop} (w : Q (.nx σ h)) : lpQ P Q (.bk σ h) := w
theorem l_rt {P : Fr → Hs → Prop} {d : D} (w : Q (.rt d h)) : lpQ P Q (.rt d h) := w
theorem ws_nil (q : Q (.nx σ h)) : WS sNil σ h Q := ⟨_, rfl, q⟩
theorem ws_brk (q : Q (.bk σ h)) : WS sBrk σ h Q := ⟨_, rfl, q⟩
theorem ws_cnt (q : Q (.ct σ h)) : WS sCnt σ h Q := ⟨_, rfl, q⟩
theorem ws_retN (q : Q (.rt .non h)) : WS sRetN σ h Q := ⟨_, rfl, q⟩
theorem ws_ret (w : WE fa σ h fun d h1 => Q (.rt d h1)) : WS (sRet fa) σ h Q := by
  obtain ⟨d, h1, e, q⟩ := w
  exact ⟨_, by unfold sRet; rw [e], q⟩
theorem ws_expr (w : WE fa σ h fun d h1 => Q (.nx σ h1)) : WS (sExpr fa) σ h Q := by
  obtain ⟨d, h1, e, q⟩ := w
  exact ⟨_, by unfold sExpr; rw [e], q⟩
theorem ws_if (w : WE fc σ h fun d h1 => IfB d (WS f σ h1 Q) (WS g σ h1 Q)) : WS (sIf fc f g) σ h Q := by
  obtain ⟨d, h1, e, b, rfl, k1, k2⟩ := w
  unfold WS sIf
  rw [e]
  cases b with
  | true => exact k1 rfl
  | false => exact k2 rfl
theorem ws_asg {gt : GF} (w : WE fa σ h fun d h1 => WG gt d σ h1 fun σ2 h2 => Q (.nx σ2 h2)) : WS (sAsg fa gt) σ h Q := by
  obtain ⟨d, h1, e, σ2, h2, e2, q⟩ := w
  exact ⟨.nx σ2 h2, by unfold sAsg; rw [e]; simp only [e2], q⟩
theorem ws_asgN {i : Nat} (w : WE fa σ h fun d h1 => Q (.nx (σ.set i (some d)) h1)) : WS (sAsg fa (gN i)) σ h Q := by
  obtain ⟨d, h1, e, q⟩ := w
  exact ⟨_, asg_N e, q⟩
theorem ws_par {i j : Nat} (w : WA fr σ h fun ds h1 => ∃ d e, ds = [d, e] ∧ Q (.nx ((σ.set i (some d)).set j (some e)) h1)) : WS (sPar i j fr) σ h Q := by
  obtain ⟨ds, h1, e, d, d2, rfl, q⟩ := w
  exact ⟨_, by unfold sPar; rw [e], q⟩
theorem ws_aug {i : Nat} {a : Int} (ei : σ[i]? = some (some (.int a))) (w : WE fa σ h fun d h1 => ∃ b, d = .int b ∧ Q (.nx (σ.set i (some (.int (a + b)))) h1)) : WS (sAug i fa) σ h Q := by
  obtain ⟨d, h1, e, b, rfl, q⟩ := w
  exact ⟨_, by unfold sAug; rw [ei]; simp only [e], q⟩
theorem wg_N {i : Nat} {d : D} {R : Fr → Hs → Prop} (q : R (σ.set i (some d)) h) : WG (gN i) d σ h R := ⟨_, _, rfl, q⟩
theorem wg_T {n : Nat} {gs : GFs} {xs : List D} {R : Fr → Hs → Prop} (hn : xs.length = n) (w : WGs gs xs σ h R) : WG (gT n gs) (.tup xs) σ h R := by
  obtain ⟨σ', h', e, q⟩ := w
  exact ⟨σ', h', by unfold gT; simp only [viewT]; rw [if_pos hn]; exact e, q⟩
theorem wgs_nil {R : Fr → Hs → Prop} (q : R σ h) : WGs gNil [] σ h R := ⟨_, _, rfl, q⟩
theorem wgs_cons {g : GF} {gs : GFs} {d : D} {ds : List D} {R : Fr → Hs → Prop} (w : WG g d σ h fun σ1 h1 => WGs gs ds σ1 h1 R) : WGs (gCons g gs) (d :: ds) σ h R := by
  obtain ⟨σ1, h1, e, σ2, h2, e2, q⟩ := w
  exact ⟨σ2, h2, by unfold gCons; simp only [e]; exact e2, q⟩
theorem wg_sub {fo fi : EF} {d : D} {R : Fr → Hs → Prop} (w : WE fo σ h fun o h1 => WE fi σ h1 fun i h2 => ∃ h3, setS h2 o i d = some h3 ∧ R σ h3) : WG (gSub fo fi) d σ h R := by
  obtain ⟨o, h1, e1, i, h2, e2, h3, e3, q⟩ := w
  exact ⟨σ, h3, by unfold gSub; rw [e1]; simp only [e2, e3], q⟩

theorem we_var {i : Nat} {d : D} (e : σ[i]? = some (some d)) (q : R d h) : WE (eVar i) σ h R := ⟨d, h, var_eqZ e, q⟩
where var_eqZ {i : Nat} {σ : Fr} {h : Hs} {d : D} (e : σ[i]? = some (some d)) : eVar i σ h = some (d, h) := by unfold eVar; rw [e]
theorem we_C {d : D} (q : R d h) : WE (eC d) σ h R := ⟨d, h, rfl, q⟩
theorem we_bin {op : Hs → D → D → Option D} (w : WE fa σ h fun a h1 => WE fb σ h1 fun b h2 => ∃ c, op h2 a b = some c ∧ R c h2) : WE (bin2 fa fb op) σ h R := by
  obtain ⟨a, h1, e1, b, h2, e2, c, e3, q⟩ := w
  exact ⟨c, h2, by unfold bin2; rw [e1]; simp only [e2, e3], q⟩
theorem we_un {op : Hs → D → Option D} (w : WE fa σ h fun a h1 => ∃ c, op h1 a = some c ∧ R c h1) : WE (un1 fa op) σ h R := by
  obtain ⟨a, h1, e1, c, e3, q⟩ := w
  exact ⟨c, h1, by unfold un1; rw [e1]; simp only [e3], q⟩
theorem we_not (w : WE fa σ h fun a h1 => ∃ b, a = .bl b ∧ R (.bl (!b)) h1) : WE (eNot fa) σ h R := by
  obtain ⟨a, h1, e1, b, rfl, q⟩ := w
  exact ⟨_, h1, by unfold eNot; rw [e1], q⟩
theorem we_and (w : WE fa σ h fun a h1 => IfB a (WE fb σ h1 R) (R (.bl false) h1)) : WE (eAnd fa fb) σ h R := by
  obtain ⟨a, h1, e1, b, rfl, k1, k2⟩ := w
  unfold WE eAnd
  rw [e1]
  cases b with
  | true => exact k1 rfl
  | false => exact ⟨_, _, rfl, k2 rfl⟩
theorem we_or (w : WE fa σ h fun a h1 => IfB a (R (.bl true) h1) (WE fb σ h1 R)) : WE (eOr fa fb) σ h R := by
  obtain ⟨a, h1, e1, b, rfl, k1, k2⟩ := w
  unfold WE eOr
  rw [e1]
  cases b with
  | true => exact ⟨_, _, rfl, k1 rfl⟩
  | false => exact k2 rfl
theorem we_if (w : WE fc σ h fun a h1 => IfB a (WE fa σ h1 R) (WE fb σ h1 R)) : WE (eIf fc fa fb) σ h R := by
  obtain ⟨a, h1, e1, b, rfl, k1, k2⟩ := w
  unfold WE eIf
  rw [e1]
  cases b with
  | true => exact k1 rfl
  | false => exact k2 rfl
theorem we_args {op : Hs → List D → Option D} (w : WA fr σ h fun ds h1 => ∃ c, op h1 ds = some c ∧ R c h1) : WE (eArgs fr op) σ h R := by
  obtain ⟨ds, h1, e1, c, e2, q⟩ := w
  exact ⟨c, h1, by unfold eArgs; rw [e1]; simp only [e2], q⟩
theorem we_argsH {op : Hs → List D → Option (D × Hs)} (w : WA fr σ h fun ds h1 => ∃ c h2, op h1 ds = some (c, h2) ∧ R c h2) : WE (eArgsH fr op) σ h R := by
  obtain ⟨ds, h1, e1, c, h2, e2, q⟩ := w
  exact ⟨c, h2, by unfold eArgsH; rw [e1]; exact e2, q⟩
theorem wa_nil {R : List D → Hs → Prop} (q : R [] h) : WA aNil σ h R := ⟨_, _, rfl, q⟩
theorem wa_cons {R : List D → Hs → Prop} (w : WE fa σ h fun d h1 => WA fr σ h1 fun ds h2 => R (d :: ds) h2) : WA (aCons fa fr) σ h R := by
  obtain ⟨d, h1, e1, ds, h2, e2, q⟩ := w
  exact ⟨_, _, by unfold aCons; rw [e1]; simp only [e2], q⟩
theorem we_own (w : WA fr σ h fun ds h1 => ds.length ≤ szL ∧ R (.ref h1.length) (h1 ++ [.lst ds])) : WE (ownArgs fr) σ h R := by
  obtain ⟨ds, h1, e1, hl, q⟩ := w
  exact ⟨_, _, by unfold ownArgs; rw [e1]; simp only; rw [if_pos hl], q⟩
theorem we_dic0 (q : R (.ref h.length) (h ++ [.dic [] []])) : WE eDic0 σ h R := ⟨_, _, rfl, q⟩
theorem we_disp {fk fv : EF} (w : WE fk σ h fun k h1 => WE fv σ h1 fun u h2 => okKey [] k = true ∧ R (.ref h2.length) (h2 ++ [.dic [k] [u]])) : WE (eDisp fk fv) σ h R := by
  obtain ⟨k, h1, e1, u, h2, e2, ok, q⟩ := w
  exact ⟨_, _, by unfold eDisp; rw [e1]; simp only [e2]; rw [if_pos ok], q⟩
theorem we_meth {op : MOp} (w : WE fa σ h fun o h1 => (viewL h1 o).isSome = true ∧ WA fr σ h1 fun ds h2 => ∃ c h3, op h2 o ds = some (c, h3) ∧ R c h3) : WE (eMeth fa fr op) σ h R := by
  obtain ⟨o, h1, e1, hv, ds, h2, e2, c, h3, e3, q⟩ := w
  cases ev : viewL h1 o with
  | none => rw [ev] at hv; cases hv
  | some xs => exact ⟨c, h3, by unfold eMeth; rw [e1]; simp only [ev, e2]; exact e3, q⟩
theorem we_meth0 {op : MOp} (w : WE fa σ h fun o h1 => (viewL h1 o).isSome = true ∧ ∃ c h3, op h1 o [] = some (c, h3) ∧ R c h3) : WE (eMeth0 fa op) σ h R := by
  obtain ⟨o, h1, e1, hv, c, h3, e3, q⟩ := w
  cases ev : viewL h1 o with
  | none => rw [ev] at hv; cases hv
  | some xs => exact ⟨c, h3, by unfold eMeth0; rw [e1]; simp only [ev]; exact e3, q⟩
theorem we_isi {T : String} (w : WE fa σ h fun x h1 => ∃ n, tyD h1 x = some n ∧ R (.bl (subTy n T)) h1) : WE (eIsi fa T) σ h R := by
  obtain ⟨x, h1, e1, n, e2, q⟩ := w
  exact ⟨_, _, by unfold eIsi; rw [e1]; simp only [e2], q⟩
theorem wo_none {R : Option Int → Hs → Prop} (q : R none h) : WO oNone σ h R := ⟨_, _, rfl, q⟩
theorem wo_some {R : Option Int → Hs → Prop} (w : WE fa σ h fun d h1 => ∃ i, d = .int i ∧ R (some i) h1) : WO (oSome fa) σ h R := by
  obtain ⟨d, h1, e1, i, rfl, q⟩ := w
  exact ⟨_, _, by unfold oSome; rw [e1], q⟩

theorem we_sl {fl fh : OF} (w : WE fa σ h fun d h1 => WO fl σ h1 fun lo h2 => WO fh σ h2 fun hi h3 => ∃ xs, d = .tup xs ∧ R (.tup (cutD xs lo hi)) h3) : WE (eSl fa fl fh) σ h R := by
  obtain ⟨d, h1, e1, lo, h2, e2, hi, h3, e3, xs, rfl, q⟩ := w
  exact ⟨_, _, by unfold eSl; rw [e1]; simp only [e2, e3, viewT], q⟩
theorem we_slL {fl fh : OF} (w : WE fa σ h fun d h1 => WO fl σ h1 fun lo h2 => WO fh σ h2 fun hi h3 => ∃ xs, viewT d = none ∧ viewL h3 d = some xs ∧ R (.lst (cutD xs lo hi)) h3) : WE (eSl fa fl fh) σ h R := by
  obtain ⟨d, h1, e1, lo, h2, e2, hi, h3, e3, xs, ev, el, q⟩ := w
  exact ⟨_, _, by unfold eSl; rw [e1]; simp only [e2, e3, ev, el], q⟩

/-! ### walks -/
theorem wi_R1 {R : Src → Nat → Hs → Prop} (w : WA fr σ h fun ds h1 => ∃ n : Nat, ds = [.int (n : Nat)] ∧ n ≤ 16777216 ∧ R (srcR 0 n) (n + 1) h1) : WIt (iR1 fr) σ h R := by
  obtain ⟨ds, h1, e, n, rfl, hn, q⟩ := w
  exact ⟨_, _, _, iR1_eq e hn, q⟩
theorem iR2_eq {i n : Nat} {h1 : Hs} (e : fr σ h = some ([.int (i : Nat), .int (n : Nat)], h1)) (hn : n ≤ 1000000) (hi : i ≤ 1000000) : iR2 fr σ h = some (srcR (i : Nat) (n - i), n - i + 1, h1) := by
  unfold iR2
  rw [e]
  simp only
  rw [if_pos ⟨by omega, by omega, by omega, by omega⟩]
  have : (((n : Nat) : Int) - (i : Nat)).toNat = n - i := by omega
  rw [this]
theorem wi_R2 {R : Src → Nat → Hs → Prop} (w : WA fr σ h fun ds h1 => ∃ i n : Nat, ds = [.int (i : Nat), .int (n : Nat)] ∧ n ≤ 1000000 ∧ i ≤ 1000000 ∧ R (srcR (i : Nat) (n - i)) (n - i + 1) h1) : WIt (iR2 fr) σ h R := by
  obtain ⟨ds, h1, e, i, n, rfl, hn, hi, q⟩ := w
  exact ⟨_, _, _, iR2_eq e hn hi, q⟩
theorem wi_tup {R : Src → Nat → Hs → Prop} (w : WE fa σ h fun d h1 => ∃ xs, d = .tup xs ∧ R (srcL xs) (xs.length + 1) h1) : WIt (iSeq fa) σ h R := by
  obtain ⟨d, h1, e, xs, rfl, q⟩ := w
  exact ⟨_, _, _, iSeq_tup e, q⟩
theorem wi_lst {R : Src → Nat → Hs → Prop} (w : WE fa σ h fun d h1 => ∃ xs, d = .lst xs ∧ R (srcL xs) (xs.length + 1) h1) : WIt (iSeq fa) σ h R := by
  obtain ⟨d, h1, e, xs, rfl, q⟩ := w
  exact ⟨_, _, _, iSeq_lst e, q⟩
theorem wi_ref {R : Src → Nat → Hs → Prop} (w : WE fa σ h fun d h1 => ∃ n xs, d = .ref n ∧ h1[n]? = some (.lst xs) ∧ R (srcO n) 100000 h1) : WIt (iSeq fa) σ h R := by
  obtain ⟨d, h1, e, n, xs, rfl, eh, q⟩ := w
  exact ⟨_, _, _, by unfold iSeq; rw [e]; simp only [eh], q⟩
theorem wi_dv {R : Src → Nat → Hs → Prop} (w : WE fa σ h fun d h1 => ∃ ks us, d = .dic ks us ∧ R (srcL us) (us.length + 1) h1) : WIt (iDv fa) σ h R := by
  obtain ⟨d, h1, e, ks, us, rfl, q⟩ := w
  exact ⟨_, _, _, iDv_eq e, q⟩
theorem wi_enum {R : Src → Nat → Hs → Prop} (w : WA fr σ h fun ds h1 => ∃ d xs, ds = [d] ∧ isRef d = false ∧ viewQ h1 d = some xs ∧ R (cntS (srcL xs)) (xs.length + 1) h1) : WIt (iEnumF fr) σ h R := by
  obtain ⟨ds, h1, e, d, xs, rfl, hr, ev, q⟩ := w
  exact ⟨_, _, _, by unfold iEnumF; rw [e]; simp only [hr, ev]; rfl, q⟩
variable {fi : IF} {gt : GF} {fb' : SF}
/-- a for over what gives so many things -/
theorem ws_for0 (P : Nat → Fr → Hs → Prop) (n : Nat) (X : Nat → D → Prop)
    (hi : WIt fi σ h fun g m h1 => n < m ∧ P 0 σ h1 ∧ (∀ i σ h, i < n → P i σ h → ∃ d, g h i = some (some d) ∧ X i d) ∧ ∀ σ h, P n σ h → g h n = some none)
    (step : ∀ i d σ h, i < n → X i d → P i σ h → WG gt d σ h fun σ1 h1 => WS fb' σ1 h1 (lpQ (P (i + 1)) Q))
    (fin : ∀ σ h, P n σ h → Q (.nx σ h)) : WS (sFor fi gt fb') σ h Q := by
  obtain ⟨g, m, h1, e, hm, p0, hg, hl⟩ := hi
  unfold WS
  rw [sFor_eq e]
  clear e
  have key : ∀ (m i : Nat) (σ : Fr) (h : Hs), i ≤ n → n < i + m → P i σ h → ∃ o, sForN g gt fb' m i σ h = some o ∧ Q o := by
    intro m
    induction m with
    | zero => intro i σ h h1 h2 _; omega
    | succ m ih =>
      intro i σ h h1 h2 p
      by_cases hin : i < n
      · obtain ⟨d, eg, x⟩ := hg i σ h hin p
        obtain ⟨σ1, h1', e1, o, e2, q⟩ := step i d σ h hin x p
        unfold sForN
        rw [eg]
        simp only [e1, e2]
        cases o with
        | nx σ2 h2 => exact ih (i + 1) σ2 h2 (by omega) (by omega) q
        | ct σ2 h2 => exact ih (i + 1) σ2 h2 (by omega) (by omega) q
        | bk σ2 h2 => exact ⟨_, rfl, q⟩
        | rt d h2 => exact ⟨_, rfl, q⟩
      · have : i = n := by omega
        subst this
        unfold sForN
        rw [hl σ h p]
        exact ⟨_, rfl, fin σ h p⟩
  exact key m 0 σ h1 (Nat.zero_le _) (by omega) p0
theorem ws_forR (P : Nat → Fr → Hs → Prop) (n : Nat)
    (hi : WIt fi σ h fun g m h1 => g = srcR 0 n ∧ n < m ∧ P 0 σ h1)
    (step : ∀ i σ h, i < n → P i σ h → WG gt (.int (i : Nat)) σ h fun σ1 h1 => WS fb' σ1 h1 (lpQ (P (i + 1)) Q))
    (fin : ∀ σ h, P n σ h → Q (.nx σ h)) : WS (sFor fi gt fb') σ h Q := by
  refine ws_for0 P n (fun i d => d = .int (i : Nat)) ?_ (fun i d σ h hi e p => by subst e; exact step i σ h hi p) fin
  obtain ⟨g, m, h1, e, rfl, hm, p0⟩ := hi
  exact ⟨_, _, _, e, hm, p0, fun i σ h hin _ => ⟨_, by unfold srcR; rw [if_pos hin], by rw [Int.zero_add]⟩, fun σ h _ => by unfold srcR; rw [if_neg (by omega)]⟩
theorem ws_forRx (hi : WIt fi σ h fun g m h1 => ∃ (n : Nat) (P : Nat → Fr → Hs → Prop), g = srcR 0 n ∧ n < m ∧ P 0 σ h1 ∧
      (∀ i σ h, i < n → P i σ h → WG gt (.int (i : Nat)) σ h fun σ1 h1 => WS fb' σ1 h1 (lpQ (P (i + 1)) Q)) ∧ ∀ σ h, P n σ h → Q (.nx σ h)) : WS (sFor fi gt fb') σ h Q := by
  obtain ⟨g, m, h1, e, n, P, e1, hm, p0, step, fin⟩ := hi
  exact ws_forR P n ⟨g, m, h1, e, e1, hm, p0⟩ step fin
/-- .. over a fixed list of things of a kind -/
theorem ws_forM {α : Type} (e : α → D) (l : List α) (P : List α → Fr → Hs → Prop)
    (hi : WIt fi σ h fun g m h1 => g = srcL (l.map e) ∧ l.length < m ∧ P [] σ h1)
    (step : ∀ ys x zs σ h, l = ys ++ x :: zs → P ys σ h → WG gt (e x) σ h fun σ1 h1 => WS fb' σ1 h1 (lpQ (P (ys ++ [x])) Q))
    (fin : ∀ σ h, P l σ h → Q (.nx σ h)) : WS (sFor fi gt fb') σ h Q := by
  refine ws_for0 (fun i => P (l.take i)) l.length (fun i d => ∃ x, l[i]? = some x ∧ d = e x) ?_ (fun i d σ h hi ex p => ?_) (fun σ h p => fin σ h (by simpa using p))
  · obtain ⟨g, m, h1, e1, rfl, hm, p0⟩ := hi
    exact ⟨_, _, _, e1, hm, by simpa using p0, fun i σ h hin _ => ⟨e l[i], by unfold srcL; rw [List.getElem?_map, List.getElem?_eq_getElem hin]; rfl, l[i], List.getElem?_eq_getElem hin, rfl⟩, fun σ h _ => by unfold srcL; rw [List.getElem?_map, List.getElem?_eq_none (Nat.le_refl _)]; rfl⟩
  · obtain ⟨x, hx, rfl⟩ := ex
    rw [List.getElem?_eq_getElem hi] at hx
    cases hx
    have ed : l.drop i = l[i] :: l.drop (i + 1) := List.drop_eq_getElem_cons hi
    have r := step (l.take i) l[i] (l.drop (i + 1)) σ h (by rw [← ed, List.take_append_drop]) p
    have e2 : l.take (i + 1) = l.take i ++ [l[i]] := by rw [List.take_add_one, List.getElem?_eq_getElem hi]; rfl
    rw [e2]
    exact r
theorem ws_forMx {α : Type} (e : α → D) (hi : WIt fi σ h fun g m h1 => ∃ (l : List α) (P : List α → Fr → Hs → Prop), g = srcL (l.map e) ∧ l.length < m ∧ P [] σ h1 ∧
      (∀ ys x zs σ h, l = ys ++ x :: zs → P ys σ h → WG gt (e x) σ h fun σ1 h1 => WS fb' σ1 h1 (lpQ (P (ys ++ [x])) Q)) ∧ ∀ σ h, P l σ h → Q (.nx σ h)) : WS (sFor fi gt fb') σ h Q := by
  obtain ⟨g, m, h1, e1, l, P, e2, hm, p0, step, fin⟩ := hi
  exact ws_forM e l P ⟨g, m, h1, e1, e2, hm, p0⟩ step fin
/-- .. counted -/
theorem ws_forE {α : Type} (e : α → D) (l : List α) (P : Nat → Fr → Hs → Prop)
    (hi : WIt fi σ h fun g m h1 => g = cntS (srcL (l.map e)) ∧ l.length < m ∧ P 0 σ h1)
    (step : ∀ i x σ h, l[i]? = some x → P i σ h → WG gt (.tup [.int (i : Nat), e x]) σ h fun σ1 h1 => WS fb' σ1 h1 (lpQ (P (i + 1)) Q))
    (fin : ∀ σ h, P l.length σ h → Q (.nx σ h)) : WS (sFor fi gt fb') σ h Q := by
  refine ws_for0 P l.length (fun i d => ∃ x, l[i]? = some x ∧ d = .tup [.int (i : Nat), e x]) ?_ (fun i d σ h hi ⟨x, hx, ed⟩ p => by subst ed; exact step i x σ h hx p) fin
  obtain ⟨g, m, h1, e1, rfl, hm, p0⟩ := hi
  refine ⟨_, _, _, e1, hm, p0, fun i σ h hin _ => ⟨.tup [.int (i : Nat), e l[i]], by simp only [cntS, srcL, List.getElem?_map, List.getElem?_eq_getElem hin, Option.map_some], l[i], List.getElem?_eq_getElem hin, rfl⟩, fun σ h _ => ?_⟩
  simp only [cntS, srcL, List.getElem?_map]
  rw [List.getElem?_eq_none (Nat.le_refl _)]
  rfl
/-- .. over a list of our own, which may grow -/
theorem ws_forO {α : Type} (e : α → D) (n : Nat) (l : List α) (P : List α → Fr → Hs → Prop)
    (hi : WIt fi σ h fun g m h1 => g = srcO n ∧ l.length < m ∧ P [] σ h1)
    (own : ∀ ys σ h, P ys σ h → h[n]? = some (.lst (l.map e)))
    (step : ∀ ys x zs σ h, l = ys ++ x :: zs → P ys σ h → WG gt (e x) σ h fun σ1 h1 => WS fb' σ1 h1 (lpQ (P (ys ++ [x])) Q))
    (fin : ∀ σ h, P l σ h → Q (.nx σ h)) : WS (sFor fi gt fb') σ h Q := by
  refine ws_for0 (fun i => P (l.take i)) l.length (fun i d => ∃ x, l[i]? = some x ∧ d = e x) ?_ (fun i d σ h hi ex p => ?_) (fun σ h p => fin σ h (by simpa using p))
  · obtain ⟨g, m, h1, e1, rfl, hm, p0⟩ := hi
    exact ⟨_, _, _, e1, hm, by simpa using p0, fun i σ h hin p => ⟨e l[i], by unfold srcO; rw [own _ _ _ p]; simp only [List.getElem?_map, List.getElem?_eq_getElem hin, Option.map_some], l[i], List.getElem?_eq_getElem hin, rfl⟩, fun σ h p => by unfold srcO; rw [own _ _ _ p]; simp only [List.getElem?_map]; rw [List.getElem?_eq_none (Nat.le_refl _)]; rfl⟩
  · obtain ⟨x, hx, rfl⟩ := ex
    rw [List.getElem?_eq_getElem hi] at hx
    cases hx
    have ed : l.drop i = l[i] :: l.drop (i + 1) := List.drop_eq_getElem_cons hi
    have r := step (l.take i) l[i] (l.drop (i + 1)) σ h (by rw [← ed, List.take_append_drop]) p
    have e2 : l.take (i + 1) = l.take i ++ [l[i]] := by rw [List.take_add_one, List.getElem?_eq_getElem hi]; rfl
    rw [e2]
    exact r
/-- while -/
theorem ws_while {fc : EF} (P : Nat → Fr → Hs → Prop) (k : Nat) (hk : k < 100000) (p : P k σ h)
    (step : ∀ k σ h, P k σ h → WE fc σ h fun d h1 => IfB d (WS fb' σ h1 (lpQ (fun σ2 h2 => ∃ j, j < k ∧ P j σ2 h2) Q)) (Q (.nx σ h1))) : WS (sWhile fc fb') σ h Q := by
  have key : ∀ (m k : Nat) (σ : Fr) (h : Hs), k < m → P k σ h → ∃ o, sWhileN fc fb' m σ h = some o ∧ Q o := by
    intro m
    induction m with
    | zero => intro k σ h h1 _; omega
    | succ m ih =>
      intro k σ h h1 p
      obtain ⟨d, h2, e, b, rfl, k1, k2⟩ := step k σ h p
      unfold sWhileN
      rw [e]
      cases b with
      | false => exact ⟨_, rfl, k2 rfl⟩
      | true =>
        obtain ⟨o, e2, q⟩ := k1 rfl
        simp only [e2]
        cases o with
        | nx σ2 h2 => obtain ⟨j, hj, p2⟩ := q; exact ih j σ2 h2 (by omega) p2
        | ct σ2 h2 => obtain ⟨j, hj, p2⟩ := q; exact ih j σ2 h2 (by omega) p2
        | bk σ2 h2 => exact ⟨_, rfl, q⟩
        | rt d h2 => exact ⟨_, rfl, q⟩
  exact key 100000 k σ h hk p
/-- a list comprehension, by an invariant of what is done, what came of it, and the heap -/
theorem lcN_inv {α : Type} {e : α → D} {g : Src} {ft fe : EF} {own : List Nat} (P : List α → List D → Hs → Prop) : ∀ (zs : List α) (m i : Nat) (ys : List α) (out : List D) (h : Hs), (∀ h j, g h (i + j) = some ((zs[j]?).map e)) → zs.length < m → P ys out h →
    (∀ ys' x zs' out h, ys ++ zs = ys' ++ x :: zs' → P ys' out h → WG gt (e x) (wipeD σ own) h fun σ1 h1 => WE ft σ1 h1 fun d h2 => IfB d (WE fe σ1 h2 fun v h3 => P (ys' ++ [x]) (out ++ [v]) h3) (P (ys' ++ [x]) out h2)) →
    ∃ vs h', lcN g gt ft fe own m i σ h = some (vs, h') ∧ P (ys ++ zs) (out ++ vs) h'
  | [], m, i, ys, out, h, hg, hm, p, _ => by
    cases m with
    | zero => exact absurd hm (by simp)
    | succ m =>
      unfold lcN
      have := hg h 0
      simp only [Nat.add_zero, List.getElem?_nil, Option.map_none] at this
      rw [this]
      exact ⟨[], h, rfl, by simpa using p⟩
  | x :: zs, m, i, ys, out, h, hg, hm, p, hs => by
    cases m with
    | zero => exact absurd hm (by simp)
    | succ m =>
      unfold lcN
      have := hg h 0
      simp only [Nat.add_zero, List.getElem?_cons_zero, Option.map_some] at this
      rw [this]
      obtain ⟨σ1, h1, e1, d, h2, e2, b, rfl, k1, k2⟩ := hs ys x zs out h rfl p
      simp only [e1, e2]
      have eyz : ys ++ x :: zs = (ys ++ [x]) ++ zs := by simp
      have hg' : ∀ h j, g h (i + 1 + j) = some ((zs[j]?).map e) := fun h j => by have := hg h (j + 1); rw [show i + 1 + j = i + (j + 1) by omega, this]; simp
      cases b with
      | true =>
        obtain ⟨v, h3, e3, p3⟩ := k1 rfl
        obtain ⟨vs, h', ih, ph⟩ := lcN_inv P zs m (i + 1) (ys ++ [x]) (out ++ [v]) h3 hg' (by simpa using hm) p3 (fun ys' x' zs' out h ee => hs ys' x' zs' out h (by rw [eyz]; exact ee))
        simp only [e3, ih]
        exact ⟨v :: vs, h', rfl, by rw [eyz]; simpa using ph⟩
      | false =>
        obtain ⟨vs, h', ih, ph⟩ := lcN_inv P zs m (i + 1) (ys ++ [x]) out h2 hg' (by simpa using hm) (k2 rfl) (fun ys' x' zs' out h ee => hs ys' x' zs' out h (by rw [eyz]; exact ee))
        simp only [ih]
        exact ⟨vs, h', rfl, by rw [eyz]; exact ph⟩
theorem we_lcI {α : Type} {ft fe : EF} {own : List Nat} (e : α → D) (l : List α) (P : List α → List D → Hs → Prop)
    (hi : WIt fi σ h fun g m h1 => (∀ h j, g h j = some ((l[j]?).map e)) ∧ l.length < m ∧ P [] [] h1)
    (step : ∀ ys x zs out h, l = ys ++ x :: zs → P ys out h → WG gt (e x) (wipeD σ own) h fun σ1 h1 => WE ft σ1 h1 fun d h2 => IfB d (WE fe σ1 h2 fun v h3 => P (ys ++ [x]) (out ++ [v]) h3) (P (ys ++ [x]) out h2))
    (fin : ∀ out h, P l out h → R (.lst out) h) : WE (eLc fi gt ft fe own) σ h R := by
  obtain ⟨g, m, h1, e1, hg, hm, p0⟩ := hi
  obtain ⟨vs, h', e2, p⟩ := lcN_inv (σ := σ) (ft := ft) (fe := fe) (own := own) (gt := gt) (g := g) P l m 0 [] [] h1 (fun h j => by rw [Nat.zero_add, hg h j]) hm p0 (fun ys x zs out h ee => step ys x zs out h (by simpa using ee))
  exact ⟨.lst vs, h', by unfold eLc; rw [e1]; simp only [e2], fin vs h' (by simpa using p)⟩
theorem srcL_at {α : Type} (e : α → D) (l : List α) : ∀ (h : Hs) (j : Nat), srcL (l.map e) h j = some ((l[j]?).map e) := fun h j => by unfold srcL; rw [List.getElem?_map]
theorem srcR_at (n : Nat) : ∀ (h : Hs) (j : Nat), srcR 0 n h j = some (((List.range n)[j]?).map fun i : Nat => D.int (i : Nat)) := fun h j => by
  unfold srcR
  by_cases hj : j < n
  · rw [if_pos hj, List.getElem?_range hj, Int.zero_add]; rfl
  · rw [if_neg hj, List.getElem?_eq_none (by simpa using hj)]; rfl
/-- .. the heap as it is -/
theorem we_lc {α : Type} {ft fe : EF} {own : List Nat} (e : α → D) (l : List α) (p : α → Bool) (f : α → D)
    (hi : WIt fi σ h fun g m h1 => (∀ h j, g h j = some ((l[j]?).map e)) ∧ l.length < m ∧ R (.lst ((l.filter p).map f)) h1 ∧
      ∀ x ∈ l, WG gt (e x) (wipeD σ own) h1 fun σ1 h2 => h2 = h1 ∧ WE ft σ1 h1 fun d h2 => d = .bl (p x) ∧ h2 = h1 ∧ (p x = true → WE fe σ1 h1 fun d h2 => d = f x ∧ h2 = h1)) : WE (eLc fi gt ft fe own) σ h R := by
  obtain ⟨g, m, h1, e1, hg, hm, r, hs⟩ := hi
  refine we_lcI e l (fun ys out h => h = h1 ∧ out = (ys.filter p).map f) ⟨g, m, h1, e1, hg, hm, rfl, rfl⟩ (fun ys x zs out h ee ⟨eh, eo⟩ => ?_) (fun out h ⟨eh, eo⟩ => by rw [eh, eo]; exact r)
  subst eh eo
  obtain ⟨σ1, h2, a1, rfl, d, h3, a2, rfl, rfl, k⟩ := hs x (by rw [ee]; simp)
  refine ⟨σ1, _, a1, _, _, a2, p x, rfl, fun hp => ?_, fun hp => ?_⟩
  · obtain ⟨d, h4, a3, rfl, rfl⟩ := k hp
    exact ⟨_, _, a3, rfl, by rw [List.filter_append, List.map_append]; simp [hp]⟩
  · exact ⟨rfl, by rw [List.filter_append, List.map_append]; simp [hp]⟩
end
end TB
namespace K43
open PySem PySem.Spec PyProof.Rows L2 TB
theorem hrU {A : Around} {k n : Nat} (hr : Room k A) (hn : n ≤ 200 := by decide) : A.units + n < cLine := by have := hr.un; omega
def topS (i : Nat) : Stmt := PySem.Challenge.pw_toldbytrials_k43_whole_covers_and_growin.main.body.getD i (.Pass ⟨0, 0, 0, 0⟩)
abbrev s_is_integer : Stmt := topS 1
abbrev s_is_number : Stmt := topS 2
abbrev s_is_ascending : Stmt := topS 3
abbrev s_letters_of : Stmt := topS 6
abbrev s_answers_of : Stmt := topS 7
abbrev s_trial : Stmt := topS 8
abbrev s_ways : Stmt := topS 9
abbrev s_reached : Stmt := topS 10
abbrev s_way_to : Stmt := topS 11
abbrev s_words_of : Stmt := topS 12
abbrev s_is_word : Stmt := topS 13
abbrev s_pair_paper : Stmt := topS 17
abbrev s_are_alike : Stmt := topS 18
abbrev s_parting_word : Stmt := topS 19
abbrev s_are_same : Stmt := topS 20
abbrev s_is_suite : Stmt := topS 24
abbrev s_passes : Stmt := topS 25
abbrev s_first_fail : Stmt := topS 26
abbrev s_cover_of : Stmt := topS 27
abbrev s_telling_set : Stmt := topS 28
abbrev s_full_suite : Stmt := topS 29
abbrev s_is_longer : Stmt := topS 31
abbrev s_trimmed : Stmt := topS 30
abbrev s_with_slip : Stmt := topS 32
abbrev s_slips_of : Stmt := topS 33
abbrev s_untold_slips : Stmt := topS 34
abbrev s_p_law_cell : Stmt := topS 36
abbrev s_p_law_numbers : Stmt := topS 37
abbrev s_p_law_pool : Stmt := topS 38
abbrev s_p_law_draw : Stmt := topS 39
abbrev s_p_law_is : Stmt := topS 40
abbrev s_p_law_table : Stmt := topS 41
abbrev s_p_law_doubled : Stmt := topS 47
abbrev s_p_law_machine : Stmt := topS 42
abbrev s_p_law_changed : Stmt := topS 43
abbrev s_p_law_word : Stmt := topS 44
abbrev s_p_law_once : Stmt := topS 45
abbrev s_p_law_suite : Stmt := topS 46
abbrev s_law : Stmt := topS 48
theorem sc_is_integer : FnScope ["value"] ["value"] (defScope s_is_integer) := ⟨rfl, rfl, rfl, by decide +kernel, rfl, by decide +kernel, by decide +kernel⟩
theorem sc_is_number : FnScope ["value", "low", "high"] ["value", "low", "high"] (defScope s_is_number) := ⟨rfl, rfl, rfl, by decide +kernel, rfl, by decide +kernel, by decide +kernel⟩
theorem sc_is_ascending : FnScope ["values", "at"] ["values"] (defScope s_is_ascending) := ⟨rfl, rfl, rfl, by decide +kernel, rfl, by decide +kernel, by decide +kernel⟩
theorem sc_letters_of : FnScope ["machine"] ["machine"] (defScope s_letters_of) := ⟨rfl, rfl, rfl, by decide +kernel, rfl, by decide +kernel, by decide +kernel⟩
theorem sc_answers_of : FnScope ["machine", "state", "word", "found", "letter", "answer"] ["machine", "state", "word"] (defScope s_answers_of) := ⟨rfl, rfl, rfl, by decide +kernel, rfl, by decide +kernel, by decide +kernel⟩
theorem sc_trial : FnScope ["machine", "word"] ["machine", "word"] (defScope s_trial) := ⟨rfl, rfl, rfl, by decide +kernel, rfl, by decide +kernel, by decide +kernel⟩
theorem sc_ways : FnScope ["machine", "found", "order", "at", "letter", "_", "goal"] ["machine"] (defScope s_ways) := ⟨rfl, rfl, rfl, by decide +kernel, rfl, by decide +kernel, by decide +kernel⟩
theorem sc_reached : FnScope ["machine"] ["machine"] (defScope s_reached) := ⟨rfl, rfl, rfl, by decide +kernel, rfl, by decide +kernel, by decide +kernel⟩
theorem sc_way_to : FnScope ["machine", "state"] ["machine", "state"] (defScope s_way_to) := ⟨rfl, rfl, rfl, by decide +kernel, rfl, by decide +kernel, by decide +kernel⟩
theorem sc_words_of : FnScope ["letters", "length", "found", "_", "letter", "word"] ["letters", "length"] (defScope s_words_of) := ⟨rfl, rfl, rfl, by decide +kernel, rfl, by decide +kernel, by decide +kernel⟩
theorem sc_is_word : FnScope ["letters", "value", "letter"] ["letters", "value"] (defScope s_is_word) := ⟨rfl, rfl, rfl, by decide +kernel, rfl, by decide +kernel, by decide +kernel⟩
theorem sc_pair_paper : FnScope ["one", "a", "two", "b", "found", "order", "at", "here", "there", "letter", "answer", "goal", "other", "target", "way"] ["one", "a", "two", "b"] (defScope s_pair_paper) := ⟨rfl, rfl, rfl, by decide +kernel, rfl, by decide +kernel, by decide +kernel⟩
theorem sc_are_alike : FnScope ["one", "a", "two", "b"] ["one", "a", "two", "b"] (defScope s_are_alike) := ⟨rfl, rfl, rfl, by decide +kernel, rfl, by decide +kernel, by decide +kernel⟩
theorem sc_parting_word : FnScope ["one", "a", "two", "b", "paper"] ["one", "a", "two", "b"] (defScope s_parting_word) := ⟨rfl, rfl, rfl, by decide +kernel, rfl, by decide +kernel, by decide +kernel⟩
theorem sc_are_same : FnScope ["one", "two"] ["one", "two"] (defScope s_are_same) := ⟨rfl, rfl, rfl, by decide +kernel, rfl, by decide +kernel, by decide +kernel⟩
theorem sc_is_suite : FnScope ["letters", "value", "word"] ["letters", "value"] (defScope s_is_suite) := ⟨rfl, rfl, rfl, by decide +kernel, rfl, by decide +kernel, by decide +kernel⟩
theorem sc_passes : FnScope ["machine", "suite", "other", "word"] ["machine", "suite", "other"] (defScope s_passes) := ⟨rfl, rfl, rfl, by decide +kernel, rfl, by decide +kernel, by decide +kernel⟩
theorem sc_first_fail : FnScope ["machine", "suite", "other", "word", "own", "found", "at"] ["machine", "suite", "other"] (defScope s_first_fail) := ⟨rfl, rfl, rfl, by decide +kernel, rfl, by decide +kernel, by decide +kernel⟩
theorem sc_cover_of : FnScope ["machine", "found", "word", "letter"] ["machine"] (defScope s_cover_of) := ⟨rfl, rfl, rfl, by decide +kernel, rfl, by decide +kernel, by decide +kernel⟩
theorem sc_telling_set : FnScope ["machine", "found", "a", "b", "word"] ["machine"] (defScope s_telling_set) := ⟨rfl, rfl, rfl, by decide +kernel, rfl, by decide +kernel, by decide +kernel⟩
theorem sc_full_suite : FnScope ["machine", "extra", "found", "middles", "first", "middle", "last", "length", "word"] ["machine", "extra"] (defScope s_full_suite) := ⟨rfl, rfl, rfl, by decide +kernel, rfl, by decide +kernel, by decide +kernel⟩
theorem sc_is_longer : FnScope ["word", "other"] ["word", "other"] (defScope s_is_longer) := ⟨rfl, rfl, rfl, by decide +kernel, rfl, by decide +kernel, by decide +kernel⟩
theorem sc_trimmed : FnScope ["suite", "other", "word"] ["suite"] (defScope s_trimmed) := ⟨rfl, rfl, rfl, by decide +kernel, rfl, by decide +kernel, by decide +kernel⟩
theorem sc_with_slip : FnScope ["machine", "slip", "state", "letter", "answer", "goal", "rows"] ["machine", "slip"] (defScope s_with_slip) := ⟨rfl, rfl, rfl, by decide +kernel, rfl, by decide +kernel, by decide +kernel⟩
theorem sc_slips_of : FnScope ["machine", "found", "state", "row", "letter", "own", "steps", "answer", "goal", "step"] ["machine"] (defScope s_slips_of) := ⟨rfl, rfl, rfl, by decide +kernel, rfl, by decide +kernel, by decide +kernel⟩
theorem sc_untold_slips : FnScope ["machine", "suite", "rows", "other", "slip"] ["machine", "suite"] (defScope s_untold_slips) := ⟨rfl, rfl, rfl, by decide +kernel, rfl, by decide +kernel, by decide +kernel⟩
theorem sc_p_law_cell : FnScope ["script", "k"] ["script", "k"] (defScope s_p_law_cell) := ⟨rfl, rfl, rfl, by decide +kernel, rfl, by decide +kernel, by decide +kernel⟩
theorem sc_p_law_numbers : FnScope ["cell", "many", "rows", "left", "k", "mixed"] ["cell", "many"] (defScope s_p_law_numbers) := ⟨rfl, rfl, rfl, by decide +kernel, rfl, by decide +kernel, by decide +kernel⟩
theorem sc_p_law_pool : FnScope ["script", "rows", "k"] ["script"] (defScope s_p_law_pool) := ⟨rfl, rfl, rfl, by decide +kernel, rfl, by decide +kernel, by decide +kernel⟩
theorem sc_p_law_draw : FnScope ["pool", "many", "at", "turn"] ["pool", "many"] (defScope s_p_law_draw) := ⟨rfl, rfl, rfl, by decide +kernel, rfl, by decide +kernel, by decide +kernel⟩
theorem sc_p_law_is : FnScope ["x", "due"] ["x", "due"] (defScope s_p_law_is) := ⟨rfl, rfl, rfl, by decide +kernel, rfl, by decide +kernel, by decide +kernel⟩
theorem sc_p_law_table : FnScope ["pool", "letters", "n", "answers", "rows", "state", "row", "letter"] ["pool", "letters", "n", "answers"] (defScope s_p_law_table) := ⟨rfl, rfl, rfl, by decide +kernel, rfl, by decide +kernel, by decide +kernel⟩
theorem sc_p_law_doubled : FnScope ["pool", "letters", "n", "half", "base", "rows", "state", "row", "answer", "goal", "other"] ["pool", "letters", "n"] (defScope s_p_law_doubled) := ⟨rfl, rfl, rfl, by decide +kernel, rfl, by decide +kernel, by decide +kernel⟩
theorem sc_p_law_machine : FnScope ["pool", "letters", "most", "way", "n", "rows", "steps", "goals", "letter", "state"] ["pool", "letters", "most"] (defScope s_p_law_machine) := ⟨rfl, rfl, rfl, by decide +kernel, rfl, by decide +kernel, by decide +kernel⟩
theorem sc_p_law_changed : FnScope ["pool", "machine", "slips", "rows", "k", "state", "letter", "step", "row"] ["pool", "machine", "slips"] (defScope s_p_law_changed) := ⟨rfl, rfl, rfl, by decide +kernel, rfl, by decide +kernel, by decide +kernel⟩
theorem sc_p_law_word : FnScope ["pool", "letters", "most", "word", "k"] ["pool", "letters", "most"] (defScope s_p_law_word) := ⟨rfl, rfl, rfl, by decide +kernel, rfl, by decide +kernel, by decide +kernel⟩
theorem sc_p_law_once : FnScope ["row", "k"] ["row"] (defScope s_p_law_once) := ⟨rfl, rfl, rfl, by decide +kernel, rfl, by decide +kernel, by decide +kernel⟩
theorem sc_p_law_suite : FnScope ["pool", "letters", "many", "most", "words", "k", "word"] ["pool", "letters", "many", "most"] (defScope s_p_law_suite) := ⟨rfl, rfl, rfl, by decide +kernel, rfl, by decide +kernel, by decide +kernel⟩
theorem sc_law : FnScope ["script", "pool", "letters", "machine", "cover", "there", "state", "letter", "answer", "goal", "few", "many", "suite", "longer", "untold", "other", "word", "slip"] ["script"] (defScope s_law) := ⟨rfl, rfl, rfl, by decide +kernel, rfl, by decide +kernel, by decide +kernel⟩
def b_is_integer : SF := (sSeq (sRet ((eAnd (eIsi (eVar 0) "int") (eNot (eIsi (eVar 0) "bool"))))) sNil)
def f_is_integer : List D → Option D := runP 1 1 b_is_integer
def b_is_number : SF := (sSeq (sRet ((eAnd (eArgs (aCons (eVar 0) aNil) (callP f_is_integer)) (eChain (eVar 1) (eVar 0) (eVar 2) leI leI)))) sNil)
def f_is_number : List D → Option D := runP 3 3 b_is_number
def b_is_ascending : SF := (sSeq (sRet (eArgs (aCons (eLc (iR2 (aCons (eC (.int 1)) (aCons (eArgs (aCons (eVar 0) aNil) lenS) aNil))) (gN 1) eT (bin2 (bin2 (eVar 0) (bin2 (eVar 1) (eC (.int 1)) subD) ixD) (bin2 (eVar 0) (eVar 1) ixD) ltT) [1]) aNil) allS)) sNil)
def f_is_ascending : List D → Option D := runP 1 2 b_is_ascending
def b_letters_of : SF := (sSeq (sRet (eArgs (aCons (bin2 (eVar 0) (eC (.int 0)) ixD) aNil) lenS)) sNil)
def f_letters_of : List D → Option D := runP 1 1 b_letters_of
def b_answers_of : SF := (sSeq (sAsg (ownArgs aNil) (gN 3)) (sSeq (sFor (iSeq (eVar 2)) (gN 4) (sSeq (sAsg (bin2 (bin2 (eVar 0) (eVar 1) ixD) (eVar 4) ixD) (gT 2 (gCons (gN 5) (gCons (gN 1) gNil)))) (sSeq (sExpr (eMeth (eVar 3) (aCons (eVar 5) aNil) appM)) sNil))) (sSeq (sRet (eArgs (aCons (eVar 3) aNil) tupS)) sNil)))
def f_answers_of : List D → Option D := runP 3 6 b_answers_of
def b_trial : SF := (sSeq (sRet (eArgs (aCons (eVar 0) (aCons (eC (.int 0)) (aCons (eVar 1) aNil))) (callP f_answers_of))) sNil)
def f_trial : List D → Option D := runP 2 2 b_trial
def b_ways : SF := (sSeq (sAsg (eDisp (eC (.int 0)) (eArgs aNil mkTup)) (gN 1)) (sSeq (sAsg (ownArgs (aCons (eC (.int 0)) aNil)) (gN 2)) (sSeq (sAsg (eC (.int 0)) (gN 3)) (sSeq (sWhile (bin2 (eVar 3) (eArgs (aCons (eVar 2) aNil) lenS) ltI) (sSeq (sFor (iEnumF (aCons (bin2 (eVar 0) (bin2 (eVar 2) (eVar 3) ixD) ixD) aNil)) (gT 2 (gCons (gN 4) (gCons (gT 2 (gCons (gN 5) (gCons (gN 6) gNil))) gNil))) (sSeq (sIf (bin2 (eVar 6) (eVar 1) notInD) (sSeq (sAsg (bin2 (bin2 (eVar 1) (bin2 (eVar 2) (eVar 3) ixD) ixD) (eArgs (aCons (eVar 4) aNil) mkTup) addD) (gSub (eVar 1) (eVar 6))) (sSeq (sExpr (eMeth (eVar 2) (aCons (eVar 6) aNil) appM)) sNil)) sNil) sNil)) (sSeq (sAug 3 (eC (.int 1))) sNil))) (sSeq (sRet (eVar 1)) sNil)))))
def f_ways : List D → Option D := runP 1 7 b_ways
def b_reached : SF := (sSeq (sRet (eArgs (aCons (eArgs (aCons (eArgs (aCons (eVar 0) aNil) (callP f_ways)) aNil) sortS) aNil) tupS)) sNil)
def f_reached : List D → Option D := runP 1 1 b_reached
def b_way_to : SF := (sSeq (sRet (eGet1 (eArgs (aCons (eVar 0) aNil) (callP f_ways)) (eVar 1))) sNil)
def f_way_to : List D → Option D := runP 2 2 b_way_to
def b_words_of : SF := (sSeq (sAsg (eArgs (aCons (eArgs aNil mkTup) aNil) mkLst) (gN 2)) (sSeq (sFor (iR1 (aCons (eVar 1) aNil)) (gN 3) (sSeq (sAsg (eLc2 (iSeq (eVar 2)) (gN 5) eT (iR1 (aCons (eVar 0) aNil)) (gN 4) eT (bin2 (eVar 5) (eArgs (aCons (eVar 4) aNil) mkTup) addD) [5, 4] [4]) (gN 2)) sNil)) (sSeq (sRet (eVar 2)) sNil)))
def f_words_of : List D → Option D := runP 2 6 b_words_of
def b_is_word : SF := (sSeq (sRet ((eAnd (eIsi (eVar 1) "tuple") (eArgs (aCons (eLc (iSeq (eVar 1)) (gN 2) eT (eArgs (aCons (eVar 2) (aCons (eC (.int 0)) (aCons (bin2 (eVar 0) (eC (.int 1)) subD) aNil))) (callP f_is_number)) [2]) aNil) allS)))) sNil)
def f_is_word : List D → Option D := runP 2 3 b_is_word
def b_pair_paper : SF := (sSeq (sAsg (eDisp (eArgs (aCons (eVar 1) (aCons (eVar 3) aNil)) mkTup) (eArgs aNil mkTup)) (gN 4)) (sSeq (sAsg (ownArgs (aCons (eArgs (aCons (eVar 1) (aCons (eVar 3) aNil)) mkTup) aNil)) (gN 5)) (sSeq (sAsg (eC (.int 0)) (gN 6)) (sSeq (sWhile (bin2 (eVar 6) (eArgs (aCons (eVar 5) aNil) lenS) ltI) (sSeq (sAsg (bin2 (eVar 5) (eVar 6) ixD) (gT 2 (gCons (gN 7) (gCons (gN 8) gNil)))) (sSeq (sFor (iR1 (aCons (eArgs (aCons (eVar 0) aNil) (callP f_letters_of)) aNil)) (gN 9) (sSeq (sAsg (bin2 (bin2 (eVar 0) (eVar 7) ixD) (eVar 9) ixD) (gT 2 (gCons (gN 10) (gCons (gN 11) gNil)))) (sSeq (sAsg (bin2 (bin2 (eVar 2) (eVar 8) ixD) (eVar 9) ixD) (gT 2 (gCons (gN 12) (gCons (gN 13) gNil)))) (sSeq (sAsg (bin2 (bin2 (eVar 4) (bin2 (eVar 5) (eVar 6) ixD) ixD) (eArgs (aCons (eVar 9) aNil) mkTup) addD) (gN 14)) (sSeq (sIf (bin2 (eVar 10) (eVar 12) neD) (sSeq (sRet (eArgs (aCons (eC (.str "word")) (aCons (eVar 14) aNil)) mkTup)) sNil) sNil) (sSeq (sIf (bin2 (eArgs (aCons (eVar 11) (aCons (eVar 13) aNil)) mkTup) (eVar 4) notInD) (sSeq (sAsg (eVar 14) (gSub (eVar 4) (eArgs (aCons (eVar 11) (aCons (eVar 13) aNil)) mkTup))) (sSeq (sExpr (eMeth (eVar 5) (aCons (eArgs (aCons (eVar 11) (aCons (eVar 13) aNil)) mkTup) aNil) appM)) sNil)) sNil) sNil)))))) (sSeq (sAug 6 (eC (.int 1))) sNil)))) (sSeq (sRet (eArgs (aCons (eC (.str "alike")) (aCons (eArgs (aCons (eArgs (aCons (eVar 4) aNil) sortS) aNil) tupS) aNil)) mkTup)) sNil)))))
def f_pair_paper : List D → Option D := runP 4 15 b_pair_paper
def b_are_alike : SF := (sSeq (sRet (bin2 (bin2 (eArgs (aCons (eVar 0) (aCons (eVar 1) (aCons (eVar 2) (aCons (eVar 3) aNil)))) (callP f_pair_paper)) (eC (.int 0)) ixD) (eC (.str "alike")) eqD)) sNil)
def f_are_alike : List D → Option D := runP 4 4 b_are_alike
def b_parting_word : SF := (sSeq (sAsg (eArgs (aCons (eVar 0) (aCons (eVar 1) (aCons (eVar 2) (aCons (eVar 3) aNil)))) (callP f_pair_paper)) (gN 4)) (sSeq (sRet (eIf (bin2 (bin2 (eVar 4) (eC (.int 0)) ixD) (eC (.str "word")) eqD) (bin2 (eVar 4) (eC (.int 1)) ixD) (eC .non))) sNil))
def f_parting_word : List D → Option D := runP 4 5 b_parting_word
def b_are_same : SF := (sSeq (sRet (eArgs (aCons (eVar 0) (aCons (eC (.int 0)) (aCons (eVar 1) (aCons (eC (.int 0)) aNil)))) (callP f_are_alike))) sNil)
def f_are_same : List D → Option D := runP 2 2 b_are_same
def b_is_suite : SF := (sSeq (sIf ((eOr (eNot ((eIsi (eVar 1) "tuple"))) (bin2 (eArgs (aCons (eVar 1) aNil) lenS) (eC (.int 200)) gtI))) (sSeq (sRet (eC (.bl false))) sNil) sNil) (sSeq (sIf (eNot ((eArgs (aCons (eLc (iSeq (eVar 1)) (gN 2) eT ((eAnd (eArgs (aCons (eVar 0) (aCons (eVar 2) aNil)) (callP f_is_word)) (bin2 (eArgs (aCons (eVar 2) aNil) lenS) (eC (.int 20)) leI))) [2]) aNil) allS))) (sSeq (sRet (eC (.bl false))) sNil) sNil) (sSeq (sRet (eArgs (aCons (eVar 1) aNil) (callP f_is_ascending))) sNil)))
def f_is_suite : List D → Option D := runP 2 3 b_is_suite
def b_passes : SF := (sSeq (sRet (eArgs (aCons (eLc (iSeq (eVar 1)) (gN 3) eT (bin2 (eArgs (aCons (eVar 0) (aCons (eVar 3) aNil)) (callP f_trial)) (eArgs (aCons (eVar 2) (aCons (eVar 3) aNil)) (callP f_trial)) eqD) [3]) aNil) allS)) sNil)
def f_passes : List D → Option D := runP 3 4 b_passes
def b_first_fail : SF := (sSeq (sFor (iSeq (eVar 1)) (gN 3) (sSeq (sAsg (eArgs (aCons (eArgs (aCons (eVar 0) (aCons (eVar 3) aNil)) (callP f_trial)) (aCons (eArgs (aCons (eVar 2) (aCons (eVar 3) aNil)) (callP f_trial)) aNil)) mkTup) (gT 2 (gCons (gN 4) (gCons (gN 5) gNil)))) (sSeq (sIf (bin2 (eVar 4) (eVar 5) neD) (sSeq (sRet (eArgs (aCons (eVar 3) (aCons (bin2 (eLc (iR1 (aCons (eArgs (aCons (eVar 3) aNil) lenS) aNil)) (gN 6) (bin2 (bin2 (eVar 4) (eVar 6) ixD) (bin2 (eVar 5) (eVar 6) ixD) neD) (eVar 6) [6]) (eC (.int 0)) ixD) aNil)) mkTup)) sNil) sNil) sNil))) (sSeq (sRet (eC .non)) sNil))
def f_first_fail : List D → Option D := runP 3 7 b_first_fail
def b_cover_of : SF := (sSeq (sAsg (eDic0) (gN 1)) (sSeq (sFor (iDv (eArgs (aCons (eVar 0) aNil) (callP f_ways))) (gN 2) (sSeq (sAsg (eC (.bl true)) (gSub (eVar 1) (eVar 2))) (sSeq (sFor (iR1 (aCons (eArgs (aCons (eVar 0) aNil) (callP f_letters_of)) aNil)) (gN 3) (sSeq (sAsg (eC (.bl true)) (gSub (eVar 1) (bin2 (eVar 2) (eArgs (aCons (eVar 3) aNil) mkTup) addD))) sNil)) sNil))) (sSeq (sRet (eArgs (aCons (eArgs (aCons (eVar 1) aNil) sortS) aNil) tupS)) sNil)))
def f_cover_of : List D → Option D := runP 1 4 b_cover_of
def b_telling_set : SF := (sSeq (sAsg (eDic0) (gN 1)) (sSeq (sFor (iSeq (eArgs (aCons (eVar 0) aNil) (callP f_reached))) (gN 2) (sSeq (sFor (iSeq (eArgs (aCons (eVar 0) aNil) (callP f_reached))) (gN 3) (sSeq (sAsg (eIf (bin2 (eVar 2) (eVar 3) ltI) (eArgs (aCons (eVar 0) (aCons (eVar 2) (aCons (eVar 0) (aCons (eVar 3) aNil)))) (callP f_parting_word)) (eC .non)) (gN 4)) (sSeq (sIf (bin2 (eVar 4) (eC .non) notN) (sSeq (sAsg (eC (.bl true)) (gSub (eVar 1) (eVar 4))) sNil) sNil) sNil))) sNil)) (sSeq (sRet (eArgs (aCons (eArgs (aCons (eVar 1) aNil) sortS) aNil) tupS)) sNil)))
def f_telling_set : List D → Option D := runP 1 5 b_telling_set
def b_full_suite : SF := (sSeq (sAsg (eDic0) (gN 2)) (sSeq (sAsg (eLc2 (iR1 (aCons (bin2 (eVar 1) (eC (.int 1)) addD) aNil)) (gN 7) eT (iSeq (eArgs (aCons (eArgs (aCons (eVar 0) aNil) (callP f_letters_of)) (aCons (eVar 7) aNil)) (callP f_words_of))) (gN 8) eT (eVar 8) [7, 8] [8]) (gN 3)) (sSeq (sFor (iSeq (eArgs (aCons (eVar 0) aNil) (callP f_cover_of))) (gN 4) (sSeq (sFor (iSeq (eVar 3)) (gN 5) (sSeq (sAsg (eC (.bl true)) (gSub (eVar 2) (bin2 (eVar 4) (eVar 5) addD))) (sSeq (sFor (iSeq (eArgs (aCons (eVar 0) aNil) (callP f_telling_set))) (gN 6) (sSeq (sAsg (eC (.bl true)) (gSub (eVar 2) (bin2 (bin2 (eVar 4) (eVar 5) addD) (eVar 6) addD))) sNil)) sNil))) sNil)) (sSeq (sRet (eArgs (aCons (eArgs (aCons (eVar 2) aNil) sortS) aNil) tupS)) sNil))))
def f_full_suite : List D → Option D := runP 2 9 b_full_suite
def b_is_longer : SF := (sSeq (sRet ((eAnd (bin2 (eArgs (aCons (eVar 0) aNil) lenS) (eArgs (aCons (eVar 1) aNil) lenS) ltI) (bin2 (eSl (eVar 1) oNone (oSome (eArgs (aCons (eVar 0) aNil) lenS))) (eVar 0) eqD)))) sNil)
def f_is_longer : List D → Option D := runP 2 2 b_is_longer
def b_trimmed : SF := (sSeq (sRet (eArgs (aCons (eLc (iSeq (eVar 0)) (gN 2) (eNot ((eArgs (aCons (eLc (iSeq (eVar 0)) (gN 1) eT (eArgs (aCons (eVar 2) (aCons (eVar 1) aNil)) (callP f_is_longer)) [1]) aNil) anyS))) (eVar 2) [2]) aNil) tupS)) sNil)
def f_trimmed : List D → Option D := runP 1 3 b_trimmed
def b_with_slip : SF := (sSeq (sAsg (eVar 1) (gT 4 (gCons (gN 2) (gCons (gN 3) (gCons (gN 4) (gCons (gN 5) gNil)))))) (sSeq (sAsg (eArgsH (aCons (eVar 0) aNil) lstO) (gN 6)) (sSeq (sAsg (bin2 (bin2 (eSl (bin2 (eVar 6) (eVar 2) ixD) oNone (oSome (eVar 3))) (eArgs (aCons (eArgs (aCons (eVar 4) (aCons (eVar 5) aNil)) mkTup) aNil) mkTup) addD) (eSl (bin2 (eVar 6) (eVar 2) ixD) (oSome (bin2 (eVar 3) (eC (.int 1)) addD)) oNone) addD) (gSub (eVar 6) (eVar 2))) (sSeq (sRet (eArgs (aCons (eVar 6) aNil) tupS)) sNil))))
def f_with_slip : List D → Option D := runP 2 7 b_with_slip
def b_slips_of : SF := (sSeq (sAsg (ownArgs aNil) (gN 1)) (sSeq (sFor (iEnumF (aCons (eVar 0) aNil)) (gT 2 (gCons (gN 2) (gCons (gN 3) gNil))) (sSeq (sFor (iEnumF (aCons (eVar 3) aNil)) (gT 2 (gCons (gN 4) (gCons (gN 5) gNil))) (sSeq (sAsg (eLc2 (iR1 (aCons (eC (.int 3)) aNil)) (gN 7) eT (iR1 (aCons (eArgs (aCons (eVar 0) aNil) lenS) aNil)) (gN 8) eT (eArgs (aCons (eVar 7) (aCons (eVar 8) aNil)) mkTup) [7, 8] [8]) (gN 6)) (sSeq (sExpr (eMeth (eVar 1) (aCons (eLc (iSeq (eVar 6)) (gN 9) (bin2 (eVar 9) (eVar 5) neD) (bin2 (eArgs (aCons (eVar 2) (aCons (eVar 4) aNil)) mkTup) (eVar 9) addD) [9]) aNil) extM)) sNil))) sNil)) (sSeq (sRet (eVar 1)) sNil)))
def f_slips_of : List D → Option D := runP 1 10 b_slips_of
def b_untold_slips : SF := (sSeq (sAsg (eLc (iSeq (eArgs (aCons (eVar 0) aNil) (callP f_slips_of))) (gN 4) eT (eArgs (aCons (eVar 4) (aCons (eArgs (aCons (eVar 0) (aCons (eVar 4) aNil)) (callP f_with_slip)) aNil)) mkTup) [4]) (gN 2)) (sSeq (sRet (eLc (iSeq (eVar 2)) (gT 2 (gCons (gN 4) (gCons (gN 3) gNil))) ((eAnd ((eArgs (aCons (eVar 0) (aCons (eVar 1) (aCons (eVar 3) aNil))) (callP f_passes))) (eNot ((eArgs (aCons (eVar 0) (aCons (eVar 3) aNil)) (callP f_are_same)))))) (eVar 4) [4, 3])) sNil))
def f_untold_slips : List D → Option D := runP 2 5 b_untold_slips
def b_p_law_cell : SF := (sSeq (sIf (bin2 (eVar 1) (eArgs (aCons (eVar 0) aNil) lenS) ltI) (sSeq (sRet (bin2 (eVar 0) (eVar 1) ixD)) sNil) sNil) (sSeq (sRet (eC (.int 0))) sNil))
def f_p_law_cell : List D → Option D := runP 2 2 b_p_law_cell
def b_p_law_numbers : SF := (sSeq (sAsg (ownArgs aNil) (gN 2)) (sSeq (sAsg (eVar 0) (gN 3)) (sSeq (sFor (iR1 (aCons (eVar 1) aNil)) (gN 4) (sSeq (sIf ((eAnd (bin2 (eVar 0) (bin2 (eC (.int 10)) (eC (.int 18)) powD) geI) (bin2 (eVar 3) (eC (.int 0)) gtI))) (sSeq (sExpr (eMeth (eVar 2) (aCons (bin2 (eArgs (aCons (eVar 3) aNil) intS) (eC (.int 4099)) modD) aNil) appM)) (sSeq (sAsg (bin2 (eVar 3) (eC (.int 4099)) divD) (gN 3)) sNil)) (sSeq (sAsg (bin2 (eArgs (aCons (bin2 (bin2 (eVar 0) (eC (.int 69621)) mulD) (bin2 (bin2 (eVar 4) (eC (.int 1)) addD) (eC (.int 48271)) mulD) addD) aNil) intS) (eC (.int 2147483647)) modD) (gN 5)) (sSeq (sAsg (bin2 (eArgs (aCons (bin2 (bin2 (bin2 (eVar 5) (eVar 5) mulD) (bin2 (eVar 5) (eC (.int 16807)) mulD) addD) (bin2 (eVar 4) (eC (.int 7919)) mulD) addD) aNil) intS) (eC (.int 2147483629)) modD) (gN 5)) (sSeq (sAsg (bin2 (eArgs (aCons (bin2 (bin2 (bin2 (eVar 5) (eVar 5) mulD) (eVar 0) addD) (bin2 (eC (.int 17)) (eVar 4) mulD) addD) aNil) intS) (eC (.int 2147483587)) modD) (gN 5)) (sSeq (sExpr (eMeth (eVar 2) (aCons (bin2 (bin2 (eVar 5) (eC (.int 5)) divD) (eC (.int 4099)) modD) aNil) appM)) sNil))))) sNil)) (sSeq (sRet (eVar 2)) sNil))))
def f_p_law_numbers : List D → Option D := runP 2 6 b_p_law_numbers
def b_p_law_pool : SF := (sSeq (sAsg (eArgs aNil mkLst) (gN 1)) (sSeq (sFor (iR1 (aCons (eArgs (aCons (eC (.int 6)) (aCons (eArgs (aCons (eC (.int 1)) (aCons (eArgs (aCons (eVar 0) aNil) lenS) aNil)) maxS) aNil)) minS) aNil)) (gN 2) (sSeq (sAsg (bin2 (eVar 1) (eArgs (aCons (bin2 (eArgs (aCons (eVar 0) (aCons (eVar 2) aNil)) (callP f_p_law_cell)) (bin2 (eC (.int 11)) (eVar 2) mulD) addD) (aCons (eC (.int 24)) aNil)) (callP f_p_law_numbers)) addD) (gN 1)) sNil)) (sSeq (sRet (ownArgs (aCons (eVar 1) (aCons (ownArgs (aCons (eC (.int 0)) aNil)) aNil)))) sNil)))
def f_p_law_pool : Hs → List D → Option (D × Hs) := runK 1 3 b_p_law_pool
def b_p_law_draw : SF := (sSeq (sAsg (bin2 (bin2 (eVar 0) (eC (.int 1)) ixD) (eC (.int 0)) ixD) (gN 2)) (sSeq (sAsg (bin2 (eVar 2) (eC (.int 1)) addD) (gSub (bin2 (eVar 0) (eC (.int 1)) ixD) (eC (.int 0)))) (sSeq (sAsg (bin2 (eVar 2) (eArgs (aCons (bin2 (eVar 0) (eC (.int 0)) ixD) aNil) lenS) divD) (gN 3)) (sSeq (sRet (bin2 (eArgs (aCons (bin2 (bin2 (bin2 (bin2 (eVar 0) (eC (.int 0)) ixD) (bin2 (eVar 2) (eArgs (aCons (bin2 (eVar 0) (eC (.int 0)) ixD) aNil) lenS) modD) ixD) (bin2 (eVar 3) (eC (.int 1013)) mulD) addD) (bin2 (bin2 (eVar 3) (eVar 2) mulD) (eC (.int 7)) mulD) addD) aNil) intS) (eVar 1) modD)) sNil))))
def f_p_law_draw : Hs → List D → Option (D × Hs) := runG 2 4 b_p_law_draw
def b_p_law_is : SF := (sSeq (sIf ((eVar 1)) (sSeq (sRet (bin2 (eVar 0) (eC (.bl true)) isN)) sNil) sNil) (sSeq (sRet (bin2 (eVar 0) (eC (.bl false)) isN)) sNil))
def f_p_law_is : List D → Option D := runP 2 2 b_p_law_is
def b_p_law_table : SF := (sSeq (sAsg (eArgs aNil mkTup) (gN 4)) (sSeq (sFor (iR1 (aCons (eVar 2) aNil)) (gN 5) (sSeq (sAsg (eArgs aNil mkTup) (gN 6)) (sSeq (sFor (iR1 (aCons (eVar 1) aNil)) (gN 7) (sSeq (sAsg (bin2 (eVar 6) (eArgs (aCons (eArgs (aCons (eArgsH (aCons (eVar 0) (aCons (eVar 3) aNil)) f_p_law_draw) (aCons (eArgsH (aCons (eVar 0) (aCons (eVar 2) aNil)) f_p_law_draw) aNil)) mkTup) aNil) mkTup) addD) (gN 6)) sNil)) (sSeq (sAsg (bin2 (eVar 4) (eArgs (aCons (eVar 6) aNil) mkTup) addD) (gN 4)) sNil)))) (sSeq (sRet (eVar 4)) sNil)))
def f_p_law_table : Hs → List D → Option (D × Hs) := runG 4 8 b_p_law_table
def b_p_law_doubled : SF := (sSeq (sAsg (eArgs (aCons (eC (.int 1)) (aCons (bin2 (eVar 2) (eC (.int 2)) divD) aNil)) maxS) (gN 3)) (sSeq (sAsg (eArgsH (aCons (eVar 0) (aCons (eVar 1) (aCons (eVar 3) (aCons (eC (.int 2)) aNil)))) f_p_law_table) (gN 4)) (sSeq (sAsg (eArgs aNil mkTup) (gN 5)) (sSeq (sFor (iR1 (aCons (eVar 2) aNil)) (gN 6) (sSeq (sAsg (eArgs aNil mkTup) (gN 7)) (sSeq (sFor (iSeq (bin2 (eVar 4) (bin2 (eArgs (aCons (eVar 6) aNil) intS) (eVar 3) modD) ixD)) (gT 2 (gCons (gN 8) (gCons (gN 9) gNil))) (sSeq (sAsg (eVar 9) (gN 10)) (sSeq (sIf ((eAnd (bin2 (bin2 (eVar 9) (eVar 3) addD) (eVar 2) ltI) (bin2 (eArgsH (aCons (eVar 0) (aCons (eC (.int 2)) aNil)) f_p_law_draw) (eC (.int 0)) eqD))) (sSeq (sAsg (bin2 (eVar 9) (eVar 3) addD) (gN 10)) sNil) sNil) (sSeq (sAsg (bin2 (eVar 7) (eArgs (aCons (eArgs (aCons (eVar 8) (aCons (eVar 10) aNil)) mkTup) aNil) mkTup) addD) (gN 7)) sNil)))) (sSeq (sAsg (bin2 (eVar 5) (eArgs (aCons (eVar 7) aNil) mkTup) addD) (gN 5)) sNil)))) (sSeq (sRet (eVar 5)) sNil)))))
def f_p_law_doubled : Hs → List D → Option (D × Hs) := runG 3 11 b_p_law_doubled
def b_p_law_machine : SF := (sSeq (sAsg (eArgsH (aCons (eVar 0) (aCons (eC (.int 9)) aNil)) f_p_law_draw) (gN 3)) (sSeq (sAsg (bin2 (eC (.int 1)) (eArgsH (aCons (eVar 0) (aCons (eVar 2) aNil)) f_p_law_draw) addD) (gN 4)) (sSeq (sIf (bin2 (eArgsH (aCons (eVar 0) (aCons (eC (.int 3)) aNil)) f_p_law_draw) (eC (.int 0)) gtI) (sSeq (sAsg (eVar 2) (gN 4)) sNil) sNil) (sSeq (sAsg (eArgsH (aCons (eVar 0) (aCons (eVar 1) (aCons (eVar 4) (aCons (bin2 (eC (.int 1)) (eArgsH (aCons (eVar 0) (aCons (eC (.int 3)) aNil)) f_p_law_draw) addD) aNil)))) f_p_law_table) (gN 5)) (sSeq (sIf (bin2 (eVar 3) (eC (.int 0)) eqD) (sSeq (sAsg (eLc (iR1 (aCons (eVar 1) aNil)) (gN 8) eT (eArgsH (aCons (eVar 0) (aCons (eVar 4) aNil)) f_p_law_draw) [8]) (gN 6)) (sSeq (sAsg (eArgs (aCons (eLc (iR1 (aCons (eVar 4) aNil)) (gN 9) eT (eArgs (aCons (eLc (iR1 (aCons (eVar 1) aNil)) (gN 8) eT (eArgs (aCons (bin2 (bin2 (bin2 (eVar 5) (eVar 9) ixD) (eVar 8) ixD) (eC (.int 0)) ixD) (aCons (bin2 (eArgs (aCons (bin2 (eVar 9) (bin2 (eVar 6) (eVar 8) ixD) addD) aNil) intS) (eVar 4) modD) aNil)) mkTup) [8]) aNil) tupS) [9]) aNil) tupS) (gN 5)) sNil)) sNil) (sSeq (sIf (bin2 (eVar 3) (eC (.int 1)) eqD) (sSeq (sAsg (eArgsH (aCons (eVar 0) (aCons (eVar 1) (aCons (eVar 4) aNil))) f_p_law_doubled) (gN 5)) sNil) sNil) (sSeq (sIf (bin2 (eVar 3) (eC (.int 2)) eqD) (sSeq (sAsg (eLc (iR1 (aCons (eVar 1) aNil)) (gN 8) eT (eArgsH (aCons (eVar 0) (aCons (eVar 4) aNil)) f_p_law_draw) [8]) (gN 7)) (sSeq (sAsg (eArgs (aCons (eLc (iR1 (aCons (eVar 4) aNil)) (gN 9) eT (eArgs (aCons (eLc (iR1 (aCons (eVar 1) aNil)) (gN 8) eT (eArgs (aCons (bin2 (bin2 (bin2 (eVar 5) (eVar 9) ixD) (eVar 8) ixD) (eC (.int 0)) ixD) (aCons (bin2 (eVar 7) (eVar 8) ixD) aNil)) mkTup) [8]) aNil) tupS) [9]) aNil) tupS) (gN 5)) sNil)) sNil) (sSeq (sIf (bin2 (eVar 3) (eC (.int 3)) eqD) (sSeq (sAsg (eArgs (aCons (eLc (iR1 (aCons (eVar 4) aNil)) (gN 9) eT (eArgs (aCons (eLc (iR1 (aCons (eVar 1) aNil)) (gN 8) eT (eArgs (aCons (bin2 (eArgs (aCons (bin2 (bin2 (bin2 (bin2 (eVar 5) (eVar 9) ixD) (eC (.int 0)) ixD) (eC (.int 0)) ixD) (eVar 8) addD) aNil) intS) (eC (.int 3)) modD) (aCons (bin2 (bin2 (bin2 (eVar 5) (eVar 9) ixD) (eVar 8) ixD) (eC (.int 1)) ixD) aNil)) mkTup) [8]) aNil) tupS) [9]) aNil) tupS) (gN 5)) sNil) sNil) (sSeq (sIf (bin2 (eVar 3) (eC (.int 4)) eqD) (sSeq (sAsg (eArgs (aCons (eLc (iR1 (aCons (eVar 4) aNil)) (gN 9) eT (eArgs (aCons (eLc (iR1 (aCons (eVar 1) aNil)) (gN 8) eT (eArgs (aCons (bin2 (eArgs (aCons (bin2 (eVar 9) (eVar 8) addD) aNil) intS) (eC (.int 3)) modD) (aCons (eArgs (aCons (eC (.int 0)) (aCons (bin2 (eVar 9) (eVar 8) subD) aNil)) maxS) aNil)) mkTup) [8]) aNil) tupS) [9]) aNil) tupS) (gN 5)) sNil) sNil) (sSeq (sRet (eVar 5)) sNil))))))))))
def f_p_law_machine : Hs → List D → Option (D × Hs) := runG 3 10 b_p_law_machine
def b_p_law_changed : SF := (sSeq (sAsg (eVar 1) (gN 3)) (sSeq (sFor (iR1 (aCons (eVar 2) aNil)) (gN 4) (sSeq (sAsg (eArgsH (aCons (eVar 0) (aCons (eArgs (aCons (eVar 3) aNil) lenS) aNil)) f_p_law_draw) (gN 5)) (sSeq (sAsg (eArgsH (aCons (eVar 0) (aCons (eArgs (aCons (bin2 (eVar 3) (eC (.int 0)) ixD) aNil) lenS) aNil)) f_p_law_draw) (gN 6)) (sSeq (sAsg (eArgs (aCons (eArgsH (aCons (eVar 0) (aCons (eC (.int 3)) aNil)) f_p_law_draw) (aCons (eArgsH (aCons (eVar 0) (aCons (eArgs (aCons (eVar 3) aNil) lenS) aNil)) f_p_law_draw) aNil)) mkTup) (gN 7)) (sSeq (sIf (bin2 (eArgsH (aCons (eVar 0) (aCons (eC (.int 2)) aNil)) f_p_law_draw) (eC (.int 0)) eqD) (sSeq (sAsg (eArgs (aCons (bin2 (bin2 (bin2 (eVar 3) (eVar 5) ixD) (eVar 6) ixD) (eC (.int 0)) ixD) (aCons (bin2 (eVar 7) (eC (.int 1)) ixD) aNil)) mkTup) (gN 7)) sNil) sNil) (sSeq (sAsg (bin2 (bin2 (eSl (bin2 (eVar 3) (eVar 5) ixD) oNone (oSome (eVar 6))) (eArgs (aCons (eVar 7) aNil) mkTup) addD) (eSl (bin2 (eVar 3) (eVar 5) ixD) (oSome (bin2 (eVar 6) (eC (.int 1)) addD)) oNone) addD) (gN 8)) (sSeq (sAsg (bin2 (bin2 (eSl (eVar 3) oNone (oSome (eVar 5))) (eArgs (aCons (eVar 8) aNil) mkTup) addD) (eSl (eVar 3) (oSome (bin2 (eVar 5) (eC (.int 1)) addD)) oNone) addD) (gN 3)) sNil))))))) (sSeq (sRet (eVar 3)) sNil)))
def f_p_law_changed : Hs → List D → Option (D × Hs) := runG 3 9 b_p_law_changed
def b_p_law_word : SF := (sSeq (sAsg (eArgs aNil mkTup) (gN 3)) (sSeq (sFor (iR1 (aCons (eArgsH (aCons (eVar 0) (aCons (bin2 (eVar 2) (eC (.int 1)) addD) aNil)) f_p_law_draw) aNil)) (gN 4) (sSeq (sAsg (bin2 (eVar 3) (eArgs (aCons (eArgsH (aCons (eVar 0) (aCons (eVar 1) aNil)) f_p_law_draw) aNil) mkTup) addD) (gN 3)) sNil)) (sSeq (sRet (eVar 3)) sNil)))
def f_p_law_word : Hs → List D → Option (D × Hs) := runG 3 5 b_p_law_word
def b_p_law_once : SF := (sSeq (sRet (eLc (iR1 (aCons (eArgs (aCons (eVar 0) aNil) lenS) aNil)) (gN 1) (bin2 (bin2 (eVar 0) (eVar 1) ixD) (eSl (eVar 0) oNone (oSome (eVar 1))) notInD) (bin2 (eVar 0) (eVar 1) ixD) [1])) sNil)
def f_p_law_once : List D → Option D := runP 1 2 b_p_law_once
def b_p_law_suite : SF := (sSeq (sAsg (ownArgs aNil) (gN 4)) (sSeq (sFor (iR1 (aCons (eArgsH (aCons (eVar 0) (aCons (bin2 (eVar 2) (eC (.int 1)) addD) aNil)) f_p_law_draw) aNil)) (gN 5) (sSeq (sAsg (eArgsH (aCons (eVar 0) (aCons (eVar 1) (aCons (eVar 3) aNil))) f_p_law_word) (gN 6)) (sSeq (sIf (bin2 (eVar 6) (eVar 4) notInD) (sSeq (sExpr (eMeth (eVar 4) (aCons (eVar 6) aNil) appM)) sNil) sNil) sNil))) (sSeq (sRet (eArgs (aCons (eArgs (aCons (eVar 4) aNil) sortS) aNil) tupS)) sNil)))
def f_p_law_suite : Hs → List D → Option (D × Hs) := runG 4 7 b_p_law_suite
def b_law : SF := (sSeq (sAsg (eArgsH (aCons (eVar 0) aNil) f_p_law_pool) (gN 1)) (sSeq (sAsg (bin2 (eC (.int 1)) (eArgsH (aCons (eVar 1) (aCons (eC (.int 3)) aNil)) f_p_law_draw) addD) (gN 2)) (sSeq (sAsg (eArgsH (aCons (eVar 1) (aCons (eVar 2) (aCons (eC (.int 4)) aNil))) f_p_law_machine) (gN 3)) (sSeq (sAsg (eArgs (aCons (eVar 3) aNil) (callP f_cover_of)) (gN 4)) (sSeq (sAsg (eArgs (aCons (eVar 3) aNil) (callP f_reached)) (gN 5)) (sSeq (sFor (iSeq (eArgs (aCons (eVar 3) (aCons (eVar 4) aNil)) (callP f_untold_slips))) (gT 4 (gCons (gN 6) (gCons (gN 7) (gCons (gN 8) (gCons (gN 9) gNil))))) (sSeq (sIf ((eOr (bin2 (eVar 6) (eVar 5) notInD) (eOr (bin2 (eVar 8) (bin2 (bin2 (bin2 (eVar 3) (eVar 6) ixD) (eVar 7) ixD) (eC (.int 0)) ixD) neD) (bin2 (eVar 9) (bin2 (bin2 (bin2 (eVar 3) (eVar 6) ixD) (eVar 7) ixD) (eC (.int 1)) ixD) eqD)))) (sSeq (sRet (eC (.bl false))) sNil) sNil) sNil)) (sSeq (sFor (iSeq (eVar 5)) (gN 6) (sSeq (sAsg (eArgs (aCons (eVar 3) (aCons (eVar 6) aNil)) (callP f_way_to)) (gN 16)) (sSeq (sIf ((eOr (bin2 (eVar 16) (eVar 4) notInD) (bin2 (eArgs (aCons (eLc (iR1 (aCons (eVar 2) aNil)) (gN 7) (bin2 (bin2 (eVar 16) (eArgs (aCons (eVar 7) aNil) mkTup) addD) (eVar 4) notInD) (eVar 7) [7]) aNil) lenS) (eC (.int 0)) gtI))) (sSeq (sRet (eC (.bl false))) sNil) sNil) (sSeq (sAsg (eArgsH (aCons (eVar 1) (aCons (eVar 2) aNil)) f_p_law_draw) (gN 7)) (sSeq (sAsg (eArgs (aCons (eVar 6) (aCons (eVar 7) (aCons (bin2 (eArgs (aCons (bin2 (bin2 (bin2 (bin2 (eVar 3) (eVar 6) ixD) (eVar 7) ixD) (eC (.int 0)) ixD) (eC (.int 1)) addD) aNil) intS) (eC (.int 3)) modD) (aCons (eArgsH (aCons (eVar 1) (aCons (eArgs (aCons (eVar 3) aNil) lenS) aNil)) f_p_law_draw) aNil)))) mkTup) (gN 17)) (sSeq (sAsg (eArgs (aCons (eVar 3) (aCons (eVar 17) aNil)) (callP f_with_slip)) (gN 15)) (sSeq (sIf ((eOr (bin2 (eArgs (aCons (eVar 3) (aCons (eVar 4) (aCons (eVar 15) aNil))) (callP f_passes)) (eC (.bl false)) notN) (bin2 (eArgs (aCons (eVar 3) (aCons (eArgs (aCons (bin2 (eVar 16) (eArgs (aCons (eVar 7) aNil) mkTup) addD) aNil) mkTup) (aCons (eVar 15) aNil))) (callP f_first_fail)) (eArgs (aCons (bin2 (eVar 16) (eArgs (aCons (eVar 7) aNil) mkTup) addD) (aCons (eArgs (aCons (eVar 16) aNil) lenS) aNil)) mkTup) neD))) (sSeq (sRet (eC (.bl false))) sNil) sNil) sNil))))))) (sSeq (sAsg (eArgs (aCons (eVar 3) (aCons (eC (.int 0)) aNil)) (callP f_full_suite)) (gN 10)) (sSeq (sAsg (eArgs (aCons (eVar 3) (aCons (eC (.int 1)) aNil)) (callP f_full_suite)) (gN 11)) (sSeq (sIf ((eOr (bin2 (eArgs (aCons (eLc (iSeq (eVar 10)) (gN 16) (bin2 (eVar 16) (eVar 11) notInD) (eVar 16) [16]) aNil) lenS) (eC (.int 0)) gtI) (eOr (bin2 (eArgs (aCons (eLc (iSeq (eVar 4)) (gN 16) (bin2 (eVar 16) (eVar 10) notInD) (eVar 16) [16]) aNil) lenS) (eC (.int 0)) gtI) (bin2 (eArgs (aCons (eLc (iSeq (eArgs (aCons (eVar 3) aNil) (callP f_telling_set))) (gN 16) (bin2 (eVar 16) (eVar 10) notInD) (eVar 16) [16]) aNil) lenS) (eC (.int 0)) gtI)))) (sSeq (sRet (eC (.bl false))) sNil) sNil) (sSeq (sAsg (eArgsH (aCons (eVar 1) (aCons (eVar 2) (aCons (eC (.int 6)) (aCons (eC (.int 4)) aNil)))) f_p_law_suite) (gN 12)) (sSeq (sAsg (eArgs (aCons (eArgs (aCons (eArgs (aCons (bin2 (eArgs (aCons (eVar 12) aNil) lstS) (eArgs (aCons (eArgsH (aCons (eVar 1) (aCons (eVar 2) (aCons (eC (.int 4)) (aCons (eC (.int 5)) aNil)))) f_p_law_suite) aNil) lstS) addD) aNil) (callP f_p_law_once)) aNil) sortS) aNil) tupS) (gN 13)) (sSeq (sAsg (eArgs (aCons (eVar 3) (aCons (eVar 12) aNil)) (callP f_untold_slips)) (gN 14)) (sSeq (sIf ((eOr (bin2 (eArgs (aCons (eLc (iSeq (eArgs (aCons (eVar 3) (aCons (eVar 13) aNil)) (callP f_untold_slips))) (gN 17) (bin2 (eVar 17) (eVar 14) notInD) (eVar 17) [17]) aNil) lenS) (eC (.int 0)) gtI) (bin2 (eArgs (aCons (eVar 3) (aCons (eArgs (aCons (eVar 13) aNil) (callP f_trimmed)) aNil)) (callP f_untold_slips)) (eArgs (aCons (eVar 3) (aCons (eVar 13) aNil)) (callP f_untold_slips)) neD))) (sSeq (sRet (eC (.bl false))) sNil) sNil) (sSeq (sAsg (eArgsH (aCons (eVar 1) (aCons (eVar 3) (aCons (bin2 (eC (.int 1)) (eArgsH (aCons (eVar 1) (aCons (eC (.int 2)) aNil)) f_p_law_draw) addD) aNil))) f_p_law_changed) (gN 15)) (sSeq (sIf ((eAnd (bin2 (eArgs (aCons (eVar 3) (aCons (eVar 13) (aCons (eVar 15) aNil))) (callP f_passes)) (eC (.bl true)) isN) (bin2 (eArgs (aCons (eVar 3) (aCons (eVar 12) (aCons (eVar 15) aNil))) (callP f_passes)) (eC (.bl true)) notN))) (sSeq (sRet (eC (.bl false))) sNil) sNil) (sSeq (sIf ((eAnd (bin2 (eArgs (aCons (eVar 3) (aCons (eVar 11) (aCons (eVar 15) aNil))) (callP f_passes)) (eC (.bl true)) isN) ((eOr (bin2 (eArgs (aCons (eVar 3) (aCons (eVar 10) (aCons (eVar 15) aNil))) (callP f_passes)) (eC (.bl true)) notN) (bin2 (eArgs (aCons (eVar 3) (aCons (eVar 4) (aCons (eVar 15) aNil))) (callP f_passes)) (eC (.bl true)) notN))))) (sSeq (sRet (eC (.bl false))) sNil) sNil) (sSeq (sIf (eNot ((eAnd (bin2 (eArgs (aCons (eVar 2) (aCons (eVar 13) aNil)) (callP f_is_suite)) (eC (.bl true)) isN) ((eArgs (aCons (eArgs (aCons (eVar 15) (aCons (eVar 13) (aCons (eVar 3) aNil))) (callP f_passes)) (aCons (bin2 (eArgs (aCons (eVar 3) (aCons (eVar 13) (aCons (eVar 15) aNil))) (callP f_passes)) (eC (.bl true)) isN) aNil)) (callP f_p_law_is)))))) (sSeq (sRet (eC (.bl false))) sNil) sNil) (sSeq (sRet ((eAnd (bin2 (eArgs (aCons (eVar 3) (aCons (eVar 13) (aCons (eVar 3) aNil))) (callP f_passes)) (eC (.bl true)) isN) (bin2 (eArgs (aCons (eVar 3) (aCons (eVar 3) aNil)) (callP f_are_same)) (eC (.bl true)) isN)))) sNil)))))))))))))))))))
def f_law : List D → Option D := runP 1 18 b_law
structure Facts (K : PySem.W.Frag) (mg : Str → Option Value) : Prop where
  z_all : mg "all" = none
  z_any : mg "any" = none
  z_bool : mg "bool" = none
  z_enumerate : mg "enumerate" = none
  z_int : mg "int" = none
  z_isinstance : mg "isinstance" = none
  z_len : mg "len" = none
  z_list : mg "list" = none
  z_max : mg "max" = none
  z_min : mg "min" = none
  z_range : mg "range" = none
  z_sorted : mg "sorted" = none
  z_tuple : mg "tuple" = none
  c_ALIKE : ∃ t, mg "ALIKE" = some (.str "alike" t)
  c_LONGEST : ∃ t, mg "LONGEST" = some (.int 20 t)
  c_MOST_ANSWERS : ∃ t, mg "MOST_ANSWERS" = some (.int 3 t)
  c_MOST_WORDS : ∃ t, mg "MOST_WORDS" = some (.int 200 t)
  c_WORD : ∃ t, mg "WORD" = some (.str "word" t)
  g_is_integer : ∃ f fd, Fun K "is_integer" "is_integer" s_is_integer f fd ∧ mg "is_integer" = some (.ref f)
  g_is_number : ∃ f fd, Fun K "is_number" "is_number" s_is_number f fd ∧ mg "is_number" = some (.ref f)
  g_is_ascending : ∃ f fd, Fun K "is_ascending" "is_ascending" s_is_ascending f fd ∧ mg "is_ascending" = some (.ref f)
  g_letters_of : ∃ f fd, Fun K "letters_of" "letters_of" s_letters_of f fd ∧ mg "letters_of" = some (.ref f)
  g_answers_of : ∃ f fd, Fun K "answers_of" "answers_of" s_answers_of f fd ∧ mg "answers_of" = some (.ref f)
  g_trial : ∃ f fd, Fun K "trial" "trial" s_trial f fd ∧ mg "trial" = some (.ref f)
  g_ways : ∃ f fd, Fun K "ways" "ways" s_ways f fd ∧ mg "ways" = some (.ref f)
  g_reached : ∃ f fd, Fun K "reached" "reached" s_reached f fd ∧ mg "reached" = some (.ref f)
  g_way_to : ∃ f fd, Fun K "way_to" "way_to" s_way_to f fd ∧ mg "way_to" = some (.ref f)
  g_words_of : ∃ f fd, Fun K "words_of" "words_of" s_words_of f fd ∧ mg "words_of" = some (.ref f)
  g_is_word : ∃ f fd, Fun K "is_word" "is_word" s_is_word f fd ∧ mg "is_word" = some (.ref f)
  g_pair_paper : ∃ f fd, Fun K "pair_paper" "pair_paper" s_pair_paper f fd ∧ mg "pair_paper" = some (.ref f)
  g_are_alike : ∃ f fd, Fun K "are_alike" "are_alike" s_are_alike f fd ∧ mg "are_alike" = some (.ref f)
  g_parting_word : ∃ f fd, Fun K "parting_word" "parting_word" s_parting_word f fd ∧ mg "parting_word" = some (.ref f)
  g_are_same : ∃ f fd, Fun K "are_same" "are_same" s_are_same f fd ∧ mg "are_same" = some (.ref f)
  g_is_suite : ∃ f fd, Fun K "is_suite" "is_suite" s_is_suite f fd ∧ mg "is_suite" = some (.ref f)
  g_passes : ∃ f fd, Fun K "passes" "passes" s_passes f fd ∧ mg "passes" = some (.ref f)
  g_first_fail : ∃ f fd, Fun K "first_fail" "first_fail" s_first_fail f fd ∧ mg "first_fail" = some (.ref f)
  g_cover_of : ∃ f fd, Fun K "cover_of" "cover_of" s_cover_of f fd ∧ mg "cover_of" = some (.ref f)
  g_telling_set : ∃ f fd, Fun K "telling_set" "telling_set" s_telling_set f fd ∧ mg "telling_set" = some (.ref f)
  g_full_suite : ∃ f fd, Fun K "full_suite" "full_suite" s_full_suite f fd ∧ mg "full_suite" = some (.ref f)
  g_is_longer : ∃ f fd, Fun K "is_longer" "is_longer" s_is_longer f fd ∧ mg "is_longer" = some (.ref f)
  g_trimmed : ∃ f fd, Fun K "trimmed" "trimmed" s_trimmed f fd ∧ mg "trimmed" = some (.ref f)
  g_with_slip : ∃ f fd, Fun K "with_slip" "with_slip" s_with_slip f fd ∧ mg "with_slip" = some (.ref f)
  g_slips_of : ∃ f fd, Fun K "slips_of" "slips_of" s_slips_of f fd ∧ mg "slips_of" = some (.ref f)
  g_untold_slips : ∃ f fd, Fun K "untold_slips" "untold_slips" s_untold_slips f fd ∧ mg "untold_slips" = some (.ref f)
  g_p_law_cell : ∃ f fd, Fun K "_law_cell" "_law_cell" s_p_law_cell f fd ∧ mg "_law_cell" = some (.ref f)
  g_p_law_numbers : ∃ f fd, Fun K "_law_numbers" "_law_numbers" s_p_law_numbers f fd ∧ mg "_law_numbers" = some (.ref f)
  g_p_law_pool : ∃ f fd, Fun K "_law_pool" "_law_pool" s_p_law_pool f fd ∧ mg "_law_pool" = some (.ref f)
  g_p_law_draw : ∃ f fd, Fun K "_law_draw" "_law_draw" s_p_law_draw f fd ∧ mg "_law_draw" = some (.ref f)
  g_p_law_is : ∃ f fd, Fun K "_law_is" "_law_is" s_p_law_is f fd ∧ mg "_law_is" = some (.ref f)
  g_p_law_table : ∃ f fd, Fun K "_law_table" "_law_table" s_p_law_table f fd ∧ mg "_law_table" = some (.ref f)
  g_p_law_doubled : ∃ f fd, Fun K "_law_doubled" "_law_doubled" s_p_law_doubled f fd ∧ mg "_law_doubled" = some (.ref f)
  g_p_law_machine : ∃ f fd, Fun K "_law_machine" "_law_machine" s_p_law_machine f fd ∧ mg "_law_machine" = some (.ref f)
  g_p_law_changed : ∃ f fd, Fun K "_law_changed" "_law_changed" s_p_law_changed f fd ∧ mg "_law_changed" = some (.ref f)
  g_p_law_word : ∃ f fd, Fun K "_law_word" "_law_word" s_p_law_word f fd ∧ mg "_law_word" = some (.ref f)
  g_p_law_once : ∃ f fd, Fun K "_law_once" "_law_once" s_p_law_once f fd ∧ mg "_law_once" = some (.ref f)
  g_p_law_suite : ∃ f fd, Fun K "_law_suite" "_law_suite" s_p_law_suite f fd ∧ mg "_law_suite" = some (.ref f)
  g_law : ∃ f fd, Fun K "law" "law" s_law f fd ∧ mg "law" = some (.ref f)
section
variable {P : Program} {w : World} {K : PySem.W.Frag} {mg : Str → Option Value} {base : Heap}
theorem ok_is_integer (T : Facts K mg) : Fnc P w K mg base "is_integer" 1 (spP ⟨P, w, K⟩ 1 f_is_integer) := by
  obtain ⟨f, fd, F, hm⟩ := T.g_is_integer
  exact ⟨f, fd, ["value"], hm, F.kp, F.binds (ps := ["value"]) (fun _ _ _ _ _ _ us hl => match us, hl with | [_], _ => rfl), okP (k := 0) F sc_is_integer (fun cdv A outer s H E hr => (ss_cons (ss_ret ((s_and (s_isi (T := "int") (by decide) rfl T.z_isinstance rfl T.z_int (by decide +kernel) (s_var (i := 0))) (s_one (s_not (s_isi (T := "bool") (by decide) rfl T.z_isinstance rfl T.z_bool (by decide +kernel) (s_var (i := 0))))))))
  ss_nil))⟩
theorem ok_is_number (T : Facts K mg) : Fnc P w K mg base "is_number" 2 (spP ⟨P, w, K⟩ 3 f_is_number) := by
  obtain ⟨f, fd, F, hm⟩ := T.g_is_number
  exact ⟨f, fd, ["value", "low", "high"], hm, F.kp, F.binds (ps := ["value", "low", "high"]) (fun _ _ _ _ _ _ us hl => match us, hl with | [_, _, _], _ => rfl), okP (k := 1) F sc_is_number (fun cdv A outer s H E hr => (ss_cons (ss_ret ((s_and (s_call (ok_is_integer T) (hr.mono (by decide)) rfl (fun _ _ => runP_len) (s_cons (s_var (i := 0)) s_nil)) (s_one (s_lele (s_var (i := 1)) (s_var (i := 0)) (s_var (i := 2)))))))
  ss_nil))⟩
theorem ok_is_ascending (T : Facts K mg) : Fnc P w K mg base "is_ascending" 1 (spP ⟨P, w, K⟩ 1 f_is_ascending) := by
  obtain ⟨f, fd, F, hm⟩ := T.g_is_ascending
  exact ⟨f, fd, ["values"], hm, F.kp, F.binds (ps := ["values"]) (fun _ _ _ _ _ _ us hl => match us, hl with | [_], _ => rfl), okP (k := 0) F sc_is_ascending (fun cdv A outer s H E hr => (ss_cons (ss_ret (s_blt (cr_all rfl) allS_ok rfl T.z_all (by decide +kernel) (s_cons (s_lc (own := [("at", 1)]) rfl sc_is_ascending.nd (i_rng2 rfl T.z_range (s_cons (s_int) (s_cons (s_blt call_len_seq lenS_ok rfl T.z_len (by decide +kernel) (s_cons (s_var (i := 0)) s_nil)) s_nil))) (blkOk_by (by kernel_rfl)) (by decide) (fun _ _ _ _ _ => (g_name (i := 1) sc_is_ascending.nd)) (fun _ _ _ _ _ => pt_none) (fun _ _ _ _ _ => (s_ltT (hrU hr) (s_ix (hrU hr) (s_var (i := 0)) (s_sub (s_var (i := 1)) (s_int)) (fun _ _ => rfl)) (s_ix (hrU hr) (s_var (i := 0)) (s_var (i := 1)) (fun _ _ => rfl))))) s_nil)))
  ss_nil))⟩
theorem ok_letters_of (T : Facts K mg) : Fnc P w K mg base "letters_of" 1 (spP ⟨P, w, K⟩ 1 f_letters_of) := by
  obtain ⟨f, fd, F, hm⟩ := T.g_letters_of
  exact ⟨f, fd, ["machine"], hm, F.kp, F.binds (ps := ["machine"]) (fun _ _ _ _ _ _ us hl => match us, hl with | [_], _ => rfl), okP (k := 0) F sc_letters_of (fun cdv A outer s H E hr => (ss_cons (ss_ret (s_blt call_len_seq lenS_ok rfl T.z_len (by decide +kernel) (s_cons (s_ix (hrU hr) (s_var (i := 0)) (s_int) (fun _ _ => rfl)) s_nil)))
  ss_nil))⟩
theorem ok_answers_of (T : Facts K mg) : Fnc P w K mg base "answers_of" 1 (spP ⟨P, w, K⟩ 3 f_answers_of) := by
  obtain ⟨f, fd, F, hm⟩ := T.g_answers_of
  exact ⟨f, fd, ["machine", "state", "word"], hm, F.kp, F.binds (ps := ["machine", "state", "word"]) (fun _ _ _ _ _ _ us hl => match us, hl with | [_, _, _], _ => rfl), okP (k := 0) F sc_answers_of (fun cdv A outer s H E hr => (ss_cons (ss_set (i := 3) sc_answers_of.nd (s_ownL s_nil))
  (ss_cons (ss_for PassesOwn.never rfl (i_seq (s_var (i := 2))) (g_name (i := 4) sc_answers_of.nd) (ss_cons (ss_asg (s_ix (hrU hr) (s_ix (hrU hr) (s_var (i := 0)) (s_var (i := 1)) (fun _ _ => rfl)) (s_var (i := 4)) (fun _ _ => rfl)) (g_tup rfl (gs_cons (g_name (i := 5) sc_answers_of.nd) (gs_cons (g_name (i := 1) sc_answers_of.nd) gs_nil))))
  (ss_cons (ss_expr (s_append (s_var (i := 3)) (s_cons (s_var (i := 5)) s_nil)))
  ss_nil)))
  (ss_cons (ss_ret (s_bty call_tuple_of tupS_ok rfl T.z_tuple (by decide +kernel) (s_cons (s_var (i := 3)) s_nil)))
  ss_nil))))⟩
theorem ok_trial (T : Facts K mg) : Fnc P w K mg base "trial" 2 (spP ⟨P, w, K⟩ 2 f_trial) := by
  obtain ⟨f, fd, F, hm⟩ := T.g_trial
  exact ⟨f, fd, ["machine", "word"], hm, F.kp, F.binds (ps := ["machine", "word"]) (fun _ _ _ _ _ _ us hl => match us, hl with | [_, _], _ => rfl), okP (k := 1) F sc_trial (fun cdv A outer s H E hr => (ss_cons (ss_ret (s_call (ok_answers_of T) (hr.mono (by decide)) rfl (fun _ _ => runP_len) (s_cons (s_var (i := 0)) (s_cons (s_int) (s_cons (s_var (i := 1)) s_nil)))))
  ss_nil))⟩
theorem ok_ways (T : Facts K mg) : Fnc P w K mg base "ways" 1 (spP ⟨P, w, K⟩ 1 f_ways) := by
  obtain ⟨f, fd, F, hm⟩ := T.g_ways
  exact ⟨f, fd, ["machine"], hm, F.kp, F.binds (ps := ["machine"]) (fun _ _ _ _ _ _ us hl => match us, hl with | [_], _ => rfl), okP (k := 0) F sc_ways (fun cdv A outer s H E hr => (ss_cons (ss_set (i := 1) sc_ways.nd (s_disp (hrU hr) (s_int) (s_tup s_nil)))
  (ss_cons (ss_set (i := 2) sc_ways.nd (s_ownL (s_cons (s_int) s_nil)))
  (ss_cons (ss_set (i := 3) sc_ways.nd (s_int))
  (ss_cons (ss_while PassesOwn.never (s_tlt (s_var (i := 3)) (s_blt call_len_seq lenS_ok rfl T.z_len (by decide +kernel) (s_cons (s_var (i := 2)) s_nil))) (ss_cons (ss_for PassesOwn.never rfl (i_enum rfl T.z_enumerate (s_cons (s_ix (hrU hr) (s_var (i := 0)) (s_ix (hrU hr) (s_var (i := 2)) (s_var (i := 3)) (fun _ _ => rfl)) (fun _ _ => rfl)) s_nil)) (g_tup rfl (gs_cons (g_name (i := 4) sc_ways.nd) (gs_cons (g_tup rfl (gs_cons (g_name (i := 5) sc_ways.nd) (gs_cons (g_name (i := 6) sc_ways.nd) gs_nil))) gs_nil))) (ss_cons (ss_if (s_tnotin (hrU hr) (s_var (i := 6)) (s_var (i := 1))) (ss_cons (ss_asg (s_add (s_ix (hrU hr) (s_var (i := 1)) (s_ix (hrU hr) (s_var (i := 2)) (s_var (i := 3)) (fun _ _ => rfl)) (fun _ _ => rfl)) (s_tup (s_cons (s_var (i := 4)) s_nil))) (g_sub (hrU hr) (s_var (i := 1)) (s_var (i := 6))))
  (ss_cons (ss_expr (s_append (s_var (i := 2)) (s_cons (s_var (i := 6)) s_nil)))
  ss_nil)) ss_nil)
  ss_nil))
  (ss_cons (ss_aug (i := 3) sc_ways.nd (s_int))
  ss_nil)))
  (ss_cons (ss_ret (s_var (i := 1)))
  ss_nil))))))⟩
theorem ok_reached (T : Facts K mg) : Fnc P w K mg base "reached" 2 (spP ⟨P, w, K⟩ 1 f_reached) := by
  obtain ⟨f, fd, F, hm⟩ := T.g_reached
  exact ⟨f, fd, ["machine"], hm, F.kp, F.binds (ps := ["machine"]) (fun _ _ _ _ _ _ us hl => match us, hl with | [_], _ => rfl), okP (k := 1) F sc_reached (fun cdv A outer s H E hr => (ss_cons (ss_ret (s_bty call_tuple_of tupS_ok rfl T.z_tuple (by decide +kernel) (s_cons (s_blt (cr_sort rfl (hrU hr)) sortS_ok rfl T.z_sorted (by decide +kernel) (s_cons (s_call (ok_ways T) (hr.mono (by decide)) rfl (fun _ _ => runP_len) (s_cons (s_var (i := 0)) s_nil)) s_nil)) s_nil)))
  ss_nil))⟩
theorem ok_way_to (T : Facts K mg) : Fnc P w K mg base "way_to" 2 (spP ⟨P, w, K⟩ 2 f_way_to) := by
  obtain ⟨f, fd, F, hm⟩ := T.g_way_to
  exact ⟨f, fd, ["machine", "state"], hm, F.kp, F.binds (ps := ["machine", "state"]) (fun _ _ _ _ _ _ us hl => match us, hl with | [_, _], _ => rfl), okP (k := 1) F sc_way_to (fun cdv A outer s H E hr => (ss_cons (ss_ret (s_get1 (hrU hr) (s_call (ok_ways T) (hr.mono (by decide)) rfl (fun _ _ => runP_len) (s_cons (s_var (i := 0)) s_nil)) (s_var (i := 1)) ⟨rfl, rfl, rfl, rfl⟩))
  ss_nil))⟩
theorem ok_words_of (T : Facts K mg) : Fnc P w K mg base "words_of" 1 (spP ⟨P, w, K⟩ 2 f_words_of) := by
  obtain ⟨f, fd, F, hm⟩ := T.g_words_of
  exact ⟨f, fd, ["letters", "length"], hm, F.kp, F.binds (ps := ["letters", "length"]) (fun _ _ _ _ _ _ us hl => match us, hl with | [_, _], _ => rfl), okP (k := 0) F sc_words_of (fun cdv A outer s H E hr => (ss_cons (ss_set (i := 2) sc_words_of.nd (s_lst (s_cons (s_tup s_nil) s_nil)))
  (ss_cons (ss_for PassesOwn.never rfl (i_rng1 rfl T.z_range (s_cons (s_var (i := 1)) s_nil)) (g_name (i := 3) sc_words_of.nd) (ss_cons (ss_setLc2 (i := 2) (own := [("word", 5), ("letter", 4)]) (vs1 := [4]) rfl sc_words_of.nd (by rfl) (i_seq (s_var (i := 2))) (blkOk_by (by kernel_rfl)) (by decide) (by decide) (by decide) (fun _ _ _ _ _ => (g_name (i := 5) sc_words_of.nd)) (fun _ _ _ _ _ => pt_none) (fun _ _ _ _ _ => (i_rng1 rfl T.z_range (s_cons (s_var (i := 0)) s_nil))) (fun _ _ _ _ _ => (g_name (i := 4) sc_words_of.nd)) (fun _ _ _ _ _ => pt_none) (fun _ _ _ _ _ => (s_add (s_var (i := 5)) (s_tup (s_cons (s_var (i := 4)) s_nil)))))
  ss_nil))
  (ss_cons (ss_ret (s_var (i := 2)))
  ss_nil))))⟩
theorem ok_is_word (T : Facts K mg) : Fnc P w K mg base "is_word" 3 (spP ⟨P, w, K⟩ 2 f_is_word) := by
  obtain ⟨f, fd, F, hm⟩ := T.g_is_word
  exact ⟨f, fd, ["letters", "value"], hm, F.kp, F.binds (ps := ["letters", "value"]) (fun _ _ _ _ _ _ us hl => match us, hl with | [_, _], _ => rfl), okP (k := 2) F sc_is_word (fun cdv A outer s H E hr => (ss_cons (ss_ret ((s_and (s_isi (T := "tuple") (by decide) rfl T.z_isinstance rfl T.z_tuple (by decide +kernel) (s_var (i := 1))) (s_one (s_blt (cr_all rfl) allS_ok rfl T.z_all (by decide +kernel) (s_cons (s_lc (own := [("letter", 2)]) rfl sc_is_word.nd (i_seq (s_var (i := 1))) (blkOk_by (by kernel_rfl)) (by decide) (fun _ _ _ _ _ => (g_name (i := 2) sc_is_word.nd)) (fun _ _ _ _ _ => pt_none) (fun _ _ _ _ _ => (s_call (ok_is_number T) (hr.mono (by decide)) rfl (fun _ _ => runP_len) (s_cons (s_var (i := 2)) (s_cons (s_int) (s_cons (s_sub (s_var (i := 0)) (s_int)) s_nil)))))) s_nil))))))
  ss_nil))⟩
theorem ok_pair_paper (T : Facts K mg) : Fnc P w K mg base "pair_paper" 2 (spP ⟨P, w, K⟩ 4 f_pair_paper) := by
  obtain ⟨f, fd, F, hm⟩ := T.g_pair_paper
  exact ⟨f, fd, ["one", "a", "two", "b"], hm, F.kp, F.binds (ps := ["one", "a", "two", "b"]) (fun _ _ _ _ _ _ us hl => match us, hl with | [_, _, _, _], _ => rfl), okP (k := 1) F sc_pair_paper (fun cdv A outer s H E hr => (ss_cons (ss_set (i := 4) sc_pair_paper.nd (s_disp (hrU hr) (s_tup (s_cons (s_var (i := 1)) (s_cons (s_var (i := 3)) s_nil))) (s_tup s_nil)))
  (ss_cons (ss_set (i := 5) sc_pair_paper.nd (s_ownL (s_cons (s_tup (s_cons (s_var (i := 1)) (s_cons (s_var (i := 3)) s_nil))) s_nil)))
  (ss_cons (ss_set (i := 6) sc_pair_paper.nd (s_int))
  (ss_cons (ss_while PassesOwn.never (s_tlt (s_var (i := 6)) (s_blt call_len_seq lenS_ok rfl T.z_len (by decide +kernel) (s_cons (s_var (i := 5)) s_nil))) (ss_cons (ss_asg (s_ix (hrU hr) (s_var (i := 5)) (s_var (i := 6)) (fun _ _ => rfl)) (g_tup rfl (gs_cons (g_name (i := 7) sc_pair_paper.nd) (gs_cons (g_name (i := 8) sc_pair_paper.nd) gs_nil))))
  (ss_cons (ss_for PassesOwn.never rfl (i_rng1 rfl T.z_range (s_cons (s_call (ok_letters_of T) (hr.mono (by decide)) rfl (fun _ _ => runP_len) (s_cons (s_var (i := 0)) s_nil)) s_nil)) (g_name (i := 9) sc_pair_paper.nd) (ss_cons (ss_asg (s_ix (hrU hr) (s_ix (hrU hr) (s_var (i := 0)) (s_var (i := 7)) (fun _ _ => rfl)) (s_var (i := 9)) (fun _ _ => rfl)) (g_tup rfl (gs_cons (g_name (i := 10) sc_pair_paper.nd) (gs_cons (g_name (i := 11) sc_pair_paper.nd) gs_nil))))
  (ss_cons (ss_asg (s_ix (hrU hr) (s_ix (hrU hr) (s_var (i := 2)) (s_var (i := 8)) (fun _ _ => rfl)) (s_var (i := 9)) (fun _ _ => rfl)) (g_tup rfl (gs_cons (g_name (i := 12) sc_pair_paper.nd) (gs_cons (g_name (i := 13) sc_pair_paper.nd) gs_nil))))
  (ss_cons (ss_set (i := 14) sc_pair_paper.nd (s_add (s_ix (hrU hr) (s_var (i := 4)) (s_ix (hrU hr) (s_var (i := 5)) (s_var (i := 6)) (fun _ _ => rfl)) (fun _ _ => rfl)) (s_tup (s_cons (s_var (i := 9)) s_nil))))
  (ss_cons (ss_if (s_tne (hrU hr) (s_var (i := 10)) (s_var (i := 12))) (ss_cons (ss_ret (s_tup (s_cons (s_globS rfl T.c_WORD.choose_spec) (s_cons (s_var (i := 14)) s_nil))))
  ss_nil) ss_nil)
  (ss_cons (ss_if (s_tnotin (hrU hr) (s_tup (s_cons (s_var (i := 11)) (s_cons (s_var (i := 13)) s_nil))) (s_var (i := 4))) (ss_cons (ss_asg (s_var (i := 14)) (g_sub (hrU hr) (s_var (i := 4)) (s_tup (s_cons (s_var (i := 11)) (s_cons (s_var (i := 13)) s_nil)))))
  (ss_cons (ss_expr (s_append (s_var (i := 5)) (s_cons (s_tup (s_cons (s_var (i := 11)) (s_cons (s_var (i := 13)) s_nil))) s_nil)))
  ss_nil)) ss_nil)
  ss_nil))))))
  (ss_cons (ss_aug (i := 6) sc_pair_paper.nd (s_int))
  ss_nil))))
  (ss_cons (ss_ret (s_tup (s_cons (s_globS rfl T.c_ALIKE.choose_spec) (s_cons (s_bty call_tuple_of tupS_ok rfl T.z_tuple (by decide +kernel) (s_cons (s_blt (cr_sort rfl (hrU hr)) sortS_ok rfl T.z_sorted (by decide +kernel) (s_cons (s_var (i := 4)) s_nil)) s_nil)) s_nil))))
  ss_nil))))))⟩
theorem ok_are_alike (T : Facts K mg) : Fnc P w K mg base "are_alike" 3 (spP ⟨P, w, K⟩ 4 f_are_alike) := by
  obtain ⟨f, fd, F, hm⟩ := T.g_are_alike
  exact ⟨f, fd, ["one", "a", "two", "b"], hm, F.kp, F.binds (ps := ["one", "a", "two", "b"]) (fun _ _ _ _ _ _ us hl => match us, hl with | [_, _, _, _], _ => rfl), okP (k := 2) F sc_are_alike (fun cdv A outer s H E hr => (ss_cons (ss_ret (s_eq (hrU hr) (s_ix (hrU hr) (s_call (ok_pair_paper T) (hr.mono (by decide)) rfl (fun _ _ => runP_len) (s_cons (s_var (i := 0)) (s_cons (s_var (i := 1)) (s_cons (s_var (i := 2)) (s_cons (s_var (i := 3)) s_nil))))) (s_int) (fun _ _ => rfl)) (s_globS rfl T.c_ALIKE.choose_spec)))
  ss_nil))⟩
theorem ok_parting_word (T : Facts K mg) : Fnc P w K mg base "parting_word" 3 (spP ⟨P, w, K⟩ 4 f_parting_word) := by
  obtain ⟨f, fd, F, hm⟩ := T.g_parting_word
  exact ⟨f, fd, ["one", "a", "two", "b"], hm, F.kp, F.binds (ps := ["one", "a", "two", "b"]) (fun _ _ _ _ _ _ us hl => match us, hl with | [_, _, _, _], _ => rfl), okP (k := 2) F sc_parting_word (fun cdv A outer s H E hr => (ss_cons (ss_set (i := 4) sc_parting_word.nd (s_call (ok_pair_paper T) (hr.mono (by decide)) rfl (fun _ _ => runP_len) (s_cons (s_var (i := 0)) (s_cons (s_var (i := 1)) (s_cons (s_var (i := 2)) (s_cons (s_var (i := 3)) s_nil))))))
  (ss_cons (ss_ret (s_if (s_teq (hrU hr) (s_ix (hrU hr) (s_var (i := 4)) (s_int) (fun _ _ => rfl)) (s_globS rfl T.c_WORD.choose_spec)) (s_ix (hrU hr) (s_var (i := 4)) (s_int) (fun _ _ => rfl)) (s_non)))
  ss_nil)))⟩
theorem ok_are_same (T : Facts K mg) : Fnc P w K mg base "are_same" 4 (spP ⟨P, w, K⟩ 2 f_are_same) := by
  obtain ⟨f, fd, F, hm⟩ := T.g_are_same
  exact ⟨f, fd, ["one", "two"], hm, F.kp, F.binds (ps := ["one", "two"]) (fun _ _ _ _ _ _ us hl => match us, hl with | [_, _], _ => rfl), okP (k := 3) F sc_are_same (fun cdv A outer s H E hr => (ss_cons (ss_ret (s_call (ok_are_alike T) (hr.mono (by decide)) rfl (fun _ _ => runP_len) (s_cons (s_var (i := 0)) (s_cons (s_int) (s_cons (s_var (i := 1)) (s_cons (s_int) s_nil))))))
  ss_nil))⟩
theorem ok_is_suite (T : Facts K mg) : Fnc P w K mg base "is_suite" 4 (spP ⟨P, w, K⟩ 2 f_is_suite) := by
  obtain ⟨f, fd, F, hm⟩ := T.g_is_suite
  exact ⟨f, fd, ["letters", "value"], hm, F.kp, F.binds (ps := ["letters", "value"]) (fun _ _ _ _ _ _ us hl => match us, hl with | [_, _], _ => rfl), okP (k := 3) F sc_is_suite (fun cdv A outer s H E hr => (ss_cons (ss_if (SW.t (w_or (s_tnot (s_t (s_isi (T := "tuple") (by decide) rfl T.z_isinstance rfl T.z_tuple (by decide +kernel) (s_var (i := 1))))) (w_or1 (s_tgt (s_blt call_len_seq lenS_ok rfl T.z_len (by decide +kernel) (s_cons (s_var (i := 1)) s_nil)) (s_globI rfl T.c_MOST_WORDS.choose_spec))))) (ss_cons (ss_ret (s_bl))
  ss_nil) ss_nil)
  (ss_cons (ss_if (s_tnot (s_t (s_blt (cr_all rfl) allS_ok rfl T.z_all (by decide +kernel) (s_cons (s_lc (own := [("word", 2)]) rfl sc_is_suite.nd (i_seq (s_var (i := 1))) (blkOk_by (by kernel_rfl)) (by decide) (fun _ _ _ _ _ => (g_name (i := 2) sc_is_suite.nd)) (fun _ _ _ _ _ => pt_none) (fun _ _ _ _ _ => ((s_and (s_call (ok_is_word T) (hr.mono (by decide)) rfl (fun _ _ => runP_len) (s_cons (s_var (i := 0)) (s_cons (s_var (i := 2)) s_nil))) (s_one (s_le (s_blt call_len_seq lenS_ok rfl T.z_len (by decide +kernel) (s_cons (s_var (i := 2)) s_nil)) (s_globI rfl T.c_LONGEST.choose_spec))))))) s_nil)))) (ss_cons (ss_ret (s_bl))
  ss_nil) ss_nil)
  (ss_cons (ss_ret (s_call (ok_is_ascending T) (hr.mono (by decide)) rfl (fun _ _ => runP_len) (s_cons (s_var (i := 1)) s_nil)))
  ss_nil))))⟩
theorem ok_passes (T : Facts K mg) : Fnc P w K mg base "passes" 3 (spP ⟨P, w, K⟩ 3 f_passes) := by
  obtain ⟨f, fd, F, hm⟩ := T.g_passes
  exact ⟨f, fd, ["machine", "suite", "other"], hm, F.kp, F.binds (ps := ["machine", "suite", "other"]) (fun _ _ _ _ _ _ us hl => match us, hl with | [_, _, _], _ => rfl), okP (k := 2) F sc_passes (fun cdv A outer s H E hr => (ss_cons (ss_ret (s_blt (cr_all rfl) allS_ok rfl T.z_all (by decide +kernel) (s_cons (s_lc (own := [("word", 3)]) rfl sc_passes.nd (i_seq (s_var (i := 1))) (blkOk_by (by kernel_rfl)) (by decide) (fun _ _ _ _ _ => (g_name (i := 3) sc_passes.nd)) (fun _ _ _ _ _ => pt_none) (fun _ _ _ _ _ => (s_eq (hrU hr) (s_call (ok_trial T) (hr.mono (by decide)) rfl (fun _ _ => runP_len) (s_cons (s_var (i := 0)) (s_cons (s_var (i := 3)) s_nil))) (s_call (ok_trial T) (hr.mono (by decide)) rfl (fun _ _ => runP_len) (s_cons (s_var (i := 2)) (s_cons (s_var (i := 3)) s_nil)))))) s_nil)))
  ss_nil))⟩
theorem ok_first_fail (T : Facts K mg) : Fnc P w K mg base "first_fail" 3 (spP ⟨P, w, K⟩ 3 f_first_fail) := by
  obtain ⟨f, fd, F, hm⟩ := T.g_first_fail
  exact ⟨f, fd, ["machine", "suite", "other"], hm, F.kp, F.binds (ps := ["machine", "suite", "other"]) (fun _ _ _ _ _ _ us hl => match us, hl with | [_, _, _], _ => rfl), okP (k := 2) F sc_first_fail (fun cdv A outer s H E hr => (ss_cons (ss_for PassesOwn.never rfl (i_seq (s_var (i := 1))) (g_name (i := 3) sc_first_fail.nd) (ss_cons (ss_asg (s_tup (s_cons (s_call (ok_trial T) (hr.mono (by decide)) rfl (fun _ _ => runP_len) (s_cons (s_var (i := 0)) (s_cons (s_var (i := 3)) s_nil))) (s_cons (s_call (ok_trial T) (hr.mono (by decide)) rfl (fun _ _ => runP_len) (s_cons (s_var (i := 2)) (s_cons (s_var (i := 3)) s_nil))) s_nil))) (g_tup rfl (gs_cons (g_name (i := 4) sc_first_fail.nd) (gs_cons (g_name (i := 5) sc_first_fail.nd) gs_nil))))
  (ss_cons (ss_if (s_tne (hrU hr) (s_var (i := 4)) (s_var (i := 5))) (ss_cons (ss_ret (s_tup (s_cons (s_var (i := 3)) (s_cons (s_ix (hrU hr) (s_lc (own := [("at", 6)]) rfl sc_first_fail.nd (i_rng1 rfl T.z_range (s_cons (s_blt call_len_seq lenS_ok rfl T.z_len (by decide +kernel) (s_cons (s_var (i := 3)) s_nil)) s_nil)) (blkOk_by (by kernel_rfl)) (by decide) (fun _ _ _ _ _ => (g_name (i := 6) sc_first_fail.nd)) (fun _ _ _ _ _ => (pt_one (s_tne (hrU hr) (s_ix (hrU hr) (s_var (i := 4)) (s_var (i := 6)) (fun _ _ => rfl)) (s_ix (hrU hr) (s_var (i := 5)) (s_var (i := 6)) (fun _ _ => rfl))))) (fun _ _ _ _ _ => (s_var (i := 6)))) (s_int) (fun _ _ => rfl)) s_nil))))
  ss_nil) ss_nil)
  ss_nil)))
  (ss_cons (ss_ret (s_non))
  ss_nil)))⟩
theorem ok_cover_of (T : Facts K mg) : Fnc P w K mg base "cover_of" 2 (spP ⟨P, w, K⟩ 1 f_cover_of) := by
  obtain ⟨f, fd, F, hm⟩ := T.g_cover_of
  exact ⟨f, fd, ["machine"], hm, F.kp, F.binds (ps := ["machine"]) (fun _ _ _ _ _ _ us hl => match us, hl with | [_], _ => rfl), okP (k := 1) F sc_cover_of (fun cdv A outer s H E hr => (ss_cons (ss_set (i := 1) sc_cover_of.nd (s_dic0))
  (ss_cons (ss_for PassesOwn.never rfl (i_dv (s_call (ok_ways T) (hr.mono (by decide)) rfl (fun _ _ => runP_len) (s_cons (s_var (i := 0)) s_nil))) (g_name (i := 2) sc_cover_of.nd) (ss_cons (ss_asg (s_bl) (g_sub (hrU hr) (s_var (i := 1)) (s_var (i := 2))))
  (ss_cons (ss_for PassesOwn.never rfl (i_rng1 rfl T.z_range (s_cons (s_call (ok_letters_of T) (hr.mono (by decide)) rfl (fun _ _ => runP_len) (s_cons (s_var (i := 0)) s_nil)) s_nil)) (g_name (i := 3) sc_cover_of.nd) (ss_cons (ss_asg (s_bl) (g_sub (hrU hr) (s_var (i := 1)) (s_add (s_var (i := 2)) (s_tup (s_cons (s_var (i := 3)) s_nil)))))
  ss_nil))
  ss_nil)))
  (ss_cons (ss_ret (s_bty call_tuple_of tupS_ok rfl T.z_tuple (by decide +kernel) (s_cons (s_blt (cr_sort rfl (hrU hr)) sortS_ok rfl T.z_sorted (by decide +kernel) (s_cons (s_var (i := 1)) s_nil)) s_nil)))
  ss_nil))))⟩
theorem ok_telling_set (T : Facts K mg) : Fnc P w K mg base "telling_set" 4 (spP ⟨P, w, K⟩ 1 f_telling_set) := by
  obtain ⟨f, fd, F, hm⟩ := T.g_telling_set
  exact ⟨f, fd, ["machine"], hm, F.kp, F.binds (ps := ["machine"]) (fun _ _ _ _ _ _ us hl => match us, hl with | [_], _ => rfl), okP (k := 3) F sc_telling_set (fun cdv A outer s H E hr => (ss_cons (ss_set (i := 1) sc_telling_set.nd (s_dic0))
  (ss_cons (ss_for PassesOwn.never rfl (i_seq (s_call (ok_reached T) (hr.mono (by decide)) rfl (fun _ _ => runP_len) (s_cons (s_var (i := 0)) s_nil))) (g_name (i := 2) sc_telling_set.nd) (ss_cons (ss_for PassesOwn.never rfl (i_seq (s_call (ok_reached T) (hr.mono (by decide)) rfl (fun _ _ => runP_len) (s_cons (s_var (i := 0)) s_nil))) (g_name (i := 3) sc_telling_set.nd) (ss_cons (ss_set (i := 4) sc_telling_set.nd (s_if (s_tlt (s_var (i := 2)) (s_var (i := 3))) (s_call (ok_parting_word T) (hr.mono (by decide)) rfl (fun _ _ => runP_len) (s_cons (s_var (i := 0)) (s_cons (s_var (i := 2)) (s_cons (s_var (i := 0)) (s_cons (s_var (i := 3)) s_nil))))) (s_non)))
  (ss_cons (ss_if (s_tisnot (s_var (i := 4)) (s_non)) (ss_cons (ss_asg (s_bl) (g_sub (hrU hr) (s_var (i := 1)) (s_var (i := 4))))
  ss_nil) ss_nil)
  ss_nil)))
  ss_nil))
  (ss_cons (ss_ret (s_bty call_tuple_of tupS_ok rfl T.z_tuple (by decide +kernel) (s_cons (s_blt (cr_sort rfl (hrU hr)) sortS_ok rfl T.z_sorted (by decide +kernel) (s_cons (s_var (i := 1)) s_nil)) s_nil)))
  ss_nil))))⟩
theorem ok_full_suite (T : Facts K mg) : Fnc P w K mg base "full_suite" 5 (spP ⟨P, w, K⟩ 2 f_full_suite) := by
  obtain ⟨f, fd, F, hm⟩ := T.g_full_suite
  exact ⟨f, fd, ["machine", "extra"], hm, F.kp, F.binds (ps := ["machine", "extra"]) (fun _ _ _ _ _ _ us hl => match us, hl with | [_, _], _ => rfl), okP (k := 4) F sc_full_suite (fun cdv A outer s H E hr => (ss_cons (ss_set (i := 2) sc_full_suite.nd (s_dic0))
  (ss_cons (ss_setLc2 (i := 3) (own := [("length", 7), ("word", 8)]) (vs1 := [8]) rfl sc_full_suite.nd (by rfl) (i_rng1 rfl T.z_range (s_cons (s_add (s_var (i := 1)) (s_int)) s_nil)) (blkOk_by (by kernel_rfl)) (by decide) (by decide) (by decide) (fun _ _ _ _ _ => (g_name (i := 7) sc_full_suite.nd)) (fun _ _ _ _ _ => pt_none) (fun _ _ _ _ _ => (i_seq (s_call (ok_words_of T) (hr.mono (by decide)) rfl (fun _ _ => runP_len) (s_cons (s_call (ok_letters_of T) (hr.mono (by decide)) rfl (fun _ _ => runP_len) (s_cons (s_var (i := 0)) s_nil)) (s_cons (s_var (i := 7)) s_nil))))) (fun _ _ _ _ _ => (g_name (i := 8) sc_full_suite.nd)) (fun _ _ _ _ _ => pt_none) (fun _ _ _ _ _ => (s_var (i := 8))))
  (ss_cons (ss_for PassesOwn.never rfl (i_seq (s_call (ok_cover_of T) (hr.mono (by decide)) rfl (fun _ _ => runP_len) (s_cons (s_var (i := 0)) s_nil))) (g_name (i := 4) sc_full_suite.nd) (ss_cons (ss_for PassesOwn.never rfl (i_seq (s_var (i := 3))) (g_name (i := 5) sc_full_suite.nd) (ss_cons (ss_asg (s_bl) (g_sub (hrU hr) (s_var (i := 2)) (s_add (s_var (i := 4)) (s_var (i := 5)))))
  (ss_cons (ss_for PassesOwn.never rfl (i_seq (s_call (ok_telling_set T) (hr.mono (by decide)) rfl (fun _ _ => runP_len) (s_cons (s_var (i := 0)) s_nil))) (g_name (i := 6) sc_full_suite.nd) (ss_cons (ss_asg (s_bl) (g_sub (hrU hr) (s_var (i := 2)) (s_add (s_add (s_var (i := 4)) (s_var (i := 5))) (s_var (i := 6)))))
  ss_nil))
  ss_nil)))
  ss_nil))
  (ss_cons (ss_ret (s_bty call_tuple_of tupS_ok rfl T.z_tuple (by decide +kernel) (s_cons (s_blt (cr_sort rfl (hrU hr)) sortS_ok rfl T.z_sorted (by decide +kernel) (s_cons (s_var (i := 2)) s_nil)) s_nil)))
  ss_nil)))))⟩
theorem ok_is_longer (T : Facts K mg) : Fnc P w K mg base "is_longer" 1 (spP ⟨P, w, K⟩ 2 f_is_longer) := by
  obtain ⟨f, fd, F, hm⟩ := T.g_is_longer
  exact ⟨f, fd, ["word", "other"], hm, F.kp, F.binds (ps := ["word", "other"]) (fun _ _ _ _ _ _ us hl => match us, hl with | [_, _], _ => rfl), okP (k := 0) F sc_is_longer (fun cdv A outer s H E hr => (ss_cons (ss_ret ((s_and (s_lt (s_blt call_len_seq lenS_ok rfl T.z_len (by decide +kernel) (s_cons (s_var (i := 0)) s_nil)) (s_blt call_len_seq lenS_ok rfl T.z_len (by decide +kernel) (s_cons (s_var (i := 1)) s_nil))) (s_one (s_eq (hrU hr) (s_slice (s_var (i := 1)) s_onone (s_osome (s_blt call_len_seq lenS_ok rfl T.z_len (by decide +kernel) (s_cons (s_var (i := 0)) s_nil)))) (s_var (i := 0)))))))
  ss_nil))⟩
theorem ok_trimmed (T : Facts K mg) : Fnc P w K mg base "trimmed" 2 (spP ⟨P, w, K⟩ 1 f_trimmed) := by
  obtain ⟨f, fd, F, hm⟩ := T.g_trimmed
  exact ⟨f, fd, ["suite"], hm, F.kp, F.binds (ps := ["suite"]) (fun _ _ _ _ _ _ us hl => match us, hl with | [_], _ => rfl), okP (k := 1) F sc_trimmed (fun cdv A outer s H E hr => (ss_cons (ss_ret (s_bty call_tuple_of tupS_ok rfl T.z_tuple (by decide +kernel) (s_cons (s_lc (own := [("word", 2)]) rfl sc_trimmed.nd (i_seq (s_var (i := 0))) (blkOk_by (by kernel_rfl)) (by decide) (fun _ _ _ _ _ => (g_name (i := 2) sc_trimmed.nd)) (fun _ _ _ _ _ => (pt_one (s_tnot (s_t (s_blt (cr_any rfl) anyS_ok rfl T.z_any (by decide +kernel) (s_cons (s_lc (own := [("other", 1)]) rfl sc_trimmed.nd (i_seq (s_var (i := 0))) (blkOk_by (by kernel_rfl)) (by decide) (fun _ _ _ _ _ => (g_name (i := 1) sc_trimmed.nd)) (fun _ _ _ _ _ => pt_none) (fun _ _ _ _ _ => (s_call (ok_is_longer T) (hr.mono (by decide)) rfl (fun _ _ => runP_len) (s_cons (s_var (i := 2)) (s_cons (s_var (i := 1)) s_nil))))) s_nil)))))) (fun _ _ _ _ _ => (s_var (i := 2)))) s_nil)))
  ss_nil))⟩
theorem ok_with_slip (T : Facts K mg) : Fnc P w K mg base "with_slip" 1 (spP ⟨P, w, K⟩ 2 f_with_slip) := by
  obtain ⟨f, fd, F, hm⟩ := T.g_with_slip
  exact ⟨f, fd, ["machine", "slip"], hm, F.kp, F.binds (ps := ["machine", "slip"]) (fun _ _ _ _ _ _ us hl => match us, hl with | [_, _], _ => rfl), okP (k := 0) F sc_with_slip (fun cdv A outer s H E hr => (ss_cons (ss_asg (s_var (i := 1)) (g_tup rfl (gs_cons (g_name (i := 2) sc_with_slip.nd) (gs_cons (g_name (i := 3) sc_with_slip.nd) (gs_cons (g_name (i := 4) sc_with_slip.nd) (gs_cons (g_name (i := 5) sc_with_slip.nd) gs_nil))))))
  (ss_cons (ss_set (i := 6) sc_with_slip.nd (s_listO rfl T.z_list (s_cons (s_var (i := 0)) s_nil)))
  (ss_cons (ss_asg (s_add (s_add (s_slice (s_ix (hrU hr) (s_var (i := 6)) (s_var (i := 2)) (fun _ _ => rfl)) s_onone (s_osome (s_var (i := 3)))) (s_tup (s_cons (s_tup (s_cons (s_var (i := 4)) (s_cons (s_var (i := 5)) s_nil))) s_nil))) (s_slice (s_ix (hrU hr) (s_var (i := 6)) (s_var (i := 2)) (fun _ _ => rfl)) (s_osome (s_add (s_var (i := 3)) (s_int))) s_onone)) (g_sub (hrU hr) (s_var (i := 6)) (s_var (i := 2))))
  (ss_cons (ss_ret (s_bty call_tuple_of tupS_ok rfl T.z_tuple (by decide +kernel) (s_cons (s_var (i := 6)) s_nil)))
  ss_nil)))))⟩
theorem ok_slips_of (T : Facts K mg) : Fnc P w K mg base "slips_of" 1 (spP ⟨P, w, K⟩ 1 f_slips_of) := by
  obtain ⟨f, fd, F, hm⟩ := T.g_slips_of
  exact ⟨f, fd, ["machine"], hm, F.kp, F.binds (ps := ["machine"]) (fun _ _ _ _ _ _ us hl => match us, hl with | [_], _ => rfl), okP (k := 0) F sc_slips_of (fun cdv A outer s H E hr => (ss_cons (ss_set (i := 1) sc_slips_of.nd (s_ownL s_nil))
  (ss_cons (ss_for PassesOwn.never rfl (i_enum rfl T.z_enumerate (s_cons (s_var (i := 0)) s_nil)) (g_tup rfl (gs_cons (g_name (i := 2) sc_slips_of.nd) (gs_cons (g_name (i := 3) sc_slips_of.nd) gs_nil))) (ss_cons (ss_for PassesOwn.never rfl (i_enum rfl T.z_enumerate (s_cons (s_var (i := 3)) s_nil)) (g_tup rfl (gs_cons (g_name (i := 4) sc_slips_of.nd) (gs_cons (g_name (i := 5) sc_slips_of.nd) gs_nil))) (ss_cons (ss_setLc2 (i := 6) (own := [("answer", 7), ("goal", 8)]) (vs1 := [8]) rfl sc_slips_of.nd (by rfl) (i_rng1 rfl T.z_range (s_cons (s_globI rfl T.c_MOST_ANSWERS.choose_spec) s_nil)) (blkOk_by (by kernel_rfl)) (by decide) (by decide) (by decide) (fun _ _ _ _ _ => (g_name (i := 7) sc_slips_of.nd)) (fun _ _ _ _ _ => pt_none) (fun _ _ _ _ _ => (i_rng1 rfl T.z_range (s_cons (s_blt call_len_seq lenS_ok rfl T.z_len (by decide +kernel) (s_cons (s_var (i := 0)) s_nil)) s_nil))) (fun _ _ _ _ _ => (g_name (i := 8) sc_slips_of.nd)) (fun _ _ _ _ _ => pt_none) (fun _ _ _ _ _ => (s_tup (s_cons (s_var (i := 7)) (s_cons (s_var (i := 8)) s_nil)))))
  (ss_cons (ss_expr (s_extend (s_var (i := 1)) (s_cons (s_lc (own := [("step", 9)]) rfl sc_slips_of.nd (i_seq (s_var (i := 6))) (blkOk_by (by kernel_rfl)) (by decide) (fun _ _ _ _ _ => (g_name (i := 9) sc_slips_of.nd)) (fun _ _ _ _ _ => (pt_one (s_tne (hrU hr) (s_var (i := 9)) (s_var (i := 5))))) (fun _ _ _ _ _ => (s_add (s_tup (s_cons (s_var (i := 2)) (s_cons (s_var (i := 4)) s_nil))) (s_var (i := 9))))) s_nil)))
  ss_nil)))
  ss_nil))
  (ss_cons (ss_ret (s_var (i := 1)))
  ss_nil))))⟩
theorem ok_untold_slips (T : Facts K mg) : Fnc P w K mg base "untold_slips" 5 (spP ⟨P, w, K⟩ 2 f_untold_slips) := by
  obtain ⟨f, fd, F, hm⟩ := T.g_untold_slips
  exact ⟨f, fd, ["machine", "suite"], hm, F.kp, F.binds (ps := ["machine", "suite"]) (fun _ _ _ _ _ _ us hl => match us, hl with | [_, _], _ => rfl), okP (k := 4) F sc_untold_slips (fun cdv A outer s H E hr => (ss_cons (ss_setLc (i := 2) (own := [("slip", 4)]) rfl sc_untold_slips.nd (by rfl) (i_seq (s_call (ok_slips_of T) (hr.mono (by decide)) rfl (fun _ _ => runP_len) (s_cons (s_var (i := 0)) s_nil))) (blkOk_by (by kernel_rfl)) (by decide) (fun _ _ _ _ _ => (g_name (i := 4) sc_untold_slips.nd)) (fun _ _ _ _ _ => pt_none) (fun _ _ _ _ _ => (s_tup (s_cons (s_var (i := 4)) (s_cons (s_call (ok_with_slip T) (hr.mono (by decide)) rfl (fun _ _ => runP_len) (s_cons (s_var (i := 0)) (s_cons (s_var (i := 4)) s_nil))) s_nil)))))
  (ss_cons (ss_ret (s_lc (own := [("slip", 4), ("other", 3)]) rfl sc_untold_slips.nd (i_seq (s_var (i := 2))) (blkOk_by (by kernel_rfl)) (by decide) (fun _ _ _ _ _ => (g_tup rfl (gs_cons (g_name (i := 4) sc_untold_slips.nd) (gs_cons (g_name (i := 3) sc_untold_slips.nd) gs_nil)))) (fun _ _ _ _ _ => (pt_one (SW.t (w_and (s_t (s_call (ok_passes T) (hr.mono (by decide)) rfl (fun _ _ => runP_len) (s_cons (s_var (i := 0)) (s_cons (s_var (i := 1)) (s_cons (s_var (i := 3)) s_nil))))) (w_and1 (s_tnot (s_t (s_call (ok_are_same T) (hr.mono (by decide)) rfl (fun _ _ => runP_len) (s_cons (s_var (i := 0)) (s_cons (s_var (i := 3)) s_nil)))))))))) (fun _ _ _ _ _ => (s_var (i := 4)))))
  ss_nil)))⟩
theorem ok_p_law_cell (T : Facts K mg) : Fnc P w K mg base "_law_cell" 1 (spP ⟨P, w, K⟩ 2 f_p_law_cell) := by
  obtain ⟨f, fd, F, hm⟩ := T.g_p_law_cell
  exact ⟨f, fd, ["script", "k"], hm, F.kp, F.binds (ps := ["script", "k"]) (fun _ _ _ _ _ _ us hl => match us, hl with | [_, _], _ => rfl), okP (k := 0) F sc_p_law_cell (fun cdv A outer s H E hr => (ss_cons (ss_if (s_tlt (s_var (i := 1)) (s_blt call_len_seq lenS_ok rfl T.z_len (by decide +kernel) (s_cons (s_var (i := 0)) s_nil))) (ss_cons (ss_ret (s_ix (hrU hr) (s_var (i := 0)) (s_var (i := 1)) (fun _ _ => rfl)))
  ss_nil) ss_nil)
  (ss_cons (ss_ret (s_int))
  ss_nil)))⟩
theorem ok_p_law_numbers (T : Facts K mg) : Fnc P w K mg base "_law_numbers" 1 (spP ⟨P, w, K⟩ 2 f_p_law_numbers) := by
  obtain ⟨f, fd, F, hm⟩ := T.g_p_law_numbers
  exact ⟨f, fd, ["cell", "many"], hm, F.kp, F.binds (ps := ["cell", "many"]) (fun _ _ _ _ _ _ us hl => match us, hl with | [_, _], _ => rfl), okP (k := 0) F sc_p_law_numbers (fun cdv A outer s H E hr => (ss_cons (ss_set (i := 2) sc_p_law_numbers.nd (s_ownL s_nil))
  (ss_cons (ss_set (i := 3) sc_p_law_numbers.nd (s_var (i := 0)))
  (ss_cons (ss_for PassesOwn.never rfl (i_rng1 rfl T.z_range (s_cons (s_var (i := 1)) s_nil)) (g_name (i := 4) sc_p_law_numbers.nd) (ss_cons (ss_if (SW.t (w_and (s_tge (s_var (i := 0)) (s_pow (s_int) (s_int))) (w_and1 (s_tgt (s_var (i := 3)) (s_int))))) (ss_cons (ss_expr (s_append (s_var (i := 2)) (s_cons (s_mod (s_bty call_int1 intS_ok rfl T.z_int (by decide +kernel) (s_cons (s_var (i := 3)) s_nil)) (s_int)) s_nil)))
  (ss_cons (ss_set (i := 3) sc_p_law_numbers.nd (s_div (s_var (i := 3)) (s_int)))
  ss_nil)) (ss_cons (ss_set (i := 5) sc_p_law_numbers.nd (s_mod (s_bty call_int1 intS_ok rfl T.z_int (by decide +kernel) (s_cons (s_add (s_mul (s_var (i := 0)) (s_int)) (s_mul (s_add (s_var (i := 4)) (s_int)) (s_int))) s_nil)) (s_int)))
  (ss_cons (ss_set (i := 5) sc_p_law_numbers.nd (s_mod (s_bty call_int1 intS_ok rfl T.z_int (by decide +kernel) (s_cons (s_add (s_add (s_mul (s_var (i := 5)) (s_var (i := 5))) (s_mul (s_var (i := 5)) (s_int))) (s_mul (s_var (i := 4)) (s_int))) s_nil)) (s_int)))
  (ss_cons (ss_set (i := 5) sc_p_law_numbers.nd (s_mod (s_bty call_int1 intS_ok rfl T.z_int (by decide +kernel) (s_cons (s_add (s_add (s_mul (s_var (i := 5)) (s_var (i := 5))) (s_var (i := 0))) (s_mul (s_int) (s_var (i := 4)))) s_nil)) (s_int)))
  (ss_cons (ss_expr (s_append (s_var (i := 2)) (s_cons (s_mod (s_div (s_var (i := 5)) (s_int)) (s_int)) s_nil)))
  ss_nil)))))
  ss_nil))
  (ss_cons (ss_ret (s_var (i := 2)))
  ss_nil)))))⟩
theorem ok_p_law_pool (T : Facts K mg) : Fnc P w K mg base "_law_pool" 2 (spG ⟨P, w, K⟩ 1 f_p_law_pool) := by
  obtain ⟨f, fd, F, hm⟩ := T.g_p_law_pool
  exact ⟨f, fd, ["script"], hm, F.kp, F.binds (ps := ["script"]) (fun _ _ _ _ _ _ us hl => match us, hl with | [_], _ => rfl), okK (k := 1) F sc_p_law_pool (fun cdv A outer s H E hr => (ss_cons (ss_set (i := 1) sc_p_law_pool.nd (s_lst s_nil))
  (ss_cons (ss_for PassesOwn.never rfl (i_rng1 rfl T.z_range (s_cons (s_blt (call_min2 rfl) minS_ok rfl T.z_min (by decide +kernel) (s_cons (s_int) (s_cons (s_blt (call_max2 rfl) maxS_ok rfl T.z_max (by decide +kernel) (s_cons (s_int) (s_cons (s_blt call_len_seq lenS_ok rfl T.z_len (by decide +kernel) (s_cons (s_var (i := 0)) s_nil)) s_nil))) s_nil))) s_nil)) (g_name (i := 2) sc_p_law_pool.nd) (ss_cons (ss_set (i := 1) sc_p_law_pool.nd (s_add (s_var (i := 1)) (s_call (ok_p_law_numbers T) (hr.mono (by decide)) rfl (fun _ _ => runP_len) (s_cons (s_add (s_call (ok_p_law_cell T) (hr.mono (by decide)) rfl (fun _ _ => runP_len) (s_cons (s_var (i := 0)) (s_cons (s_var (i := 2)) s_nil))) (s_mul (s_int) (s_var (i := 2)))) (s_cons (s_int) s_nil)))))
  ss_nil))
  (ss_cons (ss_ret (s_ownL (s_cons (s_var (i := 1)) (s_cons (s_ownL (s_cons (s_int) s_nil)) s_nil))))
  ss_nil))))⟩
theorem ok_p_law_draw (T : Facts K mg) : Fnc P w K mg base "_law_draw" 1 (spG ⟨P, w, K⟩ 2 f_p_law_draw) := by
  obtain ⟨f, fd, F, hm⟩ := T.g_p_law_draw
  exact ⟨f, fd, ["pool", "many"], hm, F.kp, F.binds (ps := ["pool", "many"]) (fun _ _ _ _ _ _ us hl => match us, hl with | [_, _], _ => rfl), okG (k := 0) F sc_p_law_draw (fun cdv A outer s H E hr => (ss_cons (ss_set (i := 2) sc_p_law_draw.nd (s_ix (hrU hr) (s_ix (hrU hr) (s_var (i := 0)) (s_int) (fun _ _ => rfl)) (s_int) (fun _ _ => rfl)))
  (ss_cons (ss_asg (s_add (s_var (i := 2)) (s_int)) (g_sub (hrU hr) (s_ix (hrU hr) (s_var (i := 0)) (s_int) (fun _ _ => rfl)) (s_int)))
  (ss_cons (ss_set (i := 3) sc_p_law_draw.nd (s_div (s_var (i := 2)) (s_blt call_len_seq lenS_ok rfl T.z_len (by decide +kernel) (s_cons (s_ix (hrU hr) (s_var (i := 0)) (s_int) (fun _ _ => rfl)) s_nil))))
  (ss_cons (ss_ret (s_mod (s_bty call_int1 intS_ok rfl T.z_int (by decide +kernel) (s_cons (s_add (s_add (s_ix (hrU hr) (s_ix (hrU hr) (s_var (i := 0)) (s_int) (fun _ _ => rfl)) (s_mod (s_var (i := 2)) (s_blt call_len_seq lenS_ok rfl T.z_len (by decide +kernel) (s_cons (s_ix (hrU hr) (s_var (i := 0)) (s_int) (fun _ _ => rfl)) s_nil))) (fun _ _ => rfl)) (s_mul (s_var (i := 3)) (s_int))) (s_mul (s_mul (s_var (i := 3)) (s_var (i := 2))) (s_int))) s_nil)) (s_var (i := 1))))
  ss_nil)))))⟩
theorem ok_p_law_is (T : Facts K mg) : Fnc P w K mg base "_law_is" 1 (spP ⟨P, w, K⟩ 2 f_p_law_is) := by
  obtain ⟨f, fd, F, hm⟩ := T.g_p_law_is
  exact ⟨f, fd, ["x", "due"], hm, F.kp, F.binds (ps := ["x", "due"]) (fun _ _ _ _ _ _ us hl => match us, hl with | [_, _], _ => rfl), okP (k := 0) F sc_p_law_is (fun cdv A outer s H E hr => (ss_cons (ss_if (s_t (s_var (i := 1))) (ss_cons (ss_ret (s_is (s_var (i := 0)) (s_bl)))
  ss_nil) ss_nil)
  (ss_cons (ss_ret (s_is (s_var (i := 0)) (s_bl)))
  ss_nil)))⟩
theorem ok_p_law_table (T : Facts K mg) : Fnc P w K mg base "_law_table" 2 (spG ⟨P, w, K⟩ 4 f_p_law_table) := by
  obtain ⟨f, fd, F, hm⟩ := T.g_p_law_table
  exact ⟨f, fd, ["pool", "letters", "n", "answers"], hm, F.kp, F.binds (ps := ["pool", "letters", "n", "answers"]) (fun _ _ _ _ _ _ us hl => match us, hl with | [_, _, _, _], _ => rfl), okG (k := 1) F sc_p_law_table (fun cdv A outer s H E hr => (ss_cons (ss_set (i := 4) sc_p_law_table.nd (s_tup s_nil))
  (ss_cons (ss_for PassesOwn.never rfl (i_rng1 rfl T.z_range (s_cons (s_var (i := 2)) s_nil)) (g_name (i := 5) sc_p_law_table.nd) (ss_cons (ss_set (i := 6) sc_p_law_table.nd (s_tup s_nil))
  (ss_cons (ss_for PassesOwn.never rfl (i_rng1 rfl T.z_range (s_cons (s_var (i := 1)) s_nil)) (g_name (i := 7) sc_p_law_table.nd) (ss_cons (ss_set (i := 6) sc_p_law_table.nd (s_add (s_var (i := 6)) (s_tup (s_cons (s_tup (s_cons (s_callG (ok_p_law_draw T) (hr.mono (by decide)) rfl (fun _ _ _ => runG_len) (s_cons (s_var (i := 0)) (s_cons (s_var (i := 3)) s_nil))) (s_cons (s_callG (ok_p_law_draw T) (hr.mono (by decide)) rfl (fun _ _ _ => runG_len) (s_cons (s_var (i := 0)) (s_cons (s_var (i := 2)) s_nil))) s_nil))) s_nil))))
  ss_nil))
  (ss_cons (ss_set (i := 4) sc_p_law_table.nd (s_add (s_var (i := 4)) (s_tup (s_cons (s_var (i := 6)) s_nil))))
  ss_nil))))
  (ss_cons (ss_ret (s_var (i := 4)))
  ss_nil))))⟩
theorem ok_p_law_doubled (T : Facts K mg) : Fnc P w K mg base "_law_doubled" 3 (spG ⟨P, w, K⟩ 3 f_p_law_doubled) := by
  obtain ⟨f, fd, F, hm⟩ := T.g_p_law_doubled
  exact ⟨f, fd, ["pool", "letters", "n"], hm, F.kp, F.binds (ps := ["pool", "letters", "n"]) (fun _ _ _ _ _ _ us hl => match us, hl with | [_, _, _], _ => rfl), okG (k := 2) F sc_p_law_doubled (fun cdv A outer s H E hr => (ss_cons (ss_set (i := 3) sc_p_law_doubled.nd (s_blt (call_max2 rfl) maxS_ok rfl T.z_max (by decide +kernel) (s_cons (s_int) (s_cons (s_div (s_var (i := 2)) (s_int)) s_nil))))
  (ss_cons (ss_set (i := 4) sc_p_law_doubled.nd (s_callG (ok_p_law_table T) (hr.mono (by decide)) rfl (fun _ _ _ => runG_len) (s_cons (s_var (i := 0)) (s_cons (s_var (i := 1)) (s_cons (s_var (i := 3)) (s_cons (s_int) s_nil))))))
  (ss_cons (ss_set (i := 5) sc_p_law_doubled.nd (s_tup s_nil))
  (ss_cons (ss_for PassesOwn.never rfl (i_rng1 rfl T.z_range (s_cons (s_var (i := 2)) s_nil)) (g_name (i := 6) sc_p_law_doubled.nd) (ss_cons (ss_set (i := 7) sc_p_law_doubled.nd (s_tup s_nil))
  (ss_cons (ss_for PassesOwn.never rfl (i_seq (s_ix (hrU hr) (s_var (i := 4)) (s_mod (s_bty call_int1 intS_ok rfl T.z_int (by decide +kernel) (s_cons (s_var (i := 6)) s_nil)) (s_var (i := 3))) (fun _ _ => rfl))) (g_tup rfl (gs_cons (g_name (i := 8) sc_p_law_doubled.nd) (gs_cons (g_name (i := 9) sc_p_law_doubled.nd) gs_nil))) (ss_cons (ss_set (i := 10) sc_p_law_doubled.nd (s_var (i := 9)))
  (ss_cons (ss_if (SW.t (w_and (s_tlt (s_add (s_var (i := 9)) (s_var (i := 3))) (s_var (i := 2))) (w_and1 (s_teq (hrU hr) (s_callG (ok_p_law_draw T) (hr.mono (by decide)) rfl (fun _ _ _ => runG_len) (s_cons (s_var (i := 0)) (s_cons (s_int) s_nil))) (s_int))))) (ss_cons (ss_set (i := 10) sc_p_law_doubled.nd (s_add (s_var (i := 9)) (s_var (i := 3))))
  ss_nil) ss_nil)
  (ss_cons (ss_set (i := 7) sc_p_law_doubled.nd (s_add (s_var (i := 7)) (s_tup (s_cons (s_tup (s_cons (s_var (i := 8)) (s_cons (s_var (i := 10)) s_nil))) s_nil))))
  ss_nil))))
  (ss_cons (ss_set (i := 5) sc_p_law_doubled.nd (s_add (s_var (i := 5)) (s_tup (s_cons (s_var (i := 7)) s_nil))))
  ss_nil))))
  (ss_cons (ss_ret (s_var (i := 5)))
  ss_nil))))))⟩
theorem ok_p_law_machine (T : Facts K mg) : Fnc P w K mg base "_law_machine" 4 (spG ⟨P, w, K⟩ 3 f_p_law_machine) := by
  obtain ⟨f, fd, F, hm⟩ := T.g_p_law_machine
  exact ⟨f, fd, ["pool", "letters", "most"], hm, F.kp, F.binds (ps := ["pool", "letters", "most"]) (fun _ _ _ _ _ _ us hl => match us, hl with | [_, _, _], _ => rfl), okG (k := 3) F sc_p_law_machine (fun cdv A outer s H E hr => (ss_cons (ss_set (i := 3) sc_p_law_machine.nd (s_callG (ok_p_law_draw T) (hr.mono (by decide)) rfl (fun _ _ _ => runG_len) (s_cons (s_var (i := 0)) (s_cons (s_int) s_nil))))
  (ss_cons (ss_set (i := 4) sc_p_law_machine.nd (s_add (s_int) (s_callG (ok_p_law_draw T) (hr.mono (by decide)) rfl (fun _ _ _ => runG_len) (s_cons (s_var (i := 0)) (s_cons (s_var (i := 2)) s_nil)))))
  (ss_cons (ss_if (s_tgt (s_callG (ok_p_law_draw T) (hr.mono (by decide)) rfl (fun _ _ _ => runG_len) (s_cons (s_var (i := 0)) (s_cons (s_int) s_nil))) (s_int)) (ss_cons (ss_set (i := 4) sc_p_law_machine.nd (s_var (i := 2)))
  ss_nil) ss_nil)
  (ss_cons (ss_set (i := 5) sc_p_law_machine.nd (s_callG (ok_p_law_table T) (hr.mono (by decide)) rfl (fun _ _ _ => runG_len) (s_cons (s_var (i := 0)) (s_cons (s_var (i := 1)) (s_cons (s_var (i := 4)) (s_cons (s_add (s_int) (s_callG (ok_p_law_draw T) (hr.mono (by decide)) rfl (fun _ _ _ => runG_len) (s_cons (s_var (i := 0)) (s_cons (s_int) s_nil)))) s_nil))))))
  (ss_cons (ss_if (s_teq (hrU hr) (s_var (i := 3)) (s_int)) (ss_cons (ss_set (i := 6) sc_p_law_machine.nd (s_lc (own := [("letter", 8)]) rfl sc_p_law_machine.nd (i_rng1 rfl T.z_range (s_cons (s_var (i := 1)) s_nil)) (blkOk_by (by kernel_rfl)) (by decide) (fun _ _ _ _ _ => (g_name (i := 8) sc_p_law_machine.nd)) (fun _ _ _ _ _ => pt_none) (fun _ _ _ _ _ => (s_callG (ok_p_law_draw T) (hr.mono (by decide)) rfl (fun _ _ _ => runG_len) (s_cons (s_var (i := 0)) (s_cons (s_var (i := 4)) s_nil))))))
  (ss_cons (ss_set (i := 5) sc_p_law_machine.nd (s_bty call_tuple_of tupS_ok rfl T.z_tuple (by decide +kernel) (s_cons (s_lc (own := [("state", 9)]) rfl sc_p_law_machine.nd (i_rng1 rfl T.z_range (s_cons (s_var (i := 4)) s_nil)) (blkOk_by (by kernel_rfl)) (by decide) (fun _ _ _ _ _ => (g_name (i := 9) sc_p_law_machine.nd)) (fun _ _ _ _ _ => pt_none) (fun _ _ _ _ _ => (s_bty call_tuple_of tupS_ok rfl T.z_tuple (by decide +kernel) (s_cons (s_lc (own := [("letter", 8)]) rfl sc_p_law_machine.nd (i_rng1 rfl T.z_range (s_cons (s_var (i := 1)) s_nil)) (blkOk_by (by kernel_rfl)) (by decide) (fun _ _ _ _ _ => (g_name (i := 8) sc_p_law_machine.nd)) (fun _ _ _ _ _ => pt_none) (fun _ _ _ _ _ => (s_tup (s_cons (s_ix (hrU hr) (s_ix (hrU hr) (s_ix (hrU hr) (s_var (i := 5)) (s_var (i := 9)) (fun _ _ => rfl)) (s_var (i := 8)) (fun _ _ => rfl)) (s_int) (fun _ _ => rfl)) (s_cons (s_mod (s_bty call_int1 intS_ok rfl T.z_int (by decide +kernel) (s_cons (s_add (s_var (i := 9)) (s_ix (hrU hr) (s_var (i := 6)) (s_var (i := 8)) (fun _ _ => rfl))) s_nil)) (s_var (i := 4))) s_nil))))) s_nil)))) s_nil)))
  ss_nil)) ss_nil)
  (ss_cons (ss_if (s_teq (hrU hr) (s_var (i := 3)) (s_int)) (ss_cons (ss_set (i := 5) sc_p_law_machine.nd (s_callG (ok_p_law_doubled T) (hr.mono (by decide)) rfl (fun _ _ _ => runG_len) (s_cons (s_var (i := 0)) (s_cons (s_var (i := 1)) (s_cons (s_var (i := 4)) s_nil)))))
  ss_nil) ss_nil)
  (ss_cons (ss_if (s_teq (hrU hr) (s_var (i := 3)) (s_int)) (ss_cons (ss_set (i := 7) sc_p_law_machine.nd (s_lc (own := [("letter", 8)]) rfl sc_p_law_machine.nd (i_rng1 rfl T.z_range (s_cons (s_var (i := 1)) s_nil)) (blkOk_by (by kernel_rfl)) (by decide) (fun _ _ _ _ _ => (g_name (i := 8) sc_p_law_machine.nd)) (fun _ _ _ _ _ => pt_none) (fun _ _ _ _ _ => (s_callG (ok_p_law_draw T) (hr.mono (by decide)) rfl (fun _ _ _ => runG_len) (s_cons (s_var (i := 0)) (s_cons (s_var (i := 4)) s_nil))))))
  (ss_cons (ss_set (i := 5) sc_p_law_machine.nd (s_bty call_tuple_of tupS_ok rfl T.z_tuple (by decide +kernel) (s_cons (s_lc (own := [("state", 9)]) rfl sc_p_law_machine.nd (i_rng1 rfl T.z_range (s_cons (s_var (i := 4)) s_nil)) (blkOk_by (by kernel_rfl)) (by decide) (fun _ _ _ _ _ => (g_name (i := 9) sc_p_law_machine.nd)) (fun _ _ _ _ _ => pt_none) (fun _ _ _ _ _ => (s_bty call_tuple_of tupS_ok rfl T.z_tuple (by decide +kernel) (s_cons (s_lc (own := [("letter", 8)]) rfl sc_p_law_machine.nd (i_rng1 rfl T.z_range (s_cons (s_var (i := 1)) s_nil)) (blkOk_by (by kernel_rfl)) (by decide) (fun _ _ _ _ _ => (g_name (i := 8) sc_p_law_machine.nd)) (fun _ _ _ _ _ => pt_none) (fun _ _ _ _ _ => (s_tup (s_cons (s_ix (hrU hr) (s_ix (hrU hr) (s_ix (hrU hr) (s_var (i := 5)) (s_var (i := 9)) (fun _ _ => rfl)) (s_var (i := 8)) (fun _ _ => rfl)) (s_int) (fun _ _ => rfl)) (s_cons (s_ix (hrU hr) (s_var (i := 7)) (s_var (i := 8)) (fun _ _ => rfl)) s_nil))))) s_nil)))) s_nil)))
  ss_nil)) ss_nil)
  (ss_cons (ss_if (s_teq (hrU hr) (s_var (i := 3)) (s_int)) (ss_cons (ss_set (i := 5) sc_p_law_machine.nd (s_bty call_tuple_of tupS_ok rfl T.z_tuple (by decide +kernel) (s_cons (s_lc (own := [("state", 9)]) rfl sc_p_law_machine.nd (i_rng1 rfl T.z_range (s_cons (s_var (i := 4)) s_nil)) (blkOk_by (by kernel_rfl)) (by decide) (fun _ _ _ _ _ => (g_name (i := 9) sc_p_law_machine.nd)) (fun _ _ _ _ _ => pt_none) (fun _ _ _ _ _ => (s_bty call_tuple_of tupS_ok rfl T.z_tuple (by decide +kernel) (s_cons (s_lc (own := [("letter", 8)]) rfl sc_p_law_machine.nd (i_rng1 rfl T.z_range (s_cons (s_var (i := 1)) s_nil)) (blkOk_by (by kernel_rfl)) (by decide) (fun _ _ _ _ _ => (g_name (i := 8) sc_p_law_machine.nd)) (fun _ _ _ _ _ => pt_none) (fun _ _ _ _ _ => (s_tup (s_cons (s_mod (s_bty call_int1 intS_ok rfl T.z_int (by decide +kernel) (s_cons (s_add (s_ix (hrU hr) (s_ix (hrU hr) (s_ix (hrU hr) (s_var (i := 5)) (s_var (i := 9)) (fun _ _ => rfl)) (s_int) (fun _ _ => rfl)) (s_int) (fun _ _ => rfl)) (s_var (i := 8))) s_nil)) (s_int)) (s_cons (s_ix (hrU hr) (s_ix (hrU hr) (s_ix (hrU hr) (s_var (i := 5)) (s_var (i := 9)) (fun _ _ => rfl)) (s_var (i := 8)) (fun _ _ => rfl)) (s_int) (fun _ _ => rfl)) s_nil))))) s_nil)))) s_nil)))
  ss_nil) ss_nil)
  (ss_cons (ss_if (s_teq (hrU hr) (s_var (i := 3)) (s_int)) (ss_cons (ss_set (i := 5) sc_p_law_machine.nd (s_bty call_tuple_of tupS_ok rfl T.z_tuple (by decide +kernel) (s_cons (s_lc (own := [("state", 9)]) rfl sc_p_law_machine.nd (i_rng1 rfl T.z_range (s_cons (s_var (i := 4)) s_nil)) (blkOk_by (by kernel_rfl)) (by decide) (fun _ _ _ _ _ => (g_name (i := 9) sc_p_law_machine.nd)) (fun _ _ _ _ _ => pt_none) (fun _ _ _ _ _ => (s_bty call_tuple_of tupS_ok rfl T.z_tuple (by decide +kernel) (s_cons (s_lc (own := [("letter", 8)]) rfl sc_p_law_machine.nd (i_rng1 rfl T.z_range (s_cons (s_var (i := 1)) s_nil)) (blkOk_by (by kernel_rfl)) (by decide) (fun _ _ _ _ _ => (g_name (i := 8) sc_p_law_machine.nd)) (fun _ _ _ _ _ => pt_none) (fun _ _ _ _ _ => (s_tup (s_cons (s_mod (s_bty call_int1 intS_ok rfl T.z_int (by decide +kernel) (s_cons (s_add (s_var (i := 9)) (s_var (i := 8))) s_nil)) (s_int)) (s_cons (s_blt (call_max2 rfl) maxS_ok rfl T.z_max (by decide +kernel) (s_cons (s_int) (s_cons (s_sub (s_var (i := 9)) (s_var (i := 8))) s_nil))) s_nil))))) s_nil)))) s_nil)))
  ss_nil) ss_nil)
  (ss_cons (ss_ret (s_var (i := 5)))
  ss_nil)))))))))))⟩
theorem ok_p_law_changed (T : Facts K mg) : Fnc P w K mg base "_law_changed" 2 (spG ⟨P, w, K⟩ 3 f_p_law_changed) := by
  obtain ⟨f, fd, F, hm⟩ := T.g_p_law_changed
  exact ⟨f, fd, ["pool", "machine", "slips"], hm, F.kp, F.binds (ps := ["pool", "machine", "slips"]) (fun _ _ _ _ _ _ us hl => match us, hl with | [_, _, _], _ => rfl), okG (k := 1) F sc_p_law_changed (fun cdv A outer s H E hr => (ss_cons (ss_set (i := 3) sc_p_law_changed.nd (s_var (i := 1)))
  (ss_cons (ss_for PassesOwn.never rfl (i_rng1 rfl T.z_range (s_cons (s_var (i := 2)) s_nil)) (g_name (i := 4) sc_p_law_changed.nd) (ss_cons (ss_set (i := 5) sc_p_law_changed.nd (s_callG (ok_p_law_draw T) (hr.mono (by decide)) rfl (fun _ _ _ => runG_len) (s_cons (s_var (i := 0)) (s_cons (s_blt call_len_seq lenS_ok rfl T.z_len (by decide +kernel) (s_cons (s_var (i := 3)) s_nil)) s_nil))))
  (ss_cons (ss_set (i := 6) sc_p_law_changed.nd (s_callG (ok_p_law_draw T) (hr.mono (by decide)) rfl (fun _ _ _ => runG_len) (s_cons (s_var (i := 0)) (s_cons (s_blt call_len_seq lenS_ok rfl T.z_len (by decide +kernel) (s_cons (s_ix (hrU hr) (s_var (i := 3)) (s_int) (fun _ _ => rfl)) s_nil)) s_nil))))
  (ss_cons (ss_set (i := 7) sc_p_law_changed.nd (s_tup (s_cons (s_callG (ok_p_law_draw T) (hr.mono (by decide)) rfl (fun _ _ _ => runG_len) (s_cons (s_var (i := 0)) (s_cons (s_int) s_nil))) (s_cons (s_callG (ok_p_law_draw T) (hr.mono (by decide)) rfl (fun _ _ _ => runG_len) (s_cons (s_var (i := 0)) (s_cons (s_blt call_len_seq lenS_ok rfl T.z_len (by decide +kernel) (s_cons (s_var (i := 3)) s_nil)) s_nil))) s_nil))))
  (ss_cons (ss_if (s_teq (hrU hr) (s_callG (ok_p_law_draw T) (hr.mono (by decide)) rfl (fun _ _ _ => runG_len) (s_cons (s_var (i := 0)) (s_cons (s_int) s_nil))) (s_int)) (ss_cons (ss_set (i := 7) sc_p_law_changed.nd (s_tup (s_cons (s_ix (hrU hr) (s_ix (hrU hr) (s_ix (hrU hr) (s_var (i := 3)) (s_var (i := 5)) (fun _ _ => rfl)) (s_var (i := 6)) (fun _ _ => rfl)) (s_int) (fun _ _ => rfl)) (s_cons (s_ix (hrU hr) (s_var (i := 7)) (s_int) (fun _ _ => rfl)) s_nil))))
  ss_nil) ss_nil)
  (ss_cons (ss_set (i := 8) sc_p_law_changed.nd (s_add (s_add (s_slice (s_ix (hrU hr) (s_var (i := 3)) (s_var (i := 5)) (fun _ _ => rfl)) s_onone (s_osome (s_var (i := 6)))) (s_tup (s_cons (s_var (i := 7)) s_nil))) (s_slice (s_ix (hrU hr) (s_var (i := 3)) (s_var (i := 5)) (fun _ _ => rfl)) (s_osome (s_add (s_var (i := 6)) (s_int))) s_onone)))
  (ss_cons (ss_set (i := 3) sc_p_law_changed.nd (s_add (s_add (s_slice (s_var (i := 3)) s_onone (s_osome (s_var (i := 5)))) (s_tup (s_cons (s_var (i := 8)) s_nil))) (s_slice (s_var (i := 3)) (s_osome (s_add (s_var (i := 5)) (s_int))) s_onone)))
  ss_nil)))))))
  (ss_cons (ss_ret (s_var (i := 3)))
  ss_nil))))⟩
theorem ok_p_law_word (T : Facts K mg) : Fnc P w K mg base "_law_word" 2 (spG ⟨P, w, K⟩ 3 f_p_law_word) := by
  obtain ⟨f, fd, F, hm⟩ := T.g_p_law_word
  exact ⟨f, fd, ["pool", "letters", "most"], hm, F.kp, F.binds (ps := ["pool", "letters", "most"]) (fun _ _ _ _ _ _ us hl => match us, hl with | [_, _, _], _ => rfl), okG (k := 1) F sc_p_law_word (fun cdv A outer s H E hr => (ss_cons (ss_set (i := 3) sc_p_law_word.nd (s_tup s_nil))
  (ss_cons (ss_for PassesOwn.never rfl (i_rng1 rfl T.z_range (s_cons (s_callG (ok_p_law_draw T) (hr.mono (by decide)) rfl (fun _ _ _ => runG_len) (s_cons (s_var (i := 0)) (s_cons (s_add (s_var (i := 2)) (s_int)) s_nil))) s_nil)) (g_name (i := 4) sc_p_law_word.nd) (ss_cons (ss_set (i := 3) sc_p_law_word.nd (s_add (s_var (i := 3)) (s_tup (s_cons (s_callG (ok_p_law_draw T) (hr.mono (by decide)) rfl (fun _ _ _ => runG_len) (s_cons (s_var (i := 0)) (s_cons (s_var (i := 1)) s_nil))) s_nil))))
  ss_nil))
  (ss_cons (ss_ret (s_var (i := 3)))
  ss_nil))))⟩
theorem ok_p_law_once (T : Facts K mg) : Fnc P w K mg base "_law_once" 1 (spP ⟨P, w, K⟩ 1 f_p_law_once) := by
  obtain ⟨f, fd, F, hm⟩ := T.g_p_law_once
  exact ⟨f, fd, ["row"], hm, F.kp, F.binds (ps := ["row"]) (fun _ _ _ _ _ _ us hl => match us, hl with | [_], _ => rfl), okP (k := 0) F sc_p_law_once (fun cdv A outer s H E hr => (ss_cons (ss_ret (s_lc (own := [("k", 1)]) rfl sc_p_law_once.nd (i_rng1 rfl T.z_range (s_cons (s_blt call_len_seq lenS_ok rfl T.z_len (by decide +kernel) (s_cons (s_var (i := 0)) s_nil)) s_nil)) (blkOk_by (by kernel_rfl)) (by decide) (fun _ _ _ _ _ => (g_name (i := 1) sc_p_law_once.nd)) (fun _ _ _ _ _ => (pt_one (s_tnotin (hrU hr) (s_ix (hrU hr) (s_var (i := 0)) (s_var (i := 1)) (fun _ _ => rfl)) (s_slice (s_var (i := 0)) s_onone (s_osome (s_var (i := 1))))))) (fun _ _ _ _ _ => (s_ix (hrU hr) (s_var (i := 0)) (s_var (i := 1)) (fun _ _ => rfl)))))
  ss_nil))⟩
theorem ok_p_law_suite (T : Facts K mg) : Fnc P w K mg base "_law_suite" 3 (spG ⟨P, w, K⟩ 4 f_p_law_suite) := by
  obtain ⟨f, fd, F, hm⟩ := T.g_p_law_suite
  exact ⟨f, fd, ["pool", "letters", "many", "most"], hm, F.kp, F.binds (ps := ["pool", "letters", "many", "most"]) (fun _ _ _ _ _ _ us hl => match us, hl with | [_, _, _, _], _ => rfl), okG (k := 2) F sc_p_law_suite (fun cdv A outer s H E hr => (ss_cons (ss_set (i := 4) sc_p_law_suite.nd (s_ownL s_nil))
  (ss_cons (ss_for PassesOwn.never rfl (i_rng1 rfl T.z_range (s_cons (s_callG (ok_p_law_draw T) (hr.mono (by decide)) rfl (fun _ _ _ => runG_len) (s_cons (s_var (i := 0)) (s_cons (s_add (s_var (i := 2)) (s_int)) s_nil))) s_nil)) (g_name (i := 5) sc_p_law_suite.nd) (ss_cons (ss_set (i := 6) sc_p_law_suite.nd (s_callG (ok_p_law_word T) (hr.mono (by decide)) rfl (fun _ _ _ => runG_len) (s_cons (s_var (i := 0)) (s_cons (s_var (i := 1)) (s_cons (s_var (i := 3)) s_nil)))))
  (ss_cons (ss_if (s_tnotin (hrU hr) (s_var (i := 6)) (s_var (i := 4))) (ss_cons (ss_expr (s_append (s_var (i := 4)) (s_cons (s_var (i := 6)) s_nil)))
  ss_nil) ss_nil)
  ss_nil)))
  (ss_cons (ss_ret (s_bty call_tuple_of tupS_ok rfl T.z_tuple (by decide +kernel) (s_cons (s_blt (cr_sort rfl (hrU hr)) sortS_ok rfl T.z_sorted (by decide +kernel) (s_cons (s_var (i := 4)) s_nil)) s_nil)))
  ss_nil))))⟩
theorem ok_law (T : Facts K mg) : Fnc P w K mg base "law" 6 (spP ⟨P, w, K⟩ 1 f_law) := by
  obtain ⟨f, fd, F, hm⟩ := T.g_law
  exact ⟨f, fd, ["script"], hm, F.kp, F.binds (ps := ["script"]) (fun _ _ _ _ _ _ us hl => match us, hl with | [_], _ => rfl), okP (k := 5) F sc_law (fun cdv A outer s H E hr => (ss_cons (ss_set (i := 1) sc_law.nd (s_callG (ok_p_law_pool T) (hr.mono (by decide)) rfl (fun _ _ _ => runK_len) (s_cons (s_var (i := 0)) s_nil)))
  (ss_cons (ss_set (i := 2) sc_law.nd (s_add (s_int) (s_callG (ok_p_law_draw T) (hr.mono (by decide)) rfl (fun _ _ _ => runG_len) (s_cons (s_var (i := 1)) (s_cons (s_int) s_nil)))))
  (ss_cons (ss_set (i := 3) sc_law.nd (s_callG (ok_p_law_machine T) (hr.mono (by decide)) rfl (fun _ _ _ => runG_len) (s_cons (s_var (i := 1)) (s_cons (s_var (i := 2)) (s_cons (s_int) s_nil)))))
  (ss_cons (ss_set (i := 4) sc_law.nd (s_call (ok_cover_of T) (hr.mono (by decide)) rfl (fun _ _ => runP_len) (s_cons (s_var (i := 3)) s_nil)))
  (ss_cons (ss_set (i := 5) sc_law.nd (s_call (ok_reached T) (hr.mono (by decide)) rfl (fun _ _ => runP_len) (s_cons (s_var (i := 3)) s_nil)))
  (ss_cons (ss_for PassesOwn.never rfl (i_seq (s_call (ok_untold_slips T) (hr.mono (by decide)) rfl (fun _ _ => runP_len) (s_cons (s_var (i := 3)) (s_cons (s_var (i := 4)) s_nil)))) (g_tup rfl (gs_cons (g_name (i := 6) sc_law.nd) (gs_cons (g_name (i := 7) sc_law.nd) (gs_cons (g_name (i := 8) sc_law.nd) (gs_cons (g_name (i := 9) sc_law.nd) gs_nil))))) (ss_cons (ss_if (SW.t (w_or (s_tnotin (hrU hr) (s_var (i := 6)) (s_var (i := 5))) (w_or (s_tne (hrU hr) (s_var (i := 8)) (s_ix (hrU hr) (s_ix (hrU hr) (s_ix (hrU hr) (s_var (i := 3)) (s_var (i := 6)) (fun _ _ => rfl)) (s_var (i := 7)) (fun _ _ => rfl)) (s_int) (fun _ _ => rfl))) (w_or1 (s_teq (hrU hr) (s_var (i := 9)) (s_ix (hrU hr) (s_ix (hrU hr) (s_ix (hrU hr) (s_var (i := 3)) (s_var (i := 6)) (fun _ _ => rfl)) (s_var (i := 7)) (fun _ _ => rfl)) (s_int) (fun _ _ => rfl))))))) (ss_cons (ss_ret (s_bl))
  ss_nil) ss_nil)
  ss_nil))
  (ss_cons (ss_for PassesOwn.never rfl (i_seq (s_var (i := 5))) (g_name (i := 6) sc_law.nd) (ss_cons (ss_set (i := 16) sc_law.nd (s_call (ok_way_to T) (hr.mono (by decide)) rfl (fun _ _ => runP_len) (s_cons (s_var (i := 3)) (s_cons (s_var (i := 6)) s_nil))))
  (ss_cons (ss_if (SW.t (w_or (s_tnotin (hrU hr) (s_var (i := 16)) (s_var (i := 4))) (w_or1 (s_tgt (s_blt call_len_seq lenS_ok rfl T.z_len (by decide +kernel) (s_cons (s_lc (own := [("letter", 7)]) rfl sc_law.nd (i_rng1 rfl T.z_range (s_cons (s_var (i := 2)) s_nil)) (blkOk_by (by kernel_rfl)) (by decide) (fun _ _ _ _ _ => (g_name (i := 7) sc_law.nd)) (fun _ _ _ _ _ => (pt_one (s_tnotin (hrU hr) (s_add (s_var (i := 16)) (s_tup (s_cons (s_var (i := 7)) s_nil))) (s_var (i := 4))))) (fun _ _ _ _ _ => (s_var (i := 7)))) s_nil)) (s_int))))) (ss_cons (ss_ret (s_bl))
  ss_nil) ss_nil)
  (ss_cons (ss_set (i := 7) sc_law.nd (s_callG (ok_p_law_draw T) (hr.mono (by decide)) rfl (fun _ _ _ => runG_len) (s_cons (s_var (i := 1)) (s_cons (s_var (i := 2)) s_nil))))
  (ss_cons (ss_set (i := 17) sc_law.nd (s_tup (s_cons (s_var (i := 6)) (s_cons (s_var (i := 7)) (s_cons (s_mod (s_bty call_int1 intS_ok rfl T.z_int (by decide +kernel) (s_cons (s_add (s_ix (hrU hr) (s_ix (hrU hr) (s_ix (hrU hr) (s_var (i := 3)) (s_var (i := 6)) (fun _ _ => rfl)) (s_var (i := 7)) (fun _ _ => rfl)) (s_int) (fun _ _ => rfl)) (s_int)) s_nil)) (s_int)) (s_cons (s_callG (ok_p_law_draw T) (hr.mono (by decide)) rfl (fun _ _ _ => runG_len) (s_cons (s_var (i := 1)) (s_cons (s_blt call_len_seq lenS_ok rfl T.z_len (by decide +kernel) (s_cons (s_var (i := 3)) s_nil)) s_nil))) s_nil))))))
  (ss_cons (ss_set (i := 15) sc_law.nd (s_call (ok_with_slip T) (hr.mono (by decide)) rfl (fun _ _ => runP_len) (s_cons (s_var (i := 3)) (s_cons (s_var (i := 17)) s_nil))))
  (ss_cons (ss_if (SW.t (w_or (s_tisnot (s_call (ok_passes T) (hr.mono (by decide)) rfl (fun _ _ => runP_len) (s_cons (s_var (i := 3)) (s_cons (s_var (i := 4)) (s_cons (s_var (i := 15)) s_nil)))) (s_bl)) (w_or1 (s_tne (hrU hr) (s_call (ok_first_fail T) (hr.mono (by decide)) rfl (fun _ _ => runP_len) (s_cons (s_var (i := 3)) (s_cons (s_tup (s_cons (s_add (s_var (i := 16)) (s_tup (s_cons (s_var (i := 7)) s_nil))) s_nil)) (s_cons (s_var (i := 15)) s_nil)))) (s_tup (s_cons (s_add (s_var (i := 16)) (s_tup (s_cons (s_var (i := 7)) s_nil))) (s_cons (s_blt call_len_seq lenS_ok rfl T.z_len (by decide +kernel) (s_cons (s_var (i := 16)) s_nil)) s_nil))))))) (ss_cons (ss_ret (s_bl))
  ss_nil) ss_nil)
  ss_nil)))))))
  (ss_cons (ss_set (i := 10) sc_law.nd (s_call (ok_full_suite T) (hr.mono (by decide)) rfl (fun _ _ => runP_len) (s_cons (s_var (i := 3)) (s_cons (s_int) s_nil))))
  (ss_cons (ss_set (i := 11) sc_law.nd (s_call (ok_full_suite T) (hr.mono (by decide)) rfl (fun _ _ => runP_len) (s_cons (s_var (i := 3)) (s_cons (s_int) s_nil))))
  (ss_cons (ss_if (SW.t (w_or (s_tgt (s_blt call_len_seq lenS_ok rfl T.z_len (by decide +kernel) (s_cons (s_lc (own := [("word", 16)]) rfl sc_law.nd (i_seq (s_var (i := 10))) (blkOk_by (by kernel_rfl)) (by decide) (fun _ _ _ _ _ => (g_name (i := 16) sc_law.nd)) (fun _ _ _ _ _ => (pt_one (s_tnotin (hrU hr) (s_var (i := 16)) (s_var (i := 11))))) (fun _ _ _ _ _ => (s_var (i := 16)))) s_nil)) (s_int)) (w_or (s_tgt (s_blt call_len_seq lenS_ok rfl T.z_len (by decide +kernel) (s_cons (s_lc (own := [("word", 16)]) rfl sc_law.nd (i_seq (s_var (i := 4))) (blkOk_by (by kernel_rfl)) (by decide) (fun _ _ _ _ _ => (g_name (i := 16) sc_law.nd)) (fun _ _ _ _ _ => (pt_one (s_tnotin (hrU hr) (s_var (i := 16)) (s_var (i := 10))))) (fun _ _ _ _ _ => (s_var (i := 16)))) s_nil)) (s_int)) (w_or1 (s_tgt (s_blt call_len_seq lenS_ok rfl T.z_len (by decide +kernel) (s_cons (s_lc (own := [("word", 16)]) rfl sc_law.nd (i_seq (s_call (ok_telling_set T) (hr.mono (by decide)) rfl (fun _ _ => runP_len) (s_cons (s_var (i := 3)) s_nil))) (blkOk_by (by kernel_rfl)) (by decide) (fun _ _ _ _ _ => (g_name (i := 16) sc_law.nd)) (fun _ _ _ _ _ => (pt_one (s_tnotin (hrU hr) (s_var (i := 16)) (s_var (i := 10))))) (fun _ _ _ _ _ => (s_var (i := 16)))) s_nil)) (s_int)))))) (ss_cons (ss_ret (s_bl))
  ss_nil) ss_nil)
  (ss_cons (ss_set (i := 12) sc_law.nd (s_callG (ok_p_law_suite T) (hr.mono (by decide)) rfl (fun _ _ _ => runG_len) (s_cons (s_var (i := 1)) (s_cons (s_var (i := 2)) (s_cons (s_int) (s_cons (s_int) s_nil))))))
  (ss_cons (ss_set (i := 13) sc_law.nd (s_bty call_tuple_of tupS_ok rfl T.z_tuple (by decide +kernel) (s_cons (s_blt (cr_sort rfl (hrU hr)) sortS_ok rfl T.z_sorted (by decide +kernel) (s_cons (s_call (ok_p_law_once T) (hr.mono (by decide)) rfl (fun _ _ => runP_len) (s_cons (s_add (s_bty call_list_of lstS_ok rfl T.z_list (by decide +kernel) (s_cons (s_var (i := 12)) s_nil)) (s_bty call_list_of lstS_ok rfl T.z_list (by decide +kernel) (s_cons (s_callG (ok_p_law_suite T) (hr.mono (by decide)) rfl (fun _ _ _ => runG_len) (s_cons (s_var (i := 1)) (s_cons (s_var (i := 2)) (s_cons (s_int) (s_cons (s_int) s_nil))))) s_nil))) s_nil)) s_nil)) s_nil)))
  (ss_cons (ss_set (i := 14) sc_law.nd (s_call (ok_untold_slips T) (hr.mono (by decide)) rfl (fun _ _ => runP_len) (s_cons (s_var (i := 3)) (s_cons (s_var (i := 12)) s_nil))))
  (ss_cons (ss_if (SW.t (w_or (s_tgt (s_blt call_len_seq lenS_ok rfl T.z_len (by decide +kernel) (s_cons (s_lc (own := [("slip", 17)]) rfl sc_law.nd (i_seq (s_call (ok_untold_slips T) (hr.mono (by decide)) rfl (fun _ _ => runP_len) (s_cons (s_var (i := 3)) (s_cons (s_var (i := 13)) s_nil)))) (blkOk_by (by kernel_rfl)) (by decide) (fun _ _ _ _ _ => (g_name (i := 17) sc_law.nd)) (fun _ _ _ _ _ => (pt_one (s_tnotin (hrU hr) (s_var (i := 17)) (s_var (i := 14))))) (fun _ _ _ _ _ => (s_var (i := 17)))) s_nil)) (s_int)) (w_or1 (s_tne (hrU hr) (s_call (ok_untold_slips T) (hr.mono (by decide)) rfl (fun _ _ => runP_len) (s_cons (s_var (i := 3)) (s_cons (s_call (ok_trimmed T) (hr.mono (by decide)) rfl (fun _ _ => runP_len) (s_cons (s_var (i := 13)) s_nil)) s_nil))) (s_call (ok_untold_slips T) (hr.mono (by decide)) rfl (fun _ _ => runP_len) (s_cons (s_var (i := 3)) (s_cons (s_var (i := 13)) s_nil))))))) (ss_cons (ss_ret (s_bl))
  ss_nil) ss_nil)
  (ss_cons (ss_set (i := 15) sc_law.nd (s_callG (ok_p_law_changed T) (hr.mono (by decide)) rfl (fun _ _ _ => runG_len) (s_cons (s_var (i := 1)) (s_cons (s_var (i := 3)) (s_cons (s_add (s_int) (s_callG (ok_p_law_draw T) (hr.mono (by decide)) rfl (fun _ _ _ => runG_len) (s_cons (s_var (i := 1)) (s_cons (s_int) s_nil)))) s_nil)))))
  (ss_cons (ss_if (SW.t (w_and (s_tis (s_call (ok_passes T) (hr.mono (by decide)) rfl (fun _ _ => runP_len) (s_cons (s_var (i := 3)) (s_cons (s_var (i := 13)) (s_cons (s_var (i := 15)) s_nil)))) (s_bl)) (w_and1 (s_tisnot (s_call (ok_passes T) (hr.mono (by decide)) rfl (fun _ _ => runP_len) (s_cons (s_var (i := 3)) (s_cons (s_var (i := 12)) (s_cons (s_var (i := 15)) s_nil)))) (s_bl))))) (ss_cons (ss_ret (s_bl))
  ss_nil) ss_nil)
  (ss_cons (ss_if (SW.t (w_and (s_tis (s_call (ok_passes T) (hr.mono (by decide)) rfl (fun _ _ => runP_len) (s_cons (s_var (i := 3)) (s_cons (s_var (i := 11)) (s_cons (s_var (i := 15)) s_nil)))) (s_bl)) (w_and1 (SW.t (w_or (s_tisnot (s_call (ok_passes T) (hr.mono (by decide)) rfl (fun _ _ => runP_len) (s_cons (s_var (i := 3)) (s_cons (s_var (i := 10)) (s_cons (s_var (i := 15)) s_nil)))) (s_bl)) (w_or1 (s_tisnot (s_call (ok_passes T) (hr.mono (by decide)) rfl (fun _ _ => runP_len) (s_cons (s_var (i := 3)) (s_cons (s_var (i := 4)) (s_cons (s_var (i := 15)) s_nil)))) (s_bl)))))))) (ss_cons (ss_ret (s_bl))
  ss_nil) ss_nil)
  (ss_cons (ss_if (s_tnot (SW.t (w_and (s_tis (s_call (ok_is_suite T) (hr.mono (by decide)) rfl (fun _ _ => runP_len) (s_cons (s_var (i := 2)) (s_cons (s_var (i := 13)) s_nil))) (s_bl)) (w_and1 (s_t (s_call (ok_p_law_is T) (hr.mono (by decide)) rfl (fun _ _ => runP_len) (s_cons (s_call (ok_passes T) (hr.mono (by decide)) rfl (fun _ _ => runP_len) (s_cons (s_var (i := 15)) (s_cons (s_var (i := 13)) (s_cons (s_var (i := 3)) s_nil)))) (s_cons (s_is (s_call (ok_passes T) (hr.mono (by decide)) rfl (fun _ _ => runP_len) (s_cons (s_var (i := 3)) (s_cons (s_var (i := 13)) (s_cons (s_var (i := 15)) s_nil)))) (s_bl)) s_nil)))))))) (ss_cons (ss_ret (s_bl))
  ss_nil) ss_nil)
  (ss_cons (ss_ret ((s_and (s_is (s_call (ok_passes T) (hr.mono (by decide)) rfl (fun _ _ => runP_len) (s_cons (s_var (i := 3)) (s_cons (s_var (i := 13)) (s_cons (s_var (i := 3)) s_nil)))) (s_bl)) (s_one (s_is (s_call (ok_are_same T) (hr.mono (by decide)) rfl (fun _ _ => runP_len) (s_cons (s_var (i := 3)) (s_cons (s_var (i := 3)) s_nil))) (s_bl))))))
  ss_nil))))))))))))))))))))⟩
theorem okL {f : Addr} {fd : FuncData} (T : Facts K mg) (F : Fun K "law" "law" s_law f fd) : FnOk P w K mg base CX0 6 f fd ["script"] (spP ⟨P, w, K⟩ 1 f_law) :=
  okP (k := 5) F sc_law (fun cdv A outer s H E hr => (ss_cons (ss_set (i := 1) sc_law.nd (s_callG (ok_p_law_pool T) (hr.mono (by decide)) rfl (fun _ _ _ => runK_len) (s_cons (s_var (i := 0)) s_nil)))
  (ss_cons (ss_set (i := 2) sc_law.nd (s_add (s_int) (s_callG (ok_p_law_draw T) (hr.mono (by decide)) rfl (fun _ _ _ => runG_len) (s_cons (s_var (i := 1)) (s_cons (s_int) s_nil)))))
  (ss_cons (ss_set (i := 3) sc_law.nd (s_callG (ok_p_law_machine T) (hr.mono (by decide)) rfl (fun _ _ _ => runG_len) (s_cons (s_var (i := 1)) (s_cons (s_var (i := 2)) (s_cons (s_int) s_nil)))))
  (ss_cons (ss_set (i := 4) sc_law.nd (s_call (ok_cover_of T) (hr.mono (by decide)) rfl (fun _ _ => runP_len) (s_cons (s_var (i := 3)) s_nil)))
  (ss_cons (ss_set (i := 5) sc_law.nd (s_call (ok_reached T) (hr.mono (by decide)) rfl (fun _ _ => runP_len) (s_cons (s_var (i := 3)) s_nil)))
  (ss_cons (ss_for PassesOwn.never rfl (i_seq (s_call (ok_untold_slips T) (hr.mono (by decide)) rfl (fun _ _ => runP_len) (s_cons (s_var (i := 3)) (s_cons (s_var (i := 4)) s_nil)))) (g_tup rfl (gs_cons (g_name (i := 6) sc_law.nd) (gs_cons (g_name (i := 7) sc_law.nd) (gs_cons (g_name (i := 8) sc_law.nd) (gs_cons (g_name (i := 9) sc_law.nd) gs_nil))))) (ss_cons (ss_if (SW.t (w_or (s_tnotin (hrU hr) (s_var (i := 6)) (s_var (i := 5))) (w_or (s_tne (hrU hr) (s_var (i := 8)) (s_ix (hrU hr) (s_ix (hrU hr) (s_ix (hrU hr) (s_var (i := 3)) (s_var (i := 6)) (fun _ _ => rfl)) (s_var (i := 7)) (fun _ _ => rfl)) (s_int) (fun _ _ => rfl))) (w_or1 (s_teq (hrU hr) (s_var (i := 9)) (s_ix (hrU hr) (s_ix (hrU hr) (s_ix (hrU hr) (s_var (i := 3)) (s_var (i := 6)) (fun _ _ => rfl)) (s_var (i := 7)) (fun _ _ => rfl)) (s_int) (fun _ _ => rfl))))))) (ss_cons (ss_ret (s_bl))
  ss_nil) ss_nil)
  ss_nil))
  (ss_cons (ss_for PassesOwn.never rfl (i_seq (s_var (i := 5))) (g_name (i := 6) sc_law.nd) (ss_cons (ss_set (i := 16) sc_law.nd (s_call (ok_way_to T) (hr.mono (by decide)) rfl (fun _ _ => runP_len) (s_cons (s_var (i := 3)) (s_cons (s_var (i := 6)) s_nil))))
  (ss_cons (ss_if (SW.t (w_or (s_tnotin (hrU hr) (s_var (i := 16)) (s_var (i := 4))) (w_or1 (s_tgt (s_blt call_len_seq lenS_ok rfl T.z_len (by decide +kernel) (s_cons (s_lc (own := [("letter", 7)]) rfl sc_law.nd (i_rng1 rfl T.z_range (s_cons (s_var (i := 2)) s_nil)) (blkOk_by (by kernel_rfl)) (by decide) (fun _ _ _ _ _ => (g_name (i := 7) sc_law.nd)) (fun _ _ _ _ _ => (pt_one (s_tnotin (hrU hr) (s_add (s_var (i := 16)) (s_tup (s_cons (s_var (i := 7)) s_nil))) (s_var (i := 4))))) (fun _ _ _ _ _ => (s_var (i := 7)))) s_nil)) (s_int))))) (ss_cons (ss_ret (s_bl))
  ss_nil) ss_nil)
  (ss_cons (ss_set (i := 7) sc_law.nd (s_callG (ok_p_law_draw T) (hr.mono (by decide)) rfl (fun _ _ _ => runG_len) (s_cons (s_var (i := 1)) (s_cons (s_var (i := 2)) s_nil))))
  (ss_cons (ss_set (i := 17) sc_law.nd (s_tup (s_cons (s_var (i := 6)) (s_cons (s_var (i := 7)) (s_cons (s_mod (s_bty call_int1 intS_ok rfl T.z_int (by decide +kernel) (s_cons (s_add (s_ix (hrU hr) (s_ix (hrU hr) (s_ix (hrU hr) (s_var (i := 3)) (s_var (i := 6)) (fun _ _ => rfl)) (s_var (i := 7)) (fun _ _ => rfl)) (s_int) (fun _ _ => rfl)) (s_int)) s_nil)) (s_int)) (s_cons (s_callG (ok_p_law_draw T) (hr.mono (by decide)) rfl (fun _ _ _ => runG_len) (s_cons (s_var (i := 1)) (s_cons (s_blt call_len_seq lenS_ok rfl T.z_len (by decide +kernel) (s_cons (s_var (i := 3)) s_nil)) s_nil))) s_nil))))))
  (ss_cons (ss_set (i := 15) sc_law.nd (s_call (ok_with_slip T) (hr.mono (by decide)) rfl (fun _ _ => runP_len) (s_cons (s_var (i := 3)) (s_cons (s_var (i := 17)) s_nil))))
  (ss_cons (ss_if (SW.t (w_or (s_tisnot (s_call (ok_passes T) (hr.mono (by decide)) rfl (fun _ _ => runP_len) (s_cons (s_var (i := 3)) (s_cons (s_var (i := 4)) (s_cons (s_var (i := 15)) s_nil)))) (s_bl)) (w_or1 (s_tne (hrU hr) (s_call (ok_first_fail T) (hr.mono (by decide)) rfl (fun _ _ => runP_len) (s_cons (s_var (i := 3)) (s_cons (s_tup (s_cons (s_add (s_var (i := 16)) (s_tup (s_cons (s_var (i := 7)) s_nil))) s_nil)) (s_cons (s_var (i := 15)) s_nil)))) (s_tup (s_cons (s_add (s_var (i := 16)) (s_tup (s_cons (s_var (i := 7)) s_nil))) (s_cons (s_blt call_len_seq lenS_ok rfl T.z_len (by decide +kernel) (s_cons (s_var (i := 16)) s_nil)) s_nil))))))) (ss_cons (ss_ret (s_bl))
  ss_nil) ss_nil)
  ss_nil)))))))
  (ss_cons (ss_set (i := 10) sc_law.nd (s_call (ok_full_suite T) (hr.mono (by decide)) rfl (fun _ _ => runP_len) (s_cons (s_var (i := 3)) (s_cons (s_int) s_nil))))
  (ss_cons (ss_set (i := 11) sc_law.nd (s_call (ok_full_suite T) (hr.mono (by decide)) rfl (fun _ _ => runP_len) (s_cons (s_var (i := 3)) (s_cons (s_int) s_nil))))
  (ss_cons (ss_if (SW.t (w_or (s_tgt (s_blt call_len_seq lenS_ok rfl T.z_len (by decide +kernel) (s_cons (s_lc (own := [("word", 16)]) rfl sc_law.nd (i_seq (s_var (i := 10))) (blkOk_by (by kernel_rfl)) (by decide) (fun _ _ _ _ _ => (g_name (i := 16) sc_law.nd)) (fun _ _ _ _ _ => (pt_one (s_tnotin (hrU hr) (s_var (i := 16)) (s_var (i := 11))))) (fun _ _ _ _ _ => (s_var (i := 16)))) s_nil)) (s_int)) (w_or (s_tgt (s_blt call_len_seq lenS_ok rfl T.z_len (by decide +kernel) (s_cons (s_lc (own := [("word", 16)]) rfl sc_law.nd (i_seq (s_var (i := 4))) (blkOk_by (by kernel_rfl)) (by decide) (fun _ _ _ _ _ => (g_name (i := 16) sc_law.nd)) (fun _ _ _ _ _ => (pt_one (s_tnotin (hrU hr) (s_var (i := 16)) (s_var (i := 10))))) (fun _ _ _ _ _ => (s_var (i := 16)))) s_nil)) (s_int)) (w_or1 (s_tgt (s_blt call_len_seq lenS_ok rfl T.z_len (by decide +kernel) (s_cons (s_lc (own := [("word", 16)]) rfl sc_law.nd (i_seq (s_call (ok_telling_set T) (hr.mono (by decide)) rfl (fun _ _ => runP_len) (s_cons (s_var (i := 3)) s_nil))) (blkOk_by (by kernel_rfl)) (by decide) (fun _ _ _ _ _ => (g_name (i := 16) sc_law.nd)) (fun _ _ _ _ _ => (pt_one (s_tnotin (hrU hr) (s_var (i := 16)) (s_var (i := 10))))) (fun _ _ _ _ _ => (s_var (i := 16)))) s_nil)) (s_int)))))) (ss_cons (ss_ret (s_bl))
  ss_nil) ss_nil)
  (ss_cons (ss_set (i := 12) sc_law.nd (s_callG (ok_p_law_suite T) (hr.mono (by decide)) rfl (fun _ _ _ => runG_len) (s_cons (s_var (i := 1)) (s_cons (s_var (i := 2)) (s_cons (s_int) (s_cons (s_int) s_nil))))))
  (ss_cons (ss_set (i := 13) sc_law.nd (s_bty call_tuple_of tupS_ok rfl T.z_tuple (by decide +kernel) (s_cons (s_blt (cr_sort rfl (hrU hr)) sortS_ok rfl T.z_sorted (by decide +kernel) (s_cons (s_call (ok_p_law_once T) (hr.mono (by decide)) rfl (fun _ _ => runP_len) (s_cons (s_add (s_bty call_list_of lstS_ok rfl T.z_list (by decide +kernel) (s_cons (s_var (i := 12)) s_nil)) (s_bty call_list_of lstS_ok rfl T.z_list (by decide +kernel) (s_cons (s_callG (ok_p_law_suite T) (hr.mono (by decide)) rfl (fun _ _ _ => runG_len) (s_cons (s_var (i := 1)) (s_cons (s_var (i := 2)) (s_cons (s_int) (s_cons (s_int) s_nil))))) s_nil))) s_nil)) s_nil)) s_nil)))
  (ss_cons (ss_set (i := 14) sc_law.nd (s_call (ok_untold_slips T) (hr.mono (by decide)) rfl (fun _ _ => runP_len) (s_cons (s_var (i := 3)) (s_cons (s_var (i := 12)) s_nil))))
  (ss_cons (ss_if (SW.t (w_or (s_tgt (s_blt call_len_seq lenS_ok rfl T.z_len (by decide +kernel) (s_cons (s_lc (own := [("slip", 17)]) rfl sc_law.nd (i_seq (s_call (ok_untold_slips T) (hr.mono (by decide)) rfl (fun _ _ => runP_len) (s_cons (s_var (i := 3)) (s_cons (s_var (i := 13)) s_nil)))) (blkOk_by (by kernel_rfl)) (by decide) (fun _ _ _ _ _ => (g_name (i := 17) sc_law.nd)) (fun _ _ _ _ _ => (pt_one (s_tnotin (hrU hr) (s_var (i := 17)) (s_var (i := 14))))) (fun _ _ _ _ _ => (s_var (i := 17)))) s_nil)) (s_int)) (w_or1 (s_tne (hrU hr) (s_call (ok_untold_slips T) (hr.mono (by decide)) rfl (fun _ _ => runP_len) (s_cons (s_var (i := 3)) (s_cons (s_call (ok_trimmed T) (hr.mono (by decide)) rfl (fun _ _ => runP_len) (s_cons (s_var (i := 13)) s_nil)) s_nil))) (s_call (ok_untold_slips T) (hr.mono (by decide)) rfl (fun _ _ => runP_len) (s_cons (s_var (i := 3)) (s_cons (s_var (i := 13)) s_nil))))))) (ss_cons (ss_ret (s_bl))
  ss_nil) ss_nil)
  (ss_cons (ss_set (i := 15) sc_law.nd (s_callG (ok_p_law_changed T) (hr.mono (by decide)) rfl (fun _ _ _ => runG_len) (s_cons (s_var (i := 1)) (s_cons (s_var (i := 3)) (s_cons (s_add (s_int) (s_callG (ok_p_law_draw T) (hr.mono (by decide)) rfl (fun _ _ _ => runG_len) (s_cons (s_var (i := 1)) (s_cons (s_int) s_nil)))) s_nil)))))
  (ss_cons (ss_if (SW.t (w_and (s_tis (s_call (ok_passes T) (hr.mono (by decide)) rfl (fun _ _ => runP_len) (s_cons (s_var (i := 3)) (s_cons (s_var (i := 13)) (s_cons (s_var (i := 15)) s_nil)))) (s_bl)) (w_and1 (s_tisnot (s_call (ok_passes T) (hr.mono (by decide)) rfl (fun _ _ => runP_len) (s_cons (s_var (i := 3)) (s_cons (s_var (i := 12)) (s_cons (s_var (i := 15)) s_nil)))) (s_bl))))) (ss_cons (ss_ret (s_bl))
  ss_nil) ss_nil)
  (ss_cons (ss_if (SW.t (w_and (s_tis (s_call (ok_passes T) (hr.mono (by decide)) rfl (fun _ _ => runP_len) (s_cons (s_var (i := 3)) (s_cons (s_var (i := 11)) (s_cons (s_var (i := 15)) s_nil)))) (s_bl)) (w_and1 (SW.t (w_or (s_tisnot (s_call (ok_passes T) (hr.mono (by decide)) rfl (fun _ _ => runP_len) (s_cons (s_var (i := 3)) (s_cons (s_var (i := 10)) (s_cons (s_var (i := 15)) s_nil)))) (s_bl)) (w_or1 (s_tisnot (s_call (ok_passes T) (hr.mono (by decide)) rfl (fun _ _ => runP_len) (s_cons (s_var (i := 3)) (s_cons (s_var (i := 4)) (s_cons (s_var (i := 15)) s_nil)))) (s_bl)))))))) (ss_cons (ss_ret (s_bl))
  ss_nil) ss_nil)
  (ss_cons (ss_if (s_tnot (SW.t (w_and (s_tis (s_call (ok_is_suite T) (hr.mono (by decide)) rfl (fun _ _ => runP_len) (s_cons (s_var (i := 2)) (s_cons (s_var (i := 13)) s_nil))) (s_bl)) (w_and1 (s_t (s_call (ok_p_law_is T) (hr.mono (by decide)) rfl (fun _ _ => runP_len) (s_cons (s_call (ok_passes T) (hr.mono (by decide)) rfl (fun _ _ => runP_len) (s_cons (s_var (i := 15)) (s_cons (s_var (i := 13)) (s_cons (s_var (i := 3)) s_nil)))) (s_cons (s_is (s_call (ok_passes T) (hr.mono (by decide)) rfl (fun _ _ => runP_len) (s_cons (s_var (i := 3)) (s_cons (s_var (i := 13)) (s_cons (s_var (i := 15)) s_nil)))) (s_bl)) s_nil)))))))) (ss_cons (ss_ret (s_bl))
  ss_nil) ss_nil)
  (ss_cons (ss_ret ((s_and (s_is (s_call (ok_passes T) (hr.mono (by decide)) rfl (fun _ _ => runP_len) (s_cons (s_var (i := 3)) (s_cons (s_var (i := 13)) (s_cons (s_var (i := 3)) s_nil)))) (s_bl)) (s_one (s_is (s_call (ok_are_same T) (hr.mono (by decide)) rfl (fun _ _ => runP_len) (s_cons (s_var (i := 3)) (s_cons (s_var (i := 3)) s_nil))) (s_bl))))))
  ss_nil))))))))))))))))))))
end
theorem scr_rep {Z : Zx} {H : Hp} {a : Addr} {ns : List Int} (hS : SqL Z.K H a (ns.map V.int)) : Reps Z (fun _ => False) [] H [.scr (ns.map D.int)] [.ref a] := by
  have r : ∀ l : List Int, Reps Z (fun _ => False) [] H (l.map D.int) (l.map V.int) := fun l => by
    induction l with
    | nil => exact .nil
    | cons i l ih => exact .cons (.int i) ih
  refine .cons (.scr (vs := ns.map V.int) ?_ (r ns)) .nil
  rcases hS with r | f
  · exact .inl ⟨r, List.not_mem_nil, id⟩
  · exact .inr f
theorem law_end {Z : Zx} {H : Hp} {a : Addr} {ns : List Int} {Q : VK} {E : XK} (e : f_law [.scr (ns.map D.int)] = some (.bl true)) (hS : SqL Z.K H a (ns.map V.int)) (q : ∀ H', Q (.bl true) H') : spP Z 1 f_law [.ref a] H Q E :=
  ⟨fun _ => False, [.scr (ns.map D.int)], .bl true, rfl, e, scr_rep hS, fun a h => h.elim, fun v H2 _ r => by rw [r.blE]; exact q H2⟩
def spLaw (K : PySem.W.Frag) : Sp := fun vs H Q _ => ∃ (a : Addr) (ns : List Int), vs = [.ref a] ∧ SqL K H a (ns.map V.int) ∧ ns.length ≤ 63 ∧ ∀ H', Q (.bl true) H'
theorem all_mk {l : PySem.W.OpenLaw} {w : World} {K : PySem.W.Frag} {h : Heap} {mg : Str → Option Value} {fa : Addr} (X : K.In h) (G : h.Ns mainGlobals mg) (hfa : mg "law" = some (.ref fa)) (lt : ∀ ns : List Int, ns.length ≤ 63 → f_law [.scr (ns.map D.int)] = some (.bl true))
    {t_ALIKE : Tok} {t_LONGEST : Tok} {t_MOST_ANSWERS : Tok} {t_MOST_WORDS : Tok} {t_WORD : Tok} {fx_is_integer : Addr} {od_is_integer an_is_integer : Option Addr} {sl_is_integer : Array (Option Value)} {oc_is_integer kV_is_integer dc_is_integer pm_is_integer cd_is_integer ct_is_integer : Value} {fx_is_number : Addr} {od_is_number an_is_number : Option Addr} {sl_is_number : Array (Option Value)} {oc_is_number kV_is_number dc_is_number pm_is_number cd_is_number ct_is_number : Value} {fx_is_ascending : Addr} {od_is_ascending an_is_ascending : Option Addr} {sl_is_ascending : Array (Option Value)} {oc_is_ascending kV_is_ascending dc_is_ascending pm_is_ascending cd_is_ascending ct_is_ascending : Value} {fx_letters_of : Addr} {od_letters_of an_letters_of : Option Addr} {sl_letters_of : Array (Option Value)} {oc_letters_of kV_letters_of dc_letters_of pm_letters_of cd_letters_of ct_letters_of : Value} {fx_answers_of : Addr} {od_answers_of an_answers_of : Option Addr} {sl_answers_of : Array (Option Value)} {oc_answers_of kV_answers_of dc_answers_of pm_answers_of cd_answers_of ct_answers_of : Value} {fx_trial : Addr} {od_trial an_trial : Option Addr} {sl_trial : Array (Option Value)} {oc_trial kV_trial dc_trial pm_trial cd_trial ct_trial : Value} {fx_ways : Addr} {od_ways an_ways : Option Addr} {sl_ways : Array (Option Value)} {oc_ways kV_ways dc_ways pm_ways cd_ways ct_ways : Value} {fx_reached : Addr} {od_reached an_reached : Option Addr} {sl_reached : Array (Option Value)} {oc_reached kV_reached dc_reached pm_reached cd_reached ct_reached : Value} {fx_way_to : Addr} {od_way_to an_way_to : Option Addr} {sl_way_to : Array (Option Value)} {oc_way_to kV_way_to dc_way_to pm_way_to cd_way_to ct_way_to : Value} {fx_words_of : Addr} {od_words_of an_words_of : Option Addr} {sl_words_of : Array (Option Value)} {oc_words_of kV_words_of dc_words_of pm_words_of cd_words_of ct_words_of : Value} {fx_is_word : Addr} {od_is_word an_is_word : Option Addr} {sl_is_word : Array (Option Value)} {oc_is_word kV_is_word dc_is_word pm_is_word cd_is_word ct_is_word : Value} {fx_pair_paper : Addr} {od_pair_paper an_pair_paper : Option Addr} {sl_pair_paper : Array (Option Value)} {oc_pair_paper kV_pair_paper dc_pair_paper pm_pair_paper cd_pair_paper ct_pair_paper : Value} {fx_are_alike : Addr} {od_are_alike an_are_alike : Option Addr} {sl_are_alike : Array (Option Value)} {oc_are_alike kV_are_alike dc_are_alike pm_are_alike cd_are_alike ct_are_alike : Value} {fx_parting_word : Addr} {od_parting_word an_parting_word : Option Addr} {sl_parting_word : Array (Option Value)} {oc_parting_word kV_parting_word dc_parting_word pm_parting_word cd_parting_word ct_parting_word : Value} {fx_are_same : Addr} {od_are_same an_are_same : Option Addr} {sl_are_same : Array (Option Value)} {oc_are_same kV_are_same dc_are_same pm_are_same cd_are_same ct_are_same : Value} {fx_is_suite : Addr} {od_is_suite an_is_suite : Option Addr} {sl_is_suite : Array (Option Value)} {oc_is_suite kV_is_suite dc_is_suite pm_is_suite cd_is_suite ct_is_suite : Value} {fx_passes : Addr} {od_passes an_passes : Option Addr} {sl_passes : Array (Option Value)} {oc_passes kV_passes dc_passes pm_passes cd_passes ct_passes : Value} {fx_first_fail : Addr} {od_first_fail an_first_fail : Option Addr} {sl_first_fail : Array (Option Value)} {oc_first_fail kV_first_fail dc_first_fail pm_first_fail cd_first_fail ct_first_fail : Value} {fx_cover_of : Addr} {od_cover_of an_cover_of : Option Addr} {sl_cover_of : Array (Option Value)} {oc_cover_of kV_cover_of dc_cover_of pm_cover_of cd_cover_of ct_cover_of : Value} {fx_telling_set : Addr} {od_telling_set an_telling_set : Option Addr} {sl_telling_set : Array (Option Value)} {oc_telling_set kV_telling_set dc_telling_set pm_telling_set cd_telling_set ct_telling_set : Value} {fx_full_suite : Addr} {od_full_suite an_full_suite : Option Addr} {sl_full_suite : Array (Option Value)} {oc_full_suite kV_full_suite dc_full_suite pm_full_suite cd_full_suite ct_full_suite : Value} {fx_is_longer : Addr} {od_is_longer an_is_longer : Option Addr} {sl_is_longer : Array (Option Value)} {oc_is_longer kV_is_longer dc_is_longer pm_is_longer cd_is_longer ct_is_longer : Value} {fx_trimmed : Addr} {od_trimmed an_trimmed : Option Addr} {sl_trimmed : Array (Option Value)} {oc_trimmed kV_trimmed dc_trimmed pm_trimmed cd_trimmed ct_trimmed : Value} {fx_with_slip : Addr} {od_with_slip an_with_slip : Option Addr} {sl_with_slip : Array (Option Value)} {oc_with_slip kV_with_slip dc_with_slip pm_with_slip cd_with_slip ct_with_slip : Value} {fx_slips_of : Addr} {od_slips_of an_slips_of : Option Addr} {sl_slips_of : Array (Option Value)} {oc_slips_of kV_slips_of dc_slips_of pm_slips_of cd_slips_of ct_slips_of : Value} {fx_untold_slips : Addr} {od_untold_slips an_untold_slips : Option Addr} {sl_untold_slips : Array (Option Value)} {oc_untold_slips kV_untold_slips dc_untold_slips pm_untold_slips cd_untold_slips ct_untold_slips : Value} {fx_p_law_cell : Addr} {od_p_law_cell an_p_law_cell : Option Addr} {sl_p_law_cell : Array (Option Value)} {oc_p_law_cell kV_p_law_cell dc_p_law_cell pm_p_law_cell cd_p_law_cell ct_p_law_cell : Value} {fx_p_law_numbers : Addr} {od_p_law_numbers an_p_law_numbers : Option Addr} {sl_p_law_numbers : Array (Option Value)} {oc_p_law_numbers kV_p_law_numbers dc_p_law_numbers pm_p_law_numbers cd_p_law_numbers ct_p_law_numbers : Value} {fx_p_law_pool : Addr} {od_p_law_pool an_p_law_pool : Option Addr} {sl_p_law_pool : Array (Option Value)} {oc_p_law_pool kV_p_law_pool dc_p_law_pool pm_p_law_pool cd_p_law_pool ct_p_law_pool : Value} {fx_p_law_draw : Addr} {od_p_law_draw an_p_law_draw : Option Addr} {sl_p_law_draw : Array (Option Value)} {oc_p_law_draw kV_p_law_draw dc_p_law_draw pm_p_law_draw cd_p_law_draw ct_p_law_draw : Value} {fx_p_law_is : Addr} {od_p_law_is an_p_law_is : Option Addr} {sl_p_law_is : Array (Option Value)} {oc_p_law_is kV_p_law_is dc_p_law_is pm_p_law_is cd_p_law_is ct_p_law_is : Value} {fx_p_law_table : Addr} {od_p_law_table an_p_law_table : Option Addr} {sl_p_law_table : Array (Option Value)} {oc_p_law_table kV_p_law_table dc_p_law_table pm_p_law_table cd_p_law_table ct_p_law_table : Value} {fx_p_law_doubled : Addr} {od_p_law_doubled an_p_law_doubled : Option Addr} {sl_p_law_doubled : Array (Option Value)} {oc_p_law_doubled kV_p_law_doubled dc_p_law_doubled pm_p_law_doubled cd_p_law_doubled ct_p_law_doubled : Value} {fx_p_law_machine : Addr} {od_p_law_machine an_p_law_machine : Option Addr} {sl_p_law_machine : Array (Option Value)} {oc_p_law_machine kV_p_law_machine dc_p_law_machine pm_p_law_machine cd_p_law_machine ct_p_law_machine : Value} {fx_p_law_changed : Addr} {od_p_law_changed an_p_law_changed : Option Addr} {sl_p_law_changed : Array (Option Value)} {oc_p_law_changed kV_p_law_changed dc_p_law_changed pm_p_law_changed cd_p_law_changed ct_p_law_changed : Value} {fx_p_law_word : Addr} {od_p_law_word an_p_law_word : Option Addr} {sl_p_law_word : Array (Option Value)} {oc_p_law_word kV_p_law_word dc_p_law_word pm_p_law_word cd_p_law_word ct_p_law_word : Value} {fx_p_law_once : Addr} {od_p_law_once an_p_law_once : Option Addr} {sl_p_law_once : Array (Option Value)} {oc_p_law_once kV_p_law_once dc_p_law_once pm_p_law_once cd_p_law_once ct_p_law_once : Value} {fx_p_law_suite : Addr} {od_p_law_suite an_p_law_suite : Option Addr} {sl_p_law_suite : Array (Option Value)} {oc_p_law_suite kV_p_law_suite dc_p_law_suite pm_p_law_suite cd_p_law_suite ct_p_law_suite : Value} {fx_law : Addr} {od_law an_law : Option Addr} {sl_law : Array (Option Value)} {oc_law kV_law dc_law pm_law cd_law ct_law : Value}
    (z_all : PySem.W.nsIn K mainGlobals "all" = some none)
    (z_any : PySem.W.nsIn K mainGlobals "any" = some none)
    (z_bool : PySem.W.nsIn K mainGlobals "bool" = some none)
    (z_enumerate : PySem.W.nsIn K mainGlobals "enumerate" = some none)
    (z_int : PySem.W.nsIn K mainGlobals "int" = some none)
    (z_isinstance : PySem.W.nsIn K mainGlobals "isinstance" = some none)
    (z_len : PySem.W.nsIn K mainGlobals "len" = some none)
    (z_list : PySem.W.nsIn K mainGlobals "list" = some none)
    (z_max : PySem.W.nsIn K mainGlobals "max" = some none)
    (z_min : PySem.W.nsIn K mainGlobals "min" = some none)
    (z_range : PySem.W.nsIn K mainGlobals "range" = some none)
    (z_sorted : PySem.W.nsIn K mainGlobals "sorted" = some none)
    (z_tuple : PySem.W.nsIn K mainGlobals "tuple" = some none)
    (c_ALIKE : PySem.W.nsIn K mainGlobals "ALIKE" = some (some (.str "alike" t_ALIKE)))
    (c_LONGEST : PySem.W.nsIn K mainGlobals "LONGEST" = some (some (.int 20 t_LONGEST)))
    (c_MOST_ANSWERS : PySem.W.nsIn K mainGlobals "MOST_ANSWERS" = some (some (.int 3 t_MOST_ANSWERS)))
    (c_MOST_WORDS : PySem.W.nsIn K mainGlobals "MOST_WORDS" = some (some (.int 200 t_MOST_WORDS)))
    (c_WORD : PySem.W.nsIn K mainGlobals "WORD" = some (some (.str "word" t_WORD)))
    (a_is_integer : PySem.W.nsIn K mainGlobals "is_integer" = some (some (.ref fx_is_integer)))
    (l_is_integer : K.lookup fx_is_integer = some ⟨oc_is_integer, od_is_integer, .func (PySem.W.fnOf "is_integer" "is_integer" (defArgs s_is_integer) (defBody s_is_integer) (defScope s_is_integer) .none kV_is_integer dc_is_integer pm_is_integer an_is_integer cd_is_integer ct_is_integer), sl_is_integer⟩)
    (d_is_integer : PySem.W.codeIn K cd_is_integer "is_integer" = true)
    (k_is_integer : PySem.W.keepIn K (.ref fx_is_integer) = true)
    (a_is_number : PySem.W.nsIn K mainGlobals "is_number" = some (some (.ref fx_is_number)))
    (l_is_number : K.lookup fx_is_number = some ⟨oc_is_number, od_is_number, .func (PySem.W.fnOf "is_number" "is_number" (defArgs s_is_number) (defBody s_is_number) (defScope s_is_number) .none kV_is_number dc_is_number pm_is_number an_is_number cd_is_number ct_is_number), sl_is_number⟩)
    (d_is_number : PySem.W.codeIn K cd_is_number "is_number" = true)
    (k_is_number : PySem.W.keepIn K (.ref fx_is_number) = true)
    (a_is_ascending : PySem.W.nsIn K mainGlobals "is_ascending" = some (some (.ref fx_is_ascending)))
    (l_is_ascending : K.lookup fx_is_ascending = some ⟨oc_is_ascending, od_is_ascending, .func (PySem.W.fnOf "is_ascending" "is_ascending" (defArgs s_is_ascending) (defBody s_is_ascending) (defScope s_is_ascending) .none kV_is_ascending dc_is_ascending pm_is_ascending an_is_ascending cd_is_ascending ct_is_ascending), sl_is_ascending⟩)
    (d_is_ascending : PySem.W.codeIn K cd_is_ascending "is_ascending" = true)
    (k_is_ascending : PySem.W.keepIn K (.ref fx_is_ascending) = true)
    (a_letters_of : PySem.W.nsIn K mainGlobals "letters_of" = some (some (.ref fx_letters_of)))
    (l_letters_of : K.lookup fx_letters_of = some ⟨oc_letters_of, od_letters_of, .func (PySem.W.fnOf "letters_of" "letters_of" (defArgs s_letters_of) (defBody s_letters_of) (defScope s_letters_of) .none kV_letters_of dc_letters_of pm_letters_of an_letters_of cd_letters_of ct_letters_of), sl_letters_of⟩)
    (d_letters_of : PySem.W.codeIn K cd_letters_of "letters_of" = true)
    (k_letters_of : PySem.W.keepIn K (.ref fx_letters_of) = true)
    (a_answers_of : PySem.W.nsIn K mainGlobals "answers_of" = some (some (.ref fx_answers_of)))
    (l_answers_of : K.lookup fx_answers_of = some ⟨oc_answers_of, od_answers_of, .func (PySem.W.fnOf "answers_of" "answers_of" (defArgs s_answers_of) (defBody s_answers_of) (defScope s_answers_of) .none kV_answers_of dc_answers_of pm_answers_of an_answers_of cd_answers_of ct_answers_of), sl_answers_of⟩)
    (d_answers_of : PySem.W.codeIn K cd_answers_of "answers_of" = true)
    (k_answers_of : PySem.W.keepIn K (.ref fx_answers_of) = true)
    (a_trial : PySem.W.nsIn K mainGlobals "trial" = some (some (.ref fx_trial)))
    (l_trial : K.lookup fx_trial = some ⟨oc_trial, od_trial, .func (PySem.W.fnOf "trial" "trial" (defArgs s_trial) (defBody s_trial) (defScope s_trial) .none kV_trial dc_trial pm_trial an_trial cd_trial ct_trial), sl_trial⟩)
    (d_trial : PySem.W.codeIn K cd_trial "trial" = true)
    (k_trial : PySem.W.keepIn K (.ref fx_trial) = true)
    (a_ways : PySem.W.nsIn K mainGlobals "ways" = some (some (.ref fx_ways)))
    (l_ways : K.lookup fx_ways = some ⟨oc_ways, od_ways, .func (PySem.W.fnOf "ways" "ways" (defArgs s_ways) (defBody s_ways) (defScope s_ways) .none kV_ways dc_ways pm_ways an_ways cd_ways ct_ways), sl_ways⟩)
    (d_ways : PySem.W.codeIn K cd_ways "ways" = true)
    (k_ways : PySem.W.keepIn K (.ref fx_ways) = true)
    (a_reached : PySem.W.nsIn K mainGlobals "reached" = some (some (.ref fx_reached)))
    (l_reached : K.lookup fx_reached = some ⟨oc_reached, od_reached, .func (PySem.W.fnOf "reached" "reached" (defArgs s_reached) (defBody s_reached) (defScope s_reached) .none kV_reached dc_reached pm_reached an_reached cd_reached ct_reached), sl_reached⟩)
    (d_reached : PySem.W.codeIn K cd_reached "reached" = true)
    (k_reached : PySem.W.keepIn K (.ref fx_reached) = true)
    (a_way_to : PySem.W.nsIn K mainGlobals "way_to" = some (some (.ref fx_way_to)))
    (l_way_to : K.lookup fx_way_to = some ⟨oc_way_to, od_way_to, .func (PySem.W.fnOf "way_to" "way_to" (defArgs s_way_to) (defBody s_way_to) (defScope s_way_to) .none kV_way_to dc_way_to pm_way_to an_way_to cd_way_to ct_way_to), sl_way_to⟩)
    (d_way_to : PySem.W.codeIn K cd_way_to "way_to" = true)
    (k_way_to : PySem.W.keepIn K (.ref fx_way_to) = true)
    (a_words_of : PySem.W.nsIn K mainGlobals "words_of" = some (some (.ref fx_words_of)))
    (l_words_of : K.lookup fx_words_of = some ⟨oc_words_of, od_words_of, .func (PySem.W.fnOf "words_of" "words_of" (defArgs s_words_of) (defBody s_words_of) (defScope s_words_of) .none kV_words_of dc_words_of pm_words_of an_words_of cd_words_of ct_words_of), sl_words_of⟩)
    (d_words_of : PySem.W.codeIn K cd_words_of "words_of" = true)
    (k_words_of : PySem.W.keepIn K (.ref fx_words_of) = true)
    (a_is_word : PySem.W.nsIn K mainGlobals "is_word" = some (some (.ref fx_is_word)))
    (l_is_word : K.lookup fx_is_word = some ⟨oc_is_word, od_is_word, .func (PySem.W.fnOf "is_word" "is_word" (defArgs s_is_word) (defBody s_is_word) (defScope s_is_word) .none kV_is_word dc_is_word pm_is_word an_is_word cd_is_word ct_is_word), sl_is_word⟩)
    (d_is_word : PySem.W.codeIn K cd_is_word "is_word" = true)
    (k_is_word : PySem.W.keepIn K (.ref fx_is_word) = true)
    (a_pair_paper : PySem.W.nsIn K mainGlobals "pair_paper" = some (some (.ref fx_pair_paper)))
    (l_pair_paper : K.lookup fx_pair_paper = some ⟨oc_pair_paper, od_pair_paper, .func (PySem.W.fnOf "pair_paper" "pair_paper" (defArgs s_pair_paper) (defBody s_pair_paper) (defScope s_pair_paper) .none kV_pair_paper dc_pair_paper pm_pair_paper an_pair_paper cd_pair_paper ct_pair_paper), sl_pair_paper⟩)
    (d_pair_paper : PySem.W.codeIn K cd_pair_paper "pair_paper" = true)
    (k_pair_paper : PySem.W.keepIn K (.ref fx_pair_paper) = true)
    (a_are_alike : PySem.W.nsIn K mainGlobals "are_alike" = some (some (.ref fx_are_alike)))
    (l_are_alike : K.lookup fx_are_alike = some ⟨oc_are_alike, od_are_alike, .func (PySem.W.fnOf "are_alike" "are_alike" (defArgs s_are_alike) (defBody s_are_alike) (defScope s_are_alike) .none kV_are_alike dc_are_alike pm_are_alike an_are_alike cd_are_alike ct_are_alike), sl_are_alike⟩)
    (d_are_alike : PySem.W.codeIn K cd_are_alike "are_alike" = true)
    (k_are_alike : PySem.W.keepIn K (.ref fx_are_alike) = true)
    (a_parting_word : PySem.W.nsIn K mainGlobals "parting_word" = some (some (.ref fx_parting_word)))
    (l_parting_word : K.lookup fx_parting_word = some ⟨oc_parting_word, od_parting_word, .func (PySem.W.fnOf "parting_word" "parting_word" (defArgs s_parting_word) (defBody s_parting_word) (defScope s_parting_word) .none kV_parting_word dc_parting_word pm_parting_word an_parting_word cd_parting_word ct_parting_word), sl_parting_word⟩)
    (d_parting_word : PySem.W.codeIn K cd_parting_word "parting_word" = true)
    (k_parting_word : PySem.W.keepIn K (.ref fx_parting_word) = true)
    (a_are_same : PySem.W.nsIn K mainGlobals "are_same" = some (some (.ref fx_are_same)))
    (l_are_same : K.lookup fx_are_same = some ⟨oc_are_same, od_are_same, .func (PySem.W.fnOf "are_same" "are_same" (defArgs s_are_same) (defBody s_are_same) (defScope s_are_same) .none kV_are_same dc_are_same pm_are_same an_are_same cd_are_same ct_are_same), sl_are_same⟩)
    (d_are_same : PySem.W.codeIn K cd_are_same "are_same" = true)
    (k_are_same : PySem.W.keepIn K (.ref fx_are_same) = true)
    (a_is_suite : PySem.W.nsIn K mainGlobals "is_suite" = some (some (.ref fx_is_suite)))
    (l_is_suite : K.lookup fx_is_suite = some ⟨oc_is_suite, od_is_suite, .func (PySem.W.fnOf "is_suite" "is_suite" (defArgs s_is_suite) (defBody s_is_suite) (defScope s_is_suite) .none kV_is_suite dc_is_suite pm_is_suite an_is_suite cd_is_suite ct_is_suite), sl_is_suite⟩)
    (d_is_suite : PySem.W.codeIn K cd_is_suite "is_suite" = true)
    (k_is_suite : PySem.W.keepIn K (.ref fx_is_suite) = true)
    (a_passes : PySem.W.nsIn K mainGlobals "passes" = some (some (.ref fx_passes)))
    (l_passes : K.lookup fx_passes = some ⟨oc_passes, od_passes, .func (PySem.W.fnOf "passes" "passes" (defArgs s_passes) (defBody s_passes) (defScope s_passes) .none kV_passes dc_passes pm_passes an_passes cd_passes ct_passes), sl_passes⟩)
    (d_passes : PySem.W.codeIn K cd_passes "passes" = true)
    (k_passes : PySem.W.keepIn K (.ref fx_passes) = true)
    (a_first_fail : PySem.W.nsIn K mainGlobals "first_fail" = some (some (.ref fx_first_fail)))
    (l_first_fail : K.lookup fx_first_fail = some ⟨oc_first_fail, od_first_fail, .func (PySem.W.fnOf "first_fail" "first_fail" (defArgs s_first_fail) (defBody s_first_fail) (defScope s_first_fail) .none kV_first_fail dc_first_fail pm_first_fail an_first_fail cd_first_fail ct_first_fail), sl_first_fail⟩)
    (d_first_fail : PySem.W.codeIn K cd_first_fail "first_fail" = true)
    (k_first_fail : PySem.W.keepIn K (.ref fx_first_fail) = true)
    (a_cover_of : PySem.W.nsIn K mainGlobals "cover_of" = some (some (.ref fx_cover_of)))
    (l_cover_of : K.lookup fx_cover_of = some ⟨oc_cover_of, od_cover_of, .func (PySem.W.fnOf "cover_of" "cover_of" (defArgs s_cover_of) (defBody s_cover_of) (defScope s_cover_of) .none kV_cover_of dc_cover_of pm_cover_of an_cover_of cd_cover_of ct_cover_of), sl_cover_of⟩)
    (d_cover_of : PySem.W.codeIn K cd_cover_of "cover_of" = true)
    (k_cover_of : PySem.W.keepIn K (.ref fx_cover_of) = true)
    (a_telling_set : PySem.W.nsIn K mainGlobals "telling_set" = some (some (.ref fx_telling_set)))
    (l_telling_set : K.lookup fx_telling_set = some ⟨oc_telling_set, od_telling_set, .func (PySem.W.fnOf "telling_set" "telling_set" (defArgs s_telling_set) (defBody s_telling_set) (defScope s_telling_set) .none kV_telling_set dc_telling_set pm_telling_set an_telling_set cd_telling_set ct_telling_set), sl_telling_set⟩)
    (d_telling_set : PySem.W.codeIn K cd_telling_set "telling_set" = true)
    (k_telling_set : PySem.W.keepIn K (.ref fx_telling_set) = true)
    (a_full_suite : PySem.W.nsIn K mainGlobals "full_suite" = some (some (.ref fx_full_suite)))
    (l_full_suite : K.lookup fx_full_suite = some ⟨oc_full_suite, od_full_suite, .func (PySem.W.fnOf "full_suite" "full_suite" (defArgs s_full_suite) (defBody s_full_suite) (defScope s_full_suite) .none kV_full_suite dc_full_suite pm_full_suite an_full_suite cd_full_suite ct_full_suite), sl_full_suite⟩)
    (d_full_suite : PySem.W.codeIn K cd_full_suite "full_suite" = true)
    (k_full_suite : PySem.W.keepIn K (.ref fx_full_suite) = true)
    (a_is_longer : PySem.W.nsIn K mainGlobals "is_longer" = some (some (.ref fx_is_longer)))
    (l_is_longer : K.lookup fx_is_longer = some ⟨oc_is_longer, od_is_longer, .func (PySem.W.fnOf "is_longer" "is_longer" (defArgs s_is_longer) (defBody s_is_longer) (defScope s_is_longer) .none kV_is_longer dc_is_longer pm_is_longer an_is_longer cd_is_longer ct_is_longer), sl_is_longer⟩)
    (d_is_longer : PySem.W.codeIn K cd_is_longer "is_longer" = true)
    (k_is_longer : PySem.W.keepIn K (.ref fx_is_longer) = true)
    (a_trimmed : PySem.W.nsIn K mainGlobals "trimmed" = some (some (.ref fx_trimmed)))
    (l_trimmed : K.lookup fx_trimmed = some ⟨oc_trimmed, od_trimmed, .func (PySem.W.fnOf "trimmed" "trimmed" (defArgs s_trimmed) (defBody s_trimmed) (defScope s_trimmed) .none kV_trimmed dc_trimmed pm_trimmed an_trimmed cd_trimmed ct_trimmed), sl_trimmed⟩)
    (d_trimmed : PySem.W.codeIn K cd_trimmed "trimmed" = true)
    (k_trimmed : PySem.W.keepIn K (.ref fx_trimmed) = true)
    (a_with_slip : PySem.W.nsIn K mainGlobals "with_slip" = some (some (.ref fx_with_slip)))
    (l_with_slip : K.lookup fx_with_slip = some ⟨oc_with_slip, od_with_slip, .func (PySem.W.fnOf "with_slip" "with_slip" (defArgs s_with_slip) (defBody s_with_slip) (defScope s_with_slip) .none kV_with_slip dc_with_slip pm_with_slip an_with_slip cd_with_slip ct_with_slip), sl_with_slip⟩)
    (d_with_slip : PySem.W.codeIn K cd_with_slip "with_slip" = true)
    (k_with_slip : PySem.W.keepIn K (.ref fx_with_slip) = true)
    (a_slips_of : PySem.W.nsIn K mainGlobals "slips_of" = some (some (.ref fx_slips_of)))
    (l_slips_of : K.lookup fx_slips_of = some ⟨oc_slips_of, od_slips_of, .func (PySem.W.fnOf "slips_of" "slips_of" (defArgs s_slips_of) (defBody s_slips_of) (defScope s_slips_of) .none kV_slips_of dc_slips_of pm_slips_of an_slips_of cd_slips_of ct_slips_of), sl_slips_of⟩)
    (d_slips_of : PySem.W.codeIn K cd_slips_of "slips_of" = true)
    (k_slips_of : PySem.W.keepIn K (.ref fx_slips_of) = true)
    (a_untold_slips : PySem.W.nsIn K mainGlobals "untold_slips" = some (some (.ref fx_untold_slips)))
    (l_untold_slips : K.lookup fx_untold_slips = some ⟨oc_untold_slips, od_untold_slips, .func (PySem.W.fnOf "untold_slips" "untold_slips" (defArgs s_untold_slips) (defBody s_untold_slips) (defScope s_untold_slips) .none kV_untold_slips dc_untold_slips pm_untold_slips an_untold_slips cd_untold_slips ct_untold_slips), sl_untold_slips⟩)
    (d_untold_slips : PySem.W.codeIn K cd_untold_slips "untold_slips" = true)
    (k_untold_slips : PySem.W.keepIn K (.ref fx_untold_slips) = true)
    (a_p_law_cell : PySem.W.nsIn K mainGlobals "_law_cell" = some (some (.ref fx_p_law_cell)))
    (l_p_law_cell : K.lookup fx_p_law_cell = some ⟨oc_p_law_cell, od_p_law_cell, .func (PySem.W.fnOf "_law_cell" "_law_cell" (defArgs s_p_law_cell) (defBody s_p_law_cell) (defScope s_p_law_cell) .none kV_p_law_cell dc_p_law_cell pm_p_law_cell an_p_law_cell cd_p_law_cell ct_p_law_cell), sl_p_law_cell⟩)
    (d_p_law_cell : PySem.W.codeIn K cd_p_law_cell "_law_cell" = true)
    (k_p_law_cell : PySem.W.keepIn K (.ref fx_p_law_cell) = true)
    (a_p_law_numbers : PySem.W.nsIn K mainGlobals "_law_numbers" = some (some (.ref fx_p_law_numbers)))
    (l_p_law_numbers : K.lookup fx_p_law_numbers = some ⟨oc_p_law_numbers, od_p_law_numbers, .func (PySem.W.fnOf "_law_numbers" "_law_numbers" (defArgs s_p_law_numbers) (defBody s_p_law_numbers) (defScope s_p_law_numbers) .none kV_p_law_numbers dc_p_law_numbers pm_p_law_numbers an_p_law_numbers cd_p_law_numbers ct_p_law_numbers), sl_p_law_numbers⟩)
    (d_p_law_numbers : PySem.W.codeIn K cd_p_law_numbers "_law_numbers" = true)
    (k_p_law_numbers : PySem.W.keepIn K (.ref fx_p_law_numbers) = true)
    (a_p_law_pool : PySem.W.nsIn K mainGlobals "_law_pool" = some (some (.ref fx_p_law_pool)))
    (l_p_law_pool : K.lookup fx_p_law_pool = some ⟨oc_p_law_pool, od_p_law_pool, .func (PySem.W.fnOf "_law_pool" "_law_pool" (defArgs s_p_law_pool) (defBody s_p_law_pool) (defScope s_p_law_pool) .none kV_p_law_pool dc_p_law_pool pm_p_law_pool an_p_law_pool cd_p_law_pool ct_p_law_pool), sl_p_law_pool⟩)
    (d_p_law_pool : PySem.W.codeIn K cd_p_law_pool "_law_pool" = true)
    (k_p_law_pool : PySem.W.keepIn K (.ref fx_p_law_pool) = true)
    (a_p_law_draw : PySem.W.nsIn K mainGlobals "_law_draw" = some (some (.ref fx_p_law_draw)))
    (l_p_law_draw : K.lookup fx_p_law_draw = some ⟨oc_p_law_draw, od_p_law_draw, .func (PySem.W.fnOf "_law_draw" "_law_draw" (defArgs s_p_law_draw) (defBody s_p_law_draw) (defScope s_p_law_draw) .none kV_p_law_draw dc_p_law_draw pm_p_law_draw an_p_law_draw cd_p_law_draw ct_p_law_draw), sl_p_law_draw⟩)
    (d_p_law_draw : PySem.W.codeIn K cd_p_law_draw "_law_draw" = true)
    (k_p_law_draw : PySem.W.keepIn K (.ref fx_p_law_draw) = true)
    (a_p_law_is : PySem.W.nsIn K mainGlobals "_law_is" = some (some (.ref fx_p_law_is)))
    (l_p_law_is : K.lookup fx_p_law_is = some ⟨oc_p_law_is, od_p_law_is, .func (PySem.W.fnOf "_law_is" "_law_is" (defArgs s_p_law_is) (defBody s_p_law_is) (defScope s_p_law_is) .none kV_p_law_is dc_p_law_is pm_p_law_is an_p_law_is cd_p_law_is ct_p_law_is), sl_p_law_is⟩)
    (d_p_law_is : PySem.W.codeIn K cd_p_law_is "_law_is" = true)
    (k_p_law_is : PySem.W.keepIn K (.ref fx_p_law_is) = true)
    (a_p_law_table : PySem.W.nsIn K mainGlobals "_law_table" = some (some (.ref fx_p_law_table)))
    (l_p_law_table : K.lookup fx_p_law_table = some ⟨oc_p_law_table, od_p_law_table, .func (PySem.W.fnOf "_law_table" "_law_table" (defArgs s_p_law_table) (defBody s_p_law_table) (defScope s_p_law_table) .none kV_p_law_table dc_p_law_table pm_p_law_table an_p_law_table cd_p_law_table ct_p_law_table), sl_p_law_table⟩)
    (d_p_law_table : PySem.W.codeIn K cd_p_law_table "_law_table" = true)
    (k_p_law_table : PySem.W.keepIn K (.ref fx_p_law_table) = true)
    (a_p_law_doubled : PySem.W.nsIn K mainGlobals "_law_doubled" = some (some (.ref fx_p_law_doubled)))
    (l_p_law_doubled : K.lookup fx_p_law_doubled = some ⟨oc_p_law_doubled, od_p_law_doubled, .func (PySem.W.fnOf "_law_doubled" "_law_doubled" (defArgs s_p_law_doubled) (defBody s_p_law_doubled) (defScope s_p_law_doubled) .none kV_p_law_doubled dc_p_law_doubled pm_p_law_doubled an_p_law_doubled cd_p_law_doubled ct_p_law_doubled), sl_p_law_doubled⟩)
    (d_p_law_doubled : PySem.W.codeIn K cd_p_law_doubled "_law_doubled" = true)
    (k_p_law_doubled : PySem.W.keepIn K (.ref fx_p_law_doubled) = true)
    (a_p_law_machine : PySem.W.nsIn K mainGlobals "_law_machine" = some (some (.ref fx_p_law_machine)))
    (l_p_law_machine : K.lookup fx_p_law_machine = some ⟨oc_p_law_machine, od_p_law_machine, .func (PySem.W.fnOf "_law_machine" "_law_machine" (defArgs s_p_law_machine) (defBody s_p_law_machine) (defScope s_p_law_machine) .none kV_p_law_machine dc_p_law_machine pm_p_law_machine an_p_law_machine cd_p_law_machine ct_p_law_machine), sl_p_law_machine⟩)
    (d_p_law_machine : PySem.W.codeIn K cd_p_law_machine "_law_machine" = true)
    (k_p_law_machine : PySem.W.keepIn K (.ref fx_p_law_machine) = true)
    (a_p_law_changed : PySem.W.nsIn K mainGlobals "_law_changed" = some (some (.ref fx_p_law_changed)))
    (l_p_law_changed : K.lookup fx_p_law_changed = some ⟨oc_p_law_changed, od_p_law_changed, .func (PySem.W.fnOf "_law_changed" "_law_changed" (defArgs s_p_law_changed) (defBody s_p_law_changed) (defScope s_p_law_changed) .none kV_p_law_changed dc_p_law_changed pm_p_law_changed an_p_law_changed cd_p_law_changed ct_p_law_changed), sl_p_law_changed⟩)
    (d_p_law_changed : PySem.W.codeIn K cd_p_law_changed "_law_changed" = true)
    (k_p_law_changed : PySem.W.keepIn K (.ref fx_p_law_changed) = true)
    (a_p_law_word : PySem.W.nsIn K mainGlobals "_law_word" = some (some (.ref fx_p_law_word)))
    (l_p_law_word : K.lookup fx_p_law_word = some ⟨oc_p_law_word, od_p_law_word, .func (PySem.W.fnOf "_law_word" "_law_word" (defArgs s_p_law_word) (defBody s_p_law_word) (defScope s_p_law_word) .none kV_p_law_word dc_p_law_word pm_p_law_word an_p_law_word cd_p_law_word ct_p_law_word), sl_p_law_word⟩)
    (d_p_law_word : PySem.W.codeIn K cd_p_law_word "_law_word" = true)
    (k_p_law_word : PySem.W.keepIn K (.ref fx_p_law_word) = true)
    (a_p_law_once : PySem.W.nsIn K mainGlobals "_law_once" = some (some (.ref fx_p_law_once)))
    (l_p_law_once : K.lookup fx_p_law_once = some ⟨oc_p_law_once, od_p_law_once, .func (PySem.W.fnOf "_law_once" "_law_once" (defArgs s_p_law_once) (defBody s_p_law_once) (defScope s_p_law_once) .none kV_p_law_once dc_p_law_once pm_p_law_once an_p_law_once cd_p_law_once ct_p_law_once), sl_p_law_once⟩)
    (d_p_law_once : PySem.W.codeIn K cd_p_law_once "_law_once" = true)
    (k_p_law_once : PySem.W.keepIn K (.ref fx_p_law_once) = true)
    (a_p_law_suite : PySem.W.nsIn K mainGlobals "_law_suite" = some (some (.ref fx_p_law_suite)))
    (l_p_law_suite : K.lookup fx_p_law_suite = some ⟨oc_p_law_suite, od_p_law_suite, .func (PySem.W.fnOf "_law_suite" "_law_suite" (defArgs s_p_law_suite) (defBody s_p_law_suite) (defScope s_p_law_suite) .none kV_p_law_suite dc_p_law_suite pm_p_law_suite an_p_law_suite cd_p_law_suite ct_p_law_suite), sl_p_law_suite⟩)
    (d_p_law_suite : PySem.W.codeIn K cd_p_law_suite "_law_suite" = true)
    (k_p_law_suite : PySem.W.keepIn K (.ref fx_p_law_suite) = true)
    (a_law : PySem.W.nsIn K mainGlobals "law" = some (some (.ref fx_law)))
    (l_law : K.lookup fx_law = some ⟨oc_law, od_law, .func (PySem.W.fnOf "law" "law" (defArgs s_law) (defBody s_law) (defScope s_law) .none kV_law dc_law pm_law an_law cd_law ct_law), sl_law⟩)
    (d_law : PySem.W.codeIn K cd_law "law" = true)
    (k_law : PySem.W.keepIn K (.ref fx_law) = true) :
    ∃ fd : FuncData, (∀ (s : Shared) (v : Value), BindsTo s fd ⟨[v], []⟩ [("script", v)]) ∧ ∀ base : Heap, K.In base → base.Ns mainGlobals mg → FnOk l.prog w K mg base CX0 6 fa fd ["script"] (spLaw K) := by
  have e := hfa.symm.trans (PySem.W.mg_of X G a_law)
  cases e
  have T : Facts K mg := { z_all := PySem.W.mg_none_of X G z_all, z_any := PySem.W.mg_none_of X G z_any, z_bool := PySem.W.mg_none_of X G z_bool, z_enumerate := PySem.W.mg_none_of X G z_enumerate, z_int := PySem.W.mg_none_of X G z_int, z_isinstance := PySem.W.mg_none_of X G z_isinstance, z_len := PySem.W.mg_none_of X G z_len, z_list := PySem.W.mg_none_of X G z_list, z_max := PySem.W.mg_none_of X G z_max, z_min := PySem.W.mg_none_of X G z_min, z_range := PySem.W.mg_none_of X G z_range, z_sorted := PySem.W.mg_none_of X G z_sorted, z_tuple := PySem.W.mg_none_of X G z_tuple, c_ALIKE := ⟨t_ALIKE, PySem.W.mg_of X G c_ALIKE⟩, c_LONGEST := ⟨t_LONGEST, PySem.W.mg_of X G c_LONGEST⟩, c_MOST_ANSWERS := ⟨t_MOST_ANSWERS, PySem.W.mg_of X G c_MOST_ANSWERS⟩, c_MOST_WORDS := ⟨t_MOST_WORDS, PySem.W.mg_of X G c_MOST_WORDS⟩, c_WORD := ⟨t_WORD, PySem.W.mg_of X G c_WORD⟩, g_is_integer := ⟨_, _, fun_mk (st := s_is_integer) l_is_integer d_is_integer k_is_integer, PySem.W.mg_of X G a_is_integer⟩, g_is_number := ⟨_, _, fun_mk (st := s_is_number) l_is_number d_is_number k_is_number, PySem.W.mg_of X G a_is_number⟩, g_is_ascending := ⟨_, _, fun_mk (st := s_is_ascending) l_is_ascending d_is_ascending k_is_ascending, PySem.W.mg_of X G a_is_ascending⟩, g_letters_of := ⟨_, _, fun_mk (st := s_letters_of) l_letters_of d_letters_of k_letters_of, PySem.W.mg_of X G a_letters_of⟩, g_answers_of := ⟨_, _, fun_mk (st := s_answers_of) l_answers_of d_answers_of k_answers_of, PySem.W.mg_of X G a_answers_of⟩, g_trial := ⟨_, _, fun_mk (st := s_trial) l_trial d_trial k_trial, PySem.W.mg_of X G a_trial⟩, g_ways := ⟨_, _, fun_mk (st := s_ways) l_ways d_ways k_ways, PySem.W.mg_of X G a_ways⟩, g_reached := ⟨_, _, fun_mk (st := s_reached) l_reached d_reached k_reached, PySem.W.mg_of X G a_reached⟩, g_way_to := ⟨_, _, fun_mk (st := s_way_to) l_way_to d_way_to k_way_to, PySem.W.mg_of X G a_way_to⟩, g_words_of := ⟨_, _, fun_mk (st := s_words_of) l_words_of d_words_of k_words_of, PySem.W.mg_of X G a_words_of⟩, g_is_word := ⟨_, _, fun_mk (st := s_is_word) l_is_word d_is_word k_is_word, PySem.W.mg_of X G a_is_word⟩, g_pair_paper := ⟨_, _, fun_mk (st := s_pair_paper) l_pair_paper d_pair_paper k_pair_paper, PySem.W.mg_of X G a_pair_paper⟩, g_are_alike := ⟨_, _, fun_mk (st := s_are_alike) l_are_alike d_are_alike k_are_alike, PySem.W.mg_of X G a_are_alike⟩, g_parting_word := ⟨_, _, fun_mk (st := s_parting_word) l_parting_word d_parting_word k_parting_word, PySem.W.mg_of X G a_parting_word⟩, g_are_same := ⟨_, _, fun_mk (st := s_are_same) l_are_same d_are_same k_are_same, PySem.W.mg_of X G a_are_same⟩, g_is_suite := ⟨_, _, fun_mk (st := s_is_suite) l_is_suite d_is_suite k_is_suite, PySem.W.mg_of X G a_is_suite⟩, g_passes := ⟨_, _, fun_mk (st := s_passes) l_passes d_passes k_passes, PySem.W.mg_of X G a_passes⟩, g_first_fail := ⟨_, _, fun_mk (st := s_first_fail) l_first_fail d_first_fail k_first_fail, PySem.W.mg_of X G a_first_fail⟩, g_cover_of := ⟨_, _, fun_mk (st := s_cover_of) l_cover_of d_cover_of k_cover_of, PySem.W.mg_of X G a_cover_of⟩, g_telling_set := ⟨_, _, fun_mk (st := s_telling_set) l_telling_set d_telling_set k_telling_set, PySem.W.mg_of X G a_telling_set⟩, g_full_suite := ⟨_, _, fun_mk (st := s_full_suite) l_full_suite d_full_suite k_full_suite, PySem.W.mg_of X G a_full_suite⟩, g_is_longer := ⟨_, _, fun_mk (st := s_is_longer) l_is_longer d_is_longer k_is_longer, PySem.W.mg_of X G a_is_longer⟩, g_trimmed := ⟨_, _, fun_mk (st := s_trimmed) l_trimmed d_trimmed k_trimmed, PySem.W.mg_of X G a_trimmed⟩, g_with_slip := ⟨_, _, fun_mk (st := s_with_slip) l_with_slip d_with_slip k_with_slip, PySem.W.mg_of X G a_with_slip⟩, g_slips_of := ⟨_, _, fun_mk (st := s_slips_of) l_slips_of d_slips_of k_slips_of, PySem.W.mg_of X G a_slips_of⟩, g_untold_slips := ⟨_, _, fun_mk (st := s_untold_slips) l_untold_slips d_untold_slips k_untold_slips, PySem.W.mg_of X G a_untold_slips⟩, g_p_law_cell := ⟨_, _, fun_mk (st := s_p_law_cell) l_p_law_cell d_p_law_cell k_p_law_cell, PySem.W.mg_of X G a_p_law_cell⟩, g_p_law_numbers := ⟨_, _, fun_mk (st := s_p_law_numbers) l_p_law_numbers d_p_law_numbers k_p_law_numbers, PySem.W.mg_of X G a_p_law_numbers⟩, g_p_law_pool := ⟨_, _, fun_mk (st := s_p_law_pool) l_p_law_pool d_p_law_pool k_p_law_pool, PySem.W.mg_of X G a_p_law_pool⟩, g_p_law_draw := ⟨_, _, fun_mk (st := s_p_law_draw) l_p_law_draw d_p_law_draw k_p_law_draw, PySem.W.mg_of X G a_p_law_draw⟩, g_p_law_is := ⟨_, _, fun_mk (st := s_p_law_is) l_p_law_is d_p_law_is k_p_law_is, PySem.W.mg_of X G a_p_law_is⟩, g_p_law_table := ⟨_, _, fun_mk (st := s_p_law_table) l_p_law_table d_p_law_table k_p_law_table, PySem.W.mg_of X G a_p_law_table⟩, g_p_law_doubled := ⟨_, _, fun_mk (st := s_p_law_doubled) l_p_law_doubled d_p_law_doubled k_p_law_doubled, PySem.W.mg_of X G a_p_law_doubled⟩, g_p_law_machine := ⟨_, _, fun_mk (st := s_p_law_machine) l_p_law_machine d_p_law_machine k_p_law_machine, PySem.W.mg_of X G a_p_law_machine⟩, g_p_law_changed := ⟨_, _, fun_mk (st := s_p_law_changed) l_p_law_changed d_p_law_changed k_p_law_changed, PySem.W.mg_of X G a_p_law_changed⟩, g_p_law_word := ⟨_, _, fun_mk (st := s_p_law_word) l_p_law_word d_p_law_word k_p_law_word, PySem.W.mg_of X G a_p_law_word⟩, g_p_law_once := ⟨_, _, fun_mk (st := s_p_law_once) l_p_law_once d_p_law_once k_p_law_once, PySem.W.mg_of X G a_p_law_once⟩, g_p_law_suite := ⟨_, _, fun_mk (st := s_p_law_suite) l_p_law_suite d_p_law_suite k_p_law_suite, PySem.W.mg_of X G a_p_law_suite⟩, g_law := ⟨_, _, fun_mk (st := s_law) l_law d_law k_law, PySem.W.mg_of X G a_law⟩ }
  exact ⟨_, fun s v => .of_eq rfl, fun base _ _ => (okL T (fun_mk (st := s_law) l_law d_law k_law)).imp fun vs H Q E h => by obtain ⟨a, ns, rfl, hS, hl, q⟩ := h; exact law_end (lt ns hl) hS q⟩
end K43
namespace K43
open TB PySem
open L2 (atI ixN)

/-! ### machines and words -/
abbrev Mach := List (List (Nat × Nat))
def eI (n : Nat) : D := .int n
def eS (p : Nat × Nat) : D := .tup [eI p.1, eI p.2]
def eR (r : List (Nat × Nat)) : D := .tup (r.map eS)
def eM (m : Mach) : D := .tup (m.map eR)
def eW (w : List Nat) : D := .tup (w.map eI)
theorem nr_I (n : Nat) : (eI n).nr = true := rfl
theorem nrA_map {α : Type} {f : α → D} (hf : ∀ x, (f x).nr = true) : ∀ l : List α, nrA (l.map f) = true
  | [] => rfl
  | x :: l => by simp only [List.map_cons, nrA, hf x, nrA_map hf l, Bool.and_self]
theorem nr_S (p : Nat × Nat) : (eS p).nr = true := rfl
theorem nr_R (r) : (eR r).nr = true := nrA_map nr_S r
theorem nr_M (m) : (eM m).nr = true := nrA_map nr_R m
theorem nr_W (w) : (eW w).nr = true := nrA_map nr_I w
theorem fitA_map {α : Type} {f : α → D} {n : Nat} (hf : ∀ x, (f x).fit n = true) : ∀ l : List α, fitA (l.map f) n = true
  | [] => rfl
  | x :: l => by simp only [List.map_cons, fitA, hf x, fitA_map hf l, Bool.and_self]
theorem fit_I (n k : Nat) : (eI n).fit k = true := by unfold eI D.fit; rfl
theorem fit_S (p : Nat × Nat) (k : Nat) : (eS p).fit (k + 1) = true := by simp only [eS, D.fit, fitA, fit_I, Bool.and_self]
theorem fit_R (r) (k : Nat) : (eR r).fit (k + 2) = true := by simp only [eR, D.fit]; exact fitA_map (fun p => fit_S p k) r
theorem fit_M (m) (k : Nat) : (eM m).fit (k + 3) = true := by simp only [eM, D.fit]; exact fitA_map (fun p => fit_R p k) m
theorem fit_W (w) (k : Nat) : (eW w).fit (k + 1) = true := by simp only [eW, D.fit]; exact fitA_map (fun p => fit_I p k) w
theorem eqv_I (a b : Nat) : (eI a).eqv (eI b) = decide (a = b) := by
  simp only [eI, D.eqv]
  by_cases h : a = b
  · subst h; simp
  · have : ¬ ((a : Int) = b) := by omega
    simp [h, this]
theorem eqvA_map {α : Type} [DecidableEq α] {f : α → D} (hf : ∀ x y, (f x).eqv (f y) = decide (x = y)) : ∀ l l' : List α, eqvA (l.map f) (l'.map f) = decide (l = l')
  | [], [] => rfl
  | [], _ :: _ => by simp [eqvA]
  | _ :: _, [] => by simp [eqvA]
  | x :: l, y :: l' => by
    simp only [List.map_cons, eqvA, hf x y, eqvA_map hf l l', List.cons.injEq]
    by_cases h : x = y <;> by_cases h2 : l = l' <;> simp [h, h2]
theorem eqv_W (v w : List Nat) : (eW v).eqv (eW w) = decide (v = w) := by simp only [eW, D.eqv]; exact eqvA_map eqv_I v w
theorem eqv_S (p q : Nat × Nat) : (eS p).eqv (eS q) = decide (p = q) := by
  obtain ⟨a, b⟩ := p
  obtain ⟨c, d⟩ := q
  simp only [eS, D.eqv, eqvA, eqv_I, Prod.mk.injEq]
  by_cases h : a = c <;> by_cases h2 : b = d <;> simp [h, h2]
theorem eqv_R (v w : List (Nat × Nat)) : (eR v).eqv (eR w) = decide (v = w) := by simp only [eR, D.eqv]; exact eqvA_map eqv_S v w
theorem eqv_M (v w : Mach) : (eM v).eqv (eM w) = decide (v = w) := by simp only [eM, D.eqv]; exact eqvA_map eqv_R v w
theorem atI_map {α : Type} {f : α → D} (l : List α) (i : Nat) : atI (l.map f) (i : Int) = (l[i]?).map f := by
  unfold atI ixN
  rw [if_pos (by omega)]
  by_cases h : i < l.length
  · have : (i : Int) < (l.map f).length := by simp; omega
    rw [if_pos this]
    simp
  · have : ¬ (i : Int) < (l.map f).length := by simp; omega
    rw [if_neg this]
    rw [List.getElem?_eq_none (by omega)]
    rfl
/-- letters, states -/
structure OK (k : Nat) (m : Mach) : Prop where
  pos : 0 < k
  k3 : k ≤ 3
  ne : m ≠ []
  le : m.length ≤ 6
  row : ∀ r ∈ m, r.length = k
  goal : ∀ r ∈ m, ∀ p ∈ r, p.2 < m.length
  ans : ∀ r ∈ m, ∀ p ∈ r, p.1 < 3
def step (m : Mach) (s l : Nat) : Nat × Nat := ((m[s]?.getD [])[l]?).getD (0, 0)
def ans (m : Mach) : Nat → List Nat → List Nat
  | _, [] => []
  | s, l :: w => (step m s l).1 :: ans m (step m s l).2 w
def goal (m : Mach) : Nat → List Nat → Nat
  | s, [] => s
  | s, l :: w => goal m (step m s l).2 w
def Word (k : Nat) (w : List Nat) : Prop := ∀ l ∈ w, l < k
theorem is_integer_int (i : Int) : f_is_integer [.int i] = some (.bl true) := by rfl
theorem is_number_int (i a b : Int) : f_is_number [.int i, .int a, .int b] = some (.bl (decide (a ≤ i) && decide (i ≤ b))) := by
  unfold f_is_number b_is_number
  simp only [callP, nrA, nr_M, nr_W, nr_I, nr_S, nr_R, Bool.and_self, Bool.true_and, Bool.and_true, D.nr, runP, runB, start0, sSeq, sRet, sAsg, sIf, sNil, sExpr, eVar, eC, bin2, un1, eNot, eAnd, eOr, eIf, eArgs, aNil, aCons, mkTup, mkLst, gN, gT, gCons, gNil, viewT, viewL, viewQ, eIsi, tyD, subTy, eChain, ltI_i, leI_i, gtI_i, geI_i, subD_i, addD_i, List.map_cons, List.map_nil, List.length_cons, List.length_nil, List.replicate, List.cons_append, List.nil_append, List.append_nil, List.getElem?_cons_zero, List.getElem?_cons_succ, List.set_cons_zero, List.set_cons_succ, Nat.zero_add, Nat.add_zero, Nat.reduceAdd, Nat.reduceSub, if_true, if_false, ownArgs, sFor, iSeq, szl0, szl1, szl2, szl3, szl4, szl5, Nat.zero_le, Nat.reduceLeDiff, ↓reduceIte, callP_nr (show nrA [D.int i] = true from rfl), is_integer_int]
  cases decide (a ≤ i) <;> rfl
theorem letters_of_eq {m : Mach} {r : List (Nat × Nat)} (h : m[0]? = some r) : f_letters_of [eM m] = some (eI r.length) := by
  unfold f_letters_of b_letters_of
  have e : atI (m.map eR) 0 = some (eR r) := by
    have := atI_map (f := eR) m 0
    rw [h] at this
    exact this
  simp only [callP, nrA, nr_M, nr_W, nr_I, nr_S, nr_R, Bool.and_self, Bool.true_and, Bool.and_true, D.nr, runP, runB, start0, sSeq, sRet, sAsg, sIf, sNil, sExpr, eVar, eC, bin2, un1, eNot, eAnd, eOr, eIf, eArgs, aNil, aCons, mkTup, mkLst, gN, gT, gCons, gNil, viewT, viewL, viewQ, eIsi, tyD, subTy, eChain, ltI_i, leI_i, gtI_i, geI_i, subD_i, addD_i, List.map_cons, List.map_nil, List.length_cons, List.length_nil, List.replicate, List.cons_append, List.nil_append, List.append_nil, List.getElem?_cons_zero, List.getElem?_cons_succ, List.set_cons_zero, List.set_cons_succ, Nat.zero_add, Nat.add_zero, Nat.reduceAdd, Nat.reduceSub, if_true, if_false, ownArgs, sFor, iSeq, szl0, szl1, szl2, szl3, szl4, szl5, Nat.zero_le, Nat.reduceLeDiff, ↓reduceIte, ixD, orOp, ixS, eM, e, lenS, eR, List.length_map]
  rfl
end K43
namespace K43
open TB PySem
open L2 (atI ixN)

theorem step_at {k : Nat} {m : Mach} (ok : OK k m) {s l : Nat} (hs : s < m.length) (hl : l < k) : ∃ r p, m[s]? = some r ∧ r[l]? = some p ∧ step m s l = p ∧ p.2 < m.length ∧ p.1 < 3 ∧ r ∈ m ∧ p ∈ r := by
  have h1 := ok.row m[s] (List.getElem_mem hs)
  have h2 : l < m[s].length := by omega
  refine ⟨m[s], m[s][l], List.getElem?_eq_getElem hs, List.getElem?_eq_getElem h2, ?_, ok.goal _ (List.getElem_mem hs) _ (List.getElem_mem h2), ok.ans _ (List.getElem_mem hs) _ (List.getElem_mem h2), List.getElem_mem hs, List.getElem_mem h2⟩
  unfold step
  rw [List.getElem?_eq_getElem hs]
  simp only [Option.getD_some]
  rw [List.getElem?_eq_getElem h2]
  rfl
theorem ans_len (m : Mach) : ∀ (w : List Nat) (s : Nat), (ans m s w).length = w.length
  | [], _ => rfl
  | l :: w, s => by simp only [ans, List.length_cons, ans_len m w]
theorem ans_app (m : Mach) : ∀ (v w : List Nat) (s : Nat), ans m s (v ++ w) = ans m s v ++ ans m (goal m s v) w
  | [], _, _ => rfl
  | l :: v, w, s => by simp only [List.cons_append, ans, goal, ans_app m v w]
theorem goal_app (m : Mach) : ∀ (v w : List Nat) (s : Nat), goal m s (v ++ w) = goal m (goal m s v) w
  | [], _, _ => rfl
  | l :: v, w, s => by simp only [List.cons_append, goal, goal_app m v w]
theorem goal_lt {k : Nat} {m : Mach} (ok : OK k m) : ∀ (w : List Nat) (s : Nat), s < m.length → Word k w → goal m s w < m.length
  | [], _, hs, _ => hs
  | l :: w, s, hs, hw => by
    obtain ⟨r, p, _, _, e, h, _⟩ := step_at ok hs (hw l List.mem_cons_self)
    simp only [goal]
    exact goal_lt ok w _ (by rw [e]; exact h) fun x hx => hw x (List.mem_cons_of_mem _ hx)
/-- machine[state] -/
theorem ix_M {m : Mach} {s : Nat} {r : List (Nat × Nat)} {h : Hs} (e : m[s]? = some r) : ixD h (eM m) (eI s) = some (eR r) := by
  have z := atI_map (f := eR) m s
  rw [e] at z
  simp only [ixD, orOp, ixS, eM, viewQ, eI, z, Option.map_some]
theorem ix_R {r : List (Nat × Nat)} {l : Nat} {p : Nat × Nat} {h : Hs} (e : r[l]? = some p) : ixD h (eR r) (eI l) = some (eS p) := by
  have z := atI_map (f := eS) r l
  rw [e] at z
  simp only [ixD, orOp, ixS, eR, viewQ, eI, z, Option.map_some]
theorem answers_of_eq {k : Nat} {m : Mach} (ok : OK k m) {s : Nat} (hs : s < m.length) {w : List Nat} (hw : Word k w) (hz : w.length ≤ 100000) : f_answers_of [eM m, eI s, eW w] = some (eW (ans m s w)) := by
  have key : ∃ o, b_answers_of [some (eM m), some (eI s), some (eW w), none, none, none] [] = some o ∧ ∃ h, o = .rt (eW (ans m s w)) h := by
    unfold b_answers_of
    simp only [callP, nrA, nr_M, nr_W, nr_I, nr_S, nr_R, Bool.and_self, Bool.true_and, Bool.and_true, D.nr, runP, runB, start0, sSeq, sRet, sAsg, sIf, sNil, sExpr, eVar, eC, bin2, un1, eNot, eAnd, eOr, eIf, eArgs, aNil, aCons, mkTup, mkLst, gN, gT, gCons, gNil, viewT, viewL, viewQ, eIsi, tyD, subTy, eChain, ltI_i, leI_i, gtI_i, geI_i, subD_i, addD_i, List.map_cons, List.map_nil, List.length_cons, List.length_nil, List.replicate, List.cons_append, List.nil_append, List.append_nil, List.getElem?_cons_zero, List.getElem?_cons_succ, List.set_cons_zero, List.set_cons_succ, Nat.zero_add, Nat.add_zero, Nat.reduceAdd, Nat.reduceSub, if_true, if_false, ownArgs, sFor, iSeq, szl0, szl1, szl2, szl3, szl4, szl5, Nat.zero_le, Nat.reduceLeDiff, ↓reduceIte, eW]
    obtain ⟨o, e, q⟩ := forL_inv (xs := w.map eI) (gt := gN 4) (fb := (sSeq (sAsg (bin2 (bin2 (eVar 0) (eVar 1) ixD) (eVar 4) ixD) (gT 2 (gCons (gN 5) (gCons (gN 1) gNil)))) (sSeq (sExpr (eMeth (eVar 3) (aCons (eVar 5) aNil) appM)) sNil)))
      (σ := [some (eM m), some (eI s), some (.tup (w.map eI)), some (.ref 0), none, none]) (h := [.lst []])
      (Q := fun o => ∃ a b c, o = .nx [some (eM m), some (eI a), some (.tup (w.map eI)), some (.ref 0), b, c] [.lst ((ans m s w).map eI)])
      (fun ys zs σ h => ∃ v u b c, w = v ++ u ∧ ys = v.map eI ∧ zs = u.map eI ∧ σ = [some (eM m), some (eI (goal m s v)), some (.tup (w.map eI)), some (.ref 0), b, c] ∧ h = [.lst ((ans m s v).map eI)])
      (fun ys d zs σ h _ ⟨v, u, b, c, ew, ey, ez, eσ, eh⟩ => by
        cases u with
        | nil => simp at ez
        | cons l u =>
          simp only [List.map_cons, List.cons.injEq] at ez
          obtain ⟨rfl, rfl⟩ := ez
          subst eσ eh ey
          have hv : Word k v := fun x hx => hw x (by rw [ew]; exact List.mem_append_left _ hx)
          have hl : l < k := hw l (by rw [ew]; simp)
          obtain ⟨r, p, e1, e2, e3, e4, _⟩ := step_at ok (goal_lt ok v s hs hv) hl
          refine ⟨_, _, rfl, ?_⟩
          simp only [callP, nrA, nr_M, nr_W, nr_I, nr_S, nr_R, Bool.and_self, Bool.true_and, Bool.and_true, D.nr, runP, runB, start0, sSeq, sRet, sAsg, sIf, sNil, sExpr, eVar, eC, bin2, un1, eNot, eAnd, eOr, eIf, eArgs, aNil, aCons, mkTup, mkLst, gN, gT, gCons, gNil, viewT, viewL, viewQ, eIsi, tyD, subTy, eChain, ltI_i, leI_i, gtI_i, geI_i, subD_i, addD_i, List.map_cons, List.map_nil, List.length_cons, List.length_nil, List.replicate, List.cons_append, List.nil_append, List.append_nil, List.getElem?_cons_zero, List.getElem?_cons_succ, List.set_cons_zero, List.set_cons_succ, Nat.zero_add, Nat.add_zero, Nat.reduceAdd, Nat.reduceSub, if_true, if_false, ownArgs, sFor, iSeq, szl0, szl1, szl2, szl3, szl4, szl5, Nat.zero_le, Nat.reduceLeDiff, ↓reduceIte, ix_M e1, ix_R e2]
          simp only [eS, callP, nrA, nr_M, nr_W, nr_I, nr_S, nr_R, Bool.and_self, Bool.true_and, Bool.and_true, D.nr, runP, runB, start0, sSeq, sRet, sAsg, sIf, sNil, sExpr, eVar, eC, bin2, un1, eNot, eAnd, eOr, eIf, eArgs, aNil, aCons, mkTup, mkLst, gN, gT, gCons, gNil, viewT, viewL, viewQ, eIsi, tyD, subTy, eChain, ltI_i, leI_i, gtI_i, geI_i, subD_i, addD_i, List.map_cons, List.map_nil, List.length_cons, List.length_nil, List.replicate, List.cons_append, List.nil_append, List.append_nil, List.getElem?_cons_zero, List.getElem?_cons_succ, List.set_cons_zero, List.set_cons_succ, Nat.zero_add, Nat.add_zero, Nat.reduceAdd, Nat.reduceSub, if_true, if_false, ownArgs, sFor, iSeq, szl0, szl1, szl2, szl3, szl4, szl5, Nat.zero_le, Nat.reduceLeDiff, ↓reduceIte, eMeth, appM]
          have hz' : (List.map eI (ans m s v)).length < szL := by
            have : v.length ≤ w.length := by rw [ew]; simp
            exact lt_szL (by rw [List.length_map, ans_len]; omega)
          simp only [if_pos hz']
          refine ⟨_, rfl, v ++ [l], u, some (eI l), some (eI p.1), by rw [ew]; simp, by simp, rfl, ?_, ?_⟩
          · rw [goal_app]
            simp only [goal, e3]
          · rw [ans_app]
            simp only [ans, e3, List.map_append, List.map_cons, List.map_nil, List.set_cons_zero])
      (fun σ h ⟨v, u, b, c, ew, ey, ez, eσ, eh⟩ => by
        have : u = [] := by simpa using ez.symm
        subst this
        rw [List.append_nil] at ew
        subst ew
        exact ⟨_, _, _, by rw [eσ, eh]⟩)
      ⟨[], w, _, _, rfl, rfl, rfl, rfl, rfl⟩
    obtain ⟨a, b, c, rfl⟩ := q
    rw [e]
    simp only [callP, nrA, nr_M, nr_W, nr_I, nr_S, nr_R, Bool.and_self, Bool.true_and, Bool.and_true, D.nr, runP, runB, start0, sSeq, sRet, sAsg, sIf, sNil, sExpr, eVar, eC, bin2, un1, eNot, eAnd, eOr, eIf, eArgs, aNil, aCons, mkTup, mkLst, gN, gT, gCons, gNil, viewT, viewL, viewQ, eIsi, tyD, subTy, eChain, ltI_i, leI_i, gtI_i, geI_i, subD_i, addD_i, List.map_cons, List.map_nil, List.length_cons, List.length_nil, List.replicate, List.cons_append, List.nil_append, List.append_nil, List.getElem?_cons_zero, List.getElem?_cons_succ, List.set_cons_zero, List.set_cons_succ, Nat.zero_add, Nat.add_zero, Nat.reduceAdd, Nat.reduceSub, if_true, if_false, ownArgs, sFor, iSeq, szl0, szl1, szl2, szl3, szl4, szl5, Nat.zero_le, Nat.reduceLeDiff, ↓reduceIte, tupS]
    exact ⟨_, rfl, _, rfl⟩
  obtain ⟨o, e, h, rfl⟩ := key
  exact runP_rt rfl e (fz_nr (nr_W _))
end K43
namespace K43
open TB PySem
open L2 (atI ixN)

theorem eq_W (h : Hs) (v w : List Nat) : eqD h (eW v) (eW w) = some (.bl (decide (v = w))) := by
  unfold eqD
  rw [fit_W v 59, fit_W w 59, eqv_W]
  rfl
theorem ne_W (h : Hs) (v w : List Nat) : neD h (eW v) (eW w) = some (.bl (!decide (v = w))) := by
  unfold neD
  rw [fit_W v 59, fit_W w 59, eqv_W]
  rfl
theorem eq_I (h : Hs) (v w : Nat) : eqD h (eI v) (eI w) = some (.bl (decide (v = w))) := by
  unfold eqD
  rw [fit_I v 60, fit_I w 60, eqv_I]
  rfl
theorem ne_I (h : Hs) (v w : Nat) : neD h (eI v) (eI w) = some (.bl (!decide (v = w))) := by
  unfold neD
  rw [fit_I v 60, fit_I w 60, eqv_I]
  rfl
def eP (l : List (List Nat)) : D := .tup (l.map eW)
theorem nr_P (l) : (eP l).nr = true := nrA_map nr_W l
structure Wd (k : Nat) (w : List Nat) : Prop where
  a : Word k w
  z : w.length ≤ 1000
theorem trial_eq {k : Nat} {m : Mach} (ok : OK k m) {w : List Nat} (hw : Wd k w) : f_trial [eM m, eW w] = some (eW (ans m 0 w)) := by
  have hs : 0 < m.length := List.length_pos_iff.mpr ok.ne
  have e := answers_of_eq ok hs hw.a (Nat.le_trans hw.z (by omega))
  have key : b_trial [some (eM m), some (eW w)] [] = some (.rt (eW (ans m 0 w)) []) := by
    unfold b_trial
    simp only [callP, nrA, nr_M, nr_W, nr_I, nr_S, nr_R, Bool.and_self, Bool.true_and, Bool.and_true, D.nr, runP, runB, start0, sSeq, sRet, sAsg, sIf, sNil, sExpr, eVar, eC, bin2, un1, eNot, eAnd, eOr, eIf, eArgs, aNil, aCons, mkTup, mkLst, gN, gT, gCons, gNil, viewT, viewL, viewQ, eIsi, tyD, subTy, eChain, ltI_i, leI_i, gtI_i, geI_i, subD_i, addD_i, List.map_cons, List.map_nil, List.length_cons, List.length_nil, List.replicate, List.cons_append, List.nil_append, List.append_nil, List.getElem?_cons_zero, List.getElem?_cons_succ, List.set_cons_zero, List.set_cons_succ, Nat.zero_add, Nat.add_zero, Nat.reduceAdd, Nat.reduceSub, if_true, if_false, ownArgs, sFor, iSeq, szl0, szl1, szl2, szl3, szl4, szl5, Nat.zero_le, Nat.reduceLeDiff, ↓reduceIte]
    have e' : f_answers_of [eM m, D.int 0, eW w] = _ := e
    simp only [e']
  exact runP_rt rfl key (fz_nr (nr_W _))
theorem bools_map {α : Type} {f : α → Bool} : ∀ l : List α, bools (l.map fun x => D.bl (f x)) = some (l.map f)
  | [] => rfl
  | x :: l => by simp only [List.map_cons, bools, bools_map l]
theorem passes_eq {k : Nat} {m m' : Mach} (ok : OK k m) (ok' : OK k m') {l : List (List Nat)} (hl : ∀ w ∈ l, Wd k w) : f_passes [eM m, eP l, eM m'] = some (.bl (l.all fun w => decide (ans m 0 w = ans m' 0 w))) := by
  have key : b_passes [some (eM m), some (eP l), some (eM m'), none] [] = some (.rt (.bl (l.all fun w => decide (ans m 0 w = ans m' 0 w))) []) := by
    unfold b_passes
    simp only [callP, nrA, nr_M, nr_W, nr_I, nr_S, nr_R, Bool.and_self, Bool.true_and, Bool.and_true, D.nr, runP, runB, start0, sSeq, sRet, sAsg, sIf, sNil, sExpr, eVar, eC, bin2, un1, eNot, eAnd, eOr, eIf, eArgs, aNil, aCons, mkTup, mkLst, gN, gT, gCons, gNil, viewT, viewL, viewQ, eIsi, tyD, subTy, eChain, ltI_i, leI_i, gtI_i, geI_i, subD_i, addD_i, List.map_cons, List.map_nil, List.length_cons, List.length_nil, List.replicate, List.cons_append, List.nil_append, List.append_nil, List.getElem?_cons_zero, List.getElem?_cons_succ, List.set_cons_zero, List.set_cons_succ, Nat.zero_add, Nat.add_zero, Nat.reduceAdd, Nat.reduceSub, if_true, if_false, ownArgs, sFor, iSeq, szl0, szl1, szl2, szl3, szl4, szl5, Nat.zero_le, Nat.reduceLeDiff, ↓reduceIte, eP, eLc]
    rw [lcM_eval (p := fun _ => true) (f := fun w => .bl (decide (ans m 0 w = ans m' 0 w))) fun w hw => ⟨[some (eM m), some (.tup (l.map eW)), some (eM m'), some (eW w)], rfl, rfl, fun _ => by
        simp only [callP, nrA, nr_M, nr_W, nr_I, nr_S, nr_R, Bool.and_self, Bool.true_and, Bool.and_true, D.nr, runP, runB, start0, sSeq, sRet, sAsg, sIf, sNil, sExpr, eVar, eC, bin2, un1, eNot, eAnd, eOr, eIf, eArgs, aNil, aCons, mkTup, mkLst, gN, gT, gCons, gNil, viewT, viewL, viewQ, eIsi, tyD, subTy, eChain, ltI_i, leI_i, gtI_i, geI_i, subD_i, addD_i, List.map_cons, List.map_nil, List.length_cons, List.length_nil, List.replicate, List.cons_append, List.nil_append, List.append_nil, List.getElem?_cons_zero, List.getElem?_cons_succ, List.set_cons_zero, List.set_cons_succ, Nat.zero_add, Nat.add_zero, Nat.reduceAdd, Nat.reduceSub, if_true, if_false, ownArgs, sFor, iSeq, szl0, szl1, szl2, szl3, szl4, szl5, Nat.zero_le, Nat.reduceLeDiff, ↓reduceIte, trial_eq ok (hl w hw), trial_eq ok' (hl w hw), eq_W]⟩]
    simp only [filter_tt, allS, viewL, bools_map]
    rw [List.all_map]
    rfl
  exact runP_rt rfl key (fz_nr rfl)

/-! ### words, suites -/
theorem is_word_eq {k : Nat} (h3 : 0 < k) {w : List Nat} (hw : Wd k w) : f_is_word [eI k, eW w] = some (.bl true) := by
  have key : b_is_word [some (eI k), some (eW w), none] [] = some (.rt (.bl true) []) := by
    unfold b_is_word
    simp only [callP, nrA, nr_M, nr_W, nr_I, nr_S, nr_R, Bool.and_self, Bool.true_and, Bool.and_true, D.nr, runP, runB, start0, sSeq, sRet, sAsg, sIf, sNil, sExpr, eVar, eC, bin2, un1, eNot, eAnd, eOr, eIf, eArgs, aNil, aCons, mkTup, mkLst, gN, gT, gCons, gNil, viewT, viewL, viewQ, eIsi, tyD, subTy, eChain, ltI_i, leI_i, gtI_i, geI_i, subD_i, addD_i, List.map_cons, List.map_nil, List.length_cons, List.length_nil, List.replicate, List.cons_append, List.nil_append, List.append_nil, List.getElem?_cons_zero, List.getElem?_cons_succ, List.set_cons_zero, List.set_cons_succ, Nat.zero_add, Nat.add_zero, Nat.reduceAdd, Nat.reduceSub, if_true, if_false, ownArgs, sFor, iSeq, szl0, szl1, szl2, szl3, szl4, szl5, Nat.zero_le, Nat.reduceLeDiff, ↓reduceIte, eW, eLc, beq_self_eq_true, Bool.true_or]
    rw [lcM_eval (p := fun _ => true) (f := fun x => .bl true) fun x hx => ⟨[some (eI k), some (.tup (w.map eI)), some (eI x)], rfl, rfl, fun _ => by
        have hk : x < k := hw.a x hx
        simp only [callP, nrA, nr_M, nr_W, nr_I, nr_S, nr_R, Bool.and_self, Bool.true_and, Bool.and_true, D.nr, runP, runB, start0, sSeq, sRet, sAsg, sIf, sNil, sExpr, eVar, eC, bin2, un1, eNot, eAnd, eOr, eIf, eArgs, aNil, aCons, mkTup, mkLst, gN, gT, gCons, gNil, viewT, viewL, viewQ, eIsi, tyD, subTy, eChain, ltI_i, leI_i, gtI_i, geI_i, subD_i, addD_i, List.map_cons, List.map_nil, List.length_cons, List.length_nil, List.replicate, List.cons_append, List.nil_append, List.append_nil, List.getElem?_cons_zero, List.getElem?_cons_succ, List.set_cons_zero, List.set_cons_succ, Nat.zero_add, Nat.add_zero, Nat.reduceAdd, Nat.reduceSub, if_true, if_false, ownArgs, sFor, iSeq, szl0, szl1, szl2, szl3, szl4, szl5, Nat.zero_le, Nat.reduceLeDiff, ↓reduceIte, eI, is_number_int]
        rw [decide_eq_true (by omega), decide_eq_true (by omega)]
        rfl⟩]
    simp only [filter_tt, allS, viewL, bools_map (f := fun _ : Nat => true)]
    rw [List.all_map]
    have : (w.all (id ∘ fun _ => true)) = true := List.all_eq_true.mpr fun _ _ => rfl
    rw [this]
  exact runP_rt rfl key (fz_nr rfl)
end K43
namespace K43
open TB PySem
open L2 (atI ixN)

theorem cut_take {α : Type} {f : α → D} (l : List α) (n : Nat) : cutD (l.map f) none (some (n : Int)) = (l.take n).map f := by
  unfold cutD
  rw [HT.sIx_none, HT.sIx_nat]
  rw [List.drop_zero, Nat.sub_zero, ← List.map_take, List.length_map]
  congr 1
  by_cases h : n ≤ l.length
  · rw [Nat.min_eq_left h]
  · rw [Nat.min_eq_right (by omega), List.take_of_length_le (Nat.le_refl _), List.take_of_length_le (by omega)]
theorem cut_drop {α : Type} {f : α → D} (l : List α) (n : Nat) : cutD (l.map f) (some (n : Int)) none = (l.drop n).map f := by
  unfold cutD
  rw [HT.sIx_none, HT.sIx_nat, List.length_map, ← List.map_drop]
  by_cases h : n ≤ l.length
  · rw [Nat.min_eq_left h, ← List.map_take]
    congr 1
    rw [List.take_of_length_le (by rw [List.length_drop]; omega)]
  · rw [Nat.min_eq_right (by omega), List.drop_of_length_le (Nat.le_refl _), List.drop_of_length_le (by omega)]
    simp
def longer (v w : List Nat) : Bool := decide (v.length < w.length) && decide (w.take v.length = v)
theorem is_longer_eq (v w : List Nat) : f_is_longer [eW v, eW w] = some (.bl (longer v w)) := by
  have key : b_is_longer [some (eW v), some (eW w)] [] = some (.rt (.bl (longer v w)) []) := by
    unfold b_is_longer
    simp only [callP, nrA, nr_M, nr_W, nr_I, nr_S, nr_R, Bool.and_self, Bool.true_and, Bool.and_true, D.nr, runP, runB, start0, sSeq, sRet, sAsg, sIf, sNil, sExpr, eVar, eC, bin2, un1, eNot, eAnd, eOr, eIf, eArgs, aNil, aCons, mkTup, mkLst, gN, gT, gCons, gNil, viewT, viewL, viewQ, eIsi, tyD, subTy, eChain, ltI_i, leI_i, gtI_i, geI_i, subD_i, addD_i, List.map_cons, List.map_nil, List.length_cons, List.length_nil, List.replicate, List.cons_append, List.nil_append, List.append_nil, List.getElem?_cons_zero, List.getElem?_cons_succ, List.set_cons_zero, List.set_cons_succ, Nat.zero_add, Nat.add_zero, Nat.reduceAdd, Nat.reduceSub, if_true, if_false, ownArgs, sFor, iSeq, szl0, szl1, szl2, szl3, szl4, szl5, Nat.zero_le, Nat.reduceLeDiff, ↓reduceIte, eSl, oNone, oSome]
    have e1 : ∀ h : Hs, lenS h [eW v] = some (.int v.length) := fun h => by simp only [eW, lenS, viewQ, List.length_map]
    have e2 : ∀ h : Hs, lenS h [eW w] = some (.int w.length) := fun h => by simp only [eW, lenS, viewQ, List.length_map]
    simp only [e1, e2, callP, nrA, nr_M, nr_W, nr_I, nr_S, nr_R, Bool.and_self, Bool.true_and, Bool.and_true, D.nr, runP, runB, start0, sSeq, sRet, sAsg, sIf, sNil, sExpr, eVar, eC, bin2, un1, eNot, eAnd, eOr, eIf, eArgs, aNil, aCons, mkTup, mkLst, gN, gT, gCons, gNil, viewT, viewL, viewQ, eIsi, tyD, subTy, eChain, ltI_i, leI_i, gtI_i, geI_i, subD_i, addD_i, List.map_cons, List.map_nil, List.length_cons, List.length_nil, List.replicate, List.cons_append, List.nil_append, List.append_nil, List.getElem?_cons_zero, List.getElem?_cons_succ, List.set_cons_zero, List.set_cons_succ, Nat.zero_add, Nat.add_zero, Nat.reduceAdd, Nat.reduceSub, if_true, if_false, ownArgs, sFor, iSeq, szl0, szl1, szl2, szl3, szl4, szl5, Nat.zero_le, Nat.reduceLeDiff, ↓reduceIte]
    have e4 : ∀ h : Hs, eqD h (.tup ((w.take v.length).map eI)) (eW v) = some (.bl (decide (w.take v.length = v))) := fun h => eq_W h _ _
    have e5 : decide ((v.length : Int) < (w.length : Int)) = decide (v.length < w.length) := by
      by_cases h : v.length < w.length
      · rw [decide_eq_true h, decide_eq_true (by omega)]
      · rw [decide_eq_false h, decide_eq_false (by omega)]
    rw [e5]
    unfold longer
    cases decide (v.length < w.length) with
    | false => rfl
    | true =>
      simp only [eW, viewT, cut_take]
      have e6 := e4 []
      simp only [eW] at e6
      simp only [e6]
      rfl
  exact runP_rt rfl key (fz_nr rfl)
def trim (l : List (List Nat)) : List (List Nat) := l.filter fun w => !(l.any fun o => longer w o)
theorem trimmed_eq (l : List (List Nat)) : f_trimmed [eP l] = some (eP (trim l)) := by
  have key : b_trimmed [some (eP l), none, none] [] = some (.rt (eP (trim l)) []) := by
    unfold b_trimmed
    simp only [callP, nrA, nr_M, nr_W, nr_I, nr_S, nr_R, Bool.and_self, Bool.true_and, Bool.and_true, D.nr, runP, runB, start0, sSeq, sRet, sAsg, sIf, sNil, sExpr, eVar, eC, bin2, un1, eNot, eAnd, eOr, eIf, eArgs, aNil, aCons, mkTup, mkLst, gN, gT, gCons, gNil, viewT, viewL, viewQ, eIsi, tyD, subTy, eChain, ltI_i, leI_i, gtI_i, geI_i, subD_i, addD_i, List.map_cons, List.map_nil, List.length_cons, List.length_nil, List.replicate, List.cons_append, List.nil_append, List.append_nil, List.getElem?_cons_zero, List.getElem?_cons_succ, List.set_cons_zero, List.set_cons_succ, Nat.zero_add, Nat.add_zero, Nat.reduceAdd, Nat.reduceSub, if_true, if_false, ownArgs, sFor, iSeq, szl0, szl1, szl2, szl3, szl4, szl5, Nat.zero_le, Nat.reduceLeDiff, ↓reduceIte, eLc, eP]
    rw [lcM_eval (p := fun w => !(l.any fun o => longer w o)) (f := eW) fun w hw => ⟨[some (.tup (l.map eW)), none, some (eW w)], rfl, by
        simp only [callP, nrA, nr_M, nr_W, nr_I, nr_S, nr_R, Bool.and_self, Bool.true_and, Bool.and_true, D.nr, runP, runB, start0, sSeq, sRet, sAsg, sIf, sNil, sExpr, eVar, eC, bin2, un1, eNot, eAnd, eOr, eIf, eArgs, aNil, aCons, mkTup, mkLst, gN, gT, gCons, gNil, viewT, viewL, viewQ, eIsi, tyD, subTy, eChain, ltI_i, leI_i, gtI_i, geI_i, subD_i, addD_i, List.map_cons, List.map_nil, List.length_cons, List.length_nil, List.replicate, List.cons_append, List.nil_append, List.append_nil, List.getElem?_cons_zero, List.getElem?_cons_succ, List.set_cons_zero, List.set_cons_succ, Nat.zero_add, Nat.add_zero, Nat.reduceAdd, Nat.reduceSub, if_true, if_false, ownArgs, sFor, iSeq, szl0, szl1, szl2, szl3, szl4, szl5, Nat.zero_le, Nat.reduceLeDiff, ↓reduceIte, eLc]
        rw [lcM_eval (p := fun _ => true) (f := fun o => .bl (longer w o)) fun o ho => ⟨[some (.tup (l.map eW)), some (eW o), some (eW w)], rfl, rfl, fun _ => by
          simp only [callP, nrA, nr_M, nr_W, nr_I, nr_S, nr_R, Bool.and_self, Bool.true_and, Bool.and_true, D.nr, runP, runB, start0, sSeq, sRet, sAsg, sIf, sNil, sExpr, eVar, eC, bin2, un1, eNot, eAnd, eOr, eIf, eArgs, aNil, aCons, mkTup, mkLst, gN, gT, gCons, gNil, viewT, viewL, viewQ, eIsi, tyD, subTy, eChain, ltI_i, leI_i, gtI_i, geI_i, subD_i, addD_i, List.map_cons, List.map_nil, List.length_cons, List.length_nil, List.replicate, List.cons_append, List.nil_append, List.append_nil, List.getElem?_cons_zero, List.getElem?_cons_succ, List.set_cons_zero, List.set_cons_succ, Nat.zero_add, Nat.add_zero, Nat.reduceAdd, Nat.reduceSub, if_true, if_false, ownArgs, sFor, iSeq, szl0, szl1, szl2, szl3, szl4, szl5, Nat.zero_le, Nat.reduceLeDiff, ↓reduceIte, is_longer_eq]⟩]
        simp only [filter_tt, anyS, viewL, bools_map (f := fun o => longer w o)]
        rw [List.any_map]
        rfl, fun _ => rfl⟩]
    simp only [tupS, viewT, viewL]
    rfl
  exact runP_rt rfl key (fz_nr (nr_P _))
theorem ix_W {w : List Nat} {i x : Nat} {h : Hs} (e : w[i]? = some x) : ixD h (eW w) (eI i) = some (eI x) := by
  have z := atI_map (f := eI) w i
  rw [e] at z
  simp only [ixD, orOp, ixS, eW, viewQ, eI, z, Option.map_some]
/-- a word at which two machines answer otherwise at place i first -/
theorem first_fail_eq {k : Nat} {m m' : Mach} (ok : OK k m) (ok' : OK k m') {w : List Nat} (hw : Wd k w) {i : Nat} (hi : i < w.length) (h1 : ∀ j, j < i → (ans m 0 w)[j]? = (ans m' 0 w)[j]?) (h2 : (ans m 0 w)[i]? ≠ (ans m' 0 w)[i]?) :
    f_first_fail [eM m, eP [w], eM m'] = some (.tup [eW w, eI i]) := by
  have hne : ans m 0 w ≠ ans m' 0 w := fun e => h2 (by rw [e])
  have key : b_first_fail [some (eM m), some (eP [w]), some (eM m'), none, none, none, none] [] = some (.rt (.tup [eW w, eI i]) []) := by
    unfold b_first_fail
    simp only [callP, nrA, nr_M, nr_W, nr_I, nr_S, nr_R, Bool.and_self, Bool.true_and, Bool.and_true, D.nr, runP, runB, start0, sSeq, sRet, sAsg, sIf, sNil, sExpr, eVar, eC, bin2, un1, eNot, eAnd, eOr, eIf, eArgs, aNil, aCons, mkTup, mkLst, gN, gT, gCons, gNil, viewT, viewL, viewQ, eIsi, tyD, subTy, eChain, ltI_i, leI_i, gtI_i, geI_i, subD_i, addD_i, List.map_cons, List.map_nil, List.length_cons, List.length_nil, List.replicate, List.cons_append, List.nil_append, List.append_nil, List.getElem?_cons_zero, List.getElem?_cons_succ, List.set_cons_zero, List.set_cons_succ, Nat.zero_add, Nat.add_zero, Nat.reduceAdd, Nat.reduceSub, if_true, if_false, ownArgs, sFor, iSeq, szl0, szl1, szl2, szl3, szl4, szl5, Nat.zero_le, Nat.reduceLeDiff, ↓reduceIte, eP, sForN, srcL, trial_eq ok hw, trial_eq ok' hw, ne_W, decide_eq_false hne, Bool.not_false, eLc, iR1]
    have e1 : ∀ h : Hs, lenS h [eW w] = some (.int w.length) := fun h => by simp only [eW, lenS, viewQ, List.length_map]
    have hz := hw.z
    have hr : (w.length : Int) ≤ 16777216 ∧ -16777216 ≤ (w.length : Int) := by omega
    simp only [e1, hr, and_self, if_true, Int.toNat_natCast]
    rw [lcR_eval (p := fun j => !decide ((ans m 0 w)[j]? = (ans m' 0 w)[j]?)) (f := eI) fun j hj => ⟨[some (eM m), some (.tup [eW w]), some (eM m'), some (eW w), some (eW (ans m 0 w)), some (eW (ans m' 0 w)), some (.int (0 + (j : Nat)))], rfl, by
        rw [Int.zero_add]
        have hj1 : j < (ans m 0 w).length := by rw [ans_len]; exact hj
        have hj2 : j < (ans m' 0 w).length := by rw [ans_len]; exact hj
        have ee1 := ix_W (h := []) (List.getElem?_eq_getElem hj1)
        have ee2 := ix_W (h := []) (List.getElem?_eq_getElem hj2)
        simp only [eI] at ee1 ee2
        simp only [callP, nrA, nr_M, nr_W, nr_I, nr_S, nr_R, Bool.and_self, Bool.true_and, Bool.and_true, D.nr, runP, runB, start0, sSeq, sRet, sAsg, sIf, sNil, sExpr, eVar, eC, bin2, un1, eNot, eAnd, eOr, eIf, eArgs, aNil, aCons, mkTup, mkLst, gN, gT, gCons, gNil, viewT, viewL, viewQ, eIsi, tyD, subTy, eChain, ltI_i, leI_i, gtI_i, geI_i, subD_i, addD_i, List.map_cons, List.map_nil, List.length_cons, List.length_nil, List.replicate, List.cons_append, List.nil_append, List.append_nil, List.getElem?_cons_zero, List.getElem?_cons_succ, List.set_cons_zero, List.set_cons_succ, Nat.zero_add, Nat.add_zero, Nat.reduceAdd, Nat.reduceSub, if_true, if_false, ownArgs, sFor, iSeq, szl0, szl1, szl2, szl3, szl4, szl5, Nat.zero_le, Nat.reduceLeDiff, ↓reduceIte, ee1, ee2]
        have ee3 := ne_I [] (ans m 0 w)[j] (ans m' 0 w)[j]
        simp only [eI] at ee3
        simp only [ee3, List.getElem?_eq_getElem hj1, List.getElem?_eq_getElem hj2, Option.some.injEq], fun _ => by rw [Int.zero_add]; rfl⟩]
    have hf : ∃ rest, ((List.range w.length).filter fun j => !decide ((ans m 0 w)[j]? = (ans m' 0 w)[j]?)) = i :: rest := by
      have er : List.range w.length = List.range i ++ (i :: (List.range (w.length - i - 1)).map (· + (i + 1))) := by
        have : w.length = i + ((w.length - i - 1) + 1) := by omega
        conv => lhs; rw [this, List.range_add]
        congr 1
        rw [List.range_succ_eq_map, List.map_cons, List.map_map]
        congr 1
        refine List.map_congr_left fun x _ => ?_
        simp only [Function.comp_apply, Nat.succ_eq_add_one]
        omega
      rw [er, List.filter_append]
      have e0 : (List.range i).filter (fun j => !decide ((ans m 0 w)[j]? = (ans m' 0 w)[j]?)) = [] := List.filter_eq_nil_iff.mpr fun j hj => by
        rw [List.mem_range] at hj
        simp [h1 j hj]
      rw [e0, List.nil_append, List.filter_cons_of_pos (by simp [h2])]
      exact ⟨_, rfl⟩
    obtain ⟨rest, hf⟩ := hf
    simp only [hf, List.map_cons]
    have e7 : ∀ h : Hs, ixD h (.lst (eI i :: rest.map eI)) (.int 0) = some (eI i) := fun h => by
      have z := atI_map (f := eI) (i :: rest) 0
      simp only [List.map_cons, List.getElem?_cons_zero, Option.map_some] at z
      simp only [ixD, orOp, ixS, viewQ, viewL]
      have z' : atI (eI i :: rest.map eI) 0 = some (eI i) := z
      simp only [z']
    simp only [e7, callP, nrA, nr_M, nr_W, nr_I, nr_S, nr_R, Bool.and_self, Bool.true_and, Bool.and_true, D.nr, runP, runB, start0, sSeq, sRet, sAsg, sIf, sNil, sExpr, eVar, eC, bin2, un1, eNot, eAnd, eOr, eIf, eArgs, aNil, aCons, mkTup, mkLst, gN, gT, gCons, gNil, viewT, viewL, viewQ, eIsi, tyD, subTy, eChain, ltI_i, leI_i, gtI_i, geI_i, subD_i, addD_i, List.map_cons, List.map_nil, List.length_cons, List.length_nil, List.replicate, List.cons_append, List.nil_append, List.append_nil, List.getElem?_cons_zero, List.getElem?_cons_succ, List.set_cons_zero, List.set_cons_succ, Nat.zero_add, Nat.add_zero, Nat.reduceAdd, Nat.reduceSub, if_true, if_false, ownArgs, sFor, iSeq, szl0, szl1, szl2, szl3, szl4, szl5, Nat.zero_le, Nat.reduceLeDiff, ↓reduceIte]
  exact runP_rt rfl key (fz_nr (by simp only [D.nr, nrA, nr_W, nr_I, Bool.and_self]))
end K43
namespace K43
open TB PySem
open L2 (atI ixN)

/-! ### keys -/
theorem okKey_I (ks : List Nat) (q : Nat) : okKey (ks.map eI) (eI q) = true := by
  cases ks <;> rfl
theorem hkA_I (n : Nat) : ∀ w : List Nat, hkA (w.map eI) n = true
  | [] => rfl
  | x :: w => by simp only [List.map_cons, hkA, hkA_I n w, Bool.and_true]; unfold eI D.hk; rfl
theorem okKey_W (ks : List (List Nat)) (q : List Nat) : okKey (ks.map eW) (eW q) = true := by
  unfold okKey eW
  simp only [hkA_I, Bool.true_and]
  cases ks <;> rfl
theorem add_W (h : Hs) (w : List Nat) (l : Nat) (hz : w.length ≤ 10000) : addD h (eW w) (.tup [eI l]) = some (eW (w ++ [l])) := by
  unfold addD addI addT eW
  simp only [viewT]
  first
    | (rw [if_pos (by simp only [List.length_map, List.length_cons, List.length_nil]; exact le_szL (by omega))]; simp)
    | simp
theorem in_I {h : Hs} {n : Nat} {ks : List Nat} {us : List D} (e : h[n]? = some (.dic (ks.map eI) us)) (hl : us.length = ks.length) (q : Nat) : notInD h (eI q) (.ref n) = some (.bl (!decide (q ∈ ks))) := by
  have e1 : inQ h (eI q) (.ref n) = none := by simp only [inQ, viewL, e]
  have e2 : inK h (eI q) (.ref n) = some (.bl (decide (q ∈ ks))) := by
    simp only [inK, viewD, e, okKey_I, if_true]
    have z := dget_map eqv_I (g := id) q ks us
    rw [List.map_id] at z
    rw [z, Option.isSome_map]
    congr 2
    by_cases h : q ∈ ks
    · rw [decide_eq_true h]; exact (lk_some hl.symm).mpr h
    · rw [decide_eq_false h]
      cases y : (lk ks us q).isSome with
      | false => rfl
      | true => exact absurd ((lk_some hl.symm).mp y) h
  simp only [notInD, orOp, notQ, e1, e2]
end K43
namespace K43
open TB PySem
open L2 (atI ixN)

theorem natND : ∀ (l D : List Nat), l.Nodup → (∀ x ∈ l, x ∈ D) → l.length ≤ D.length
  | [], _, _, _ => Nat.zero_le _
  | x :: l, D, hn, hs => by
    obtain ⟨h1, h2⟩ := List.nodup_cons.mp hn
    have hx : x ∈ D := hs x List.mem_cons_self
    have ih := natND l (D.erase x) h2 fun y hy => by
      have hne : y ≠ x := fun e => h1 (e ▸ hy)
      exact (List.mem_erase_of_ne hne).2 (hs y (List.mem_cons_of_mem _ hy))
    have e := List.length_erase_of_mem hx
    have hp : 0 < D.length := List.length_pos_of_mem hx
    rw [List.length_cons]
    omega
/-- the words that were found, in their order: n states -/
structure WI (k : Nat) (m : Mach) (ks : List Nat) (ws : List (List Nat)) : Prop where
  len : ks.length = ws.length
  nd : ks.Nodup
  lt : ∀ s ∈ ks, s < m.length
  k0 : ks[0]? = some 0
  w0 : ws[0]? = some []
  wrd : ∀ (i s : Nat) (w : List Nat), ks[i]? = some s → ws[i]? = some w → Word k w ∧ goal m 0 w = s ∧ w.length ≤ i
  pre : ∀ (i s : Nat) (w : List Nat), ks[i]? = some s → ws[i]? = some w → ∀ j, j < w.length → ∃ i', i' < i ∧ ks[i']? = some (goal m 0 (w.take j))
theorem WI.le {k : Nat} {m : Mach} {ks : List Nat} {ws : List (List Nat)} (I : WI k m ks ws) : ks.length ≤ m.length := by
  have := natND ks (List.range m.length) I.nd fun x hx => List.mem_range.mpr (I.lt x hx)
  rwa [List.length_range] at this
theorem WI.more {k : Nat} {m : Mach} {ks : List Nat} {ws : List (List Nat)} (I : WI k m ks ws) {a s l : Nat} {w : List Nat} (hs : ks[a]? = some s) (hw : ws[a]? = some w) (hl : l < k) (hg : (step m s l).2 < m.length) (hn : (step m s l).2 ∉ ks) :
    WI k m (ks ++ [(step m s l).2]) (ws ++ [w ++ [l]]) := by
  obtain ⟨w1, w2, w3⟩ := I.wrd a s w hs hw
  have ha : a < ks.length := (List.getElem?_eq_some_iff.mp hs).1
  have hpos : 0 < ks.length := by omega
  have new : ∀ {i t : Nat} {v : List Nat}, (ks ++ [(step m s l).2])[i]? = some t → (ws ++ [w ++ [l]])[i]? = some v → (ks[i]? = some t ∧ ws[i]? = some v) ∨ (i = ks.length ∧ t = (step m s l).2 ∧ v = w ++ [l]) := by
    intro i t v h1 h2
    by_cases hi : i < ks.length
    · rw [List.getElem?_append_left hi] at h1
      rw [List.getElem?_append_left (by rw [← I.len]; exact hi)] at h2
      exact .inl ⟨h1, h2⟩
    · have hi2 := (List.getElem?_eq_some_iff.mp h1).1
      rw [List.length_append, List.length_singleton] at hi2
      have e : i = ks.length := by omega
      subst e
      refine .inr ⟨rfl, ?_, ?_⟩
      · simpa using h1.symm
      · rw [I.len] at h2
        simpa using h2.symm
  refine ⟨by simp [I.len], List.nodup_append.mpr ⟨I.nd, by simp, fun x hx y hy => by rw [List.mem_singleton.mp hy]; rintro rfl; exact hn hx⟩, fun x hx => ?_, ?_, ?_, fun i t v h1 h2 => ?_, fun i t v h1 h2 j hj => ?_⟩
  · rcases List.mem_append.mp hx with h | h
    · exact I.lt x h
    · rw [List.mem_singleton.mp h]; exact hg
  · rw [List.getElem?_append_left hpos]; exact I.k0
  · rw [List.getElem?_append_left (by rw [← I.len]; exact hpos)]; exact I.w0
  · rcases new h1 h2 with ⟨q1, q2⟩ | ⟨rfl, rfl, rfl⟩
    · exact I.wrd i t v q1 q2
    · refine ⟨fun x hx => ?_, ?_, ?_⟩
      · rcases List.mem_append.mp hx with h | h
        · exact w1 x h
        · rw [List.mem_singleton.mp h]; exact hl
      · rw [goal_app, w2]; rfl
      · rw [List.length_append, List.length_singleton]; omega
  · rcases new h1 h2 with ⟨q1, q2⟩ | ⟨rfl, rfl, rfl⟩
    · obtain ⟨i', hi', e⟩ := I.pre i t v q1 q2 j hj
      exact ⟨i', hi', by rw [List.getElem?_append_left (List.getElem?_eq_some_iff.mp e).1]; exact e⟩
    · rw [List.length_append, List.length_singleton] at hj
      by_cases hj2 : j < w.length
      · obtain ⟨i', hi', e⟩ := I.pre a s w hs hw j hj2
        refine ⟨i', by omega, ?_⟩
        rw [List.getElem?_append_left (List.getElem?_eq_some_iff.mp e).1, List.take_append_of_le_length (by omega)]
        exact e
      · have : j = w.length := by omega
        subst this
        refine ⟨a, ha, ?_⟩
        rw [List.getElem?_append_left ha, List.take_left, w2]
        exact hs
def Hw (ks : List Nat) (ws : List (List Nat)) : Hs := [.dic (ks.map eI) (ws.map eW), .lst (ks.map eI)]
theorem ix_ord {ks : List Nat} {ws : List (List Nat)} {a s : Nat} (h : ks[a]? = some s) : ixD (Hw ks ws) (.ref 1) (eI a) = some (eI s) := by
  have z := atI_map (f := eI) ks a
  rw [h] at z
  simp only [ixD, orOp, ixS, viewQ, viewL, Hw, List.getElem?_cons_succ, List.getElem?_cons_zero, eI, z, Option.map_some]
theorem ix_fnd {ks : List Nat} {ws : List (List Nat)} {s : Nat} {w : List Nat} (h : lk ks ws s = some w) : ixD (Hw ks ws) (.ref 0) (eI s) = some (eW w) := by
  have e1 : ixS (Hw ks ws) (.ref 0) (eI s) = none := rfl
  have e2 : ixK (Hw ks ws) (.ref 0) (eI s) = some (eW w) := by
    simp only [ixK, viewD, Hw, List.getElem?_cons_zero, okKey_I, if_true]
    rw [dget_map eqv_I, h]
    rfl
  simp only [ixD, orOp, e1, e2]
theorem set_fnd {ks : List Nat} {ws : List (List Nat)} {g : Nat} {w : List Nat} (hl : ks.length = ws.length) (hz : ks.length ≤ 1000) (hg : g ∉ ks) : setS (Hw ks ws) (.ref 0) (eI g) (eW w) = some [.dic ((ks ++ [g]).map eI) ((ws ++ [w]).map eW), .lst (ks.map eI)] := by
  simp only [setS, Hw, List.getElem?_cons_zero, okKey_I, Bool.true_and]
  rw [decide_eq_true (lt_szL (by rw [List.length_map]; omega)), if_pos rfl, dput_new eqv_I hl hg]
  simp
theorem ways_row {k : Nat} {m : Mach} (ok : OK k m) {ks : List Nat} {ws : List (List Nat)} {a s : Nat} {r : List (Nat × Nat)} {b4 b5 b6 : Option D} (I : WI k m ks ws) (ha : ks[a]? = some s) (hr : m[s]? = some r) (cl : ∀ i s, i < a → ks[i]? = some s → ∀ l, l < k → (step m s l).2 ∈ ks) :
    ∃ o, sForN (cntS (srcL (r.map eS))) (gT 2 (gCons (gN 4) (gCons (gT 2 (gCons (gN 5) (gCons (gN 6) gNil))) gNil))) (sSeq (sIf (bin2 (eVar 6) (eVar 1) notInD) (sSeq (sAsg (bin2 (bin2 (eVar 1) (bin2 (eVar 2) (eVar 3) ixD) ixD) (eArgs (aCons (eVar 4) aNil) mkTup) addD) (gSub (eVar 1) (eVar 6))) (sSeq (sExpr (eMeth (eVar 2) (aCons (eVar 6) aNil) appM)) sNil)) sNil) sNil) ((r.map eS).length + 1) 0
      [some (eM m), some (.ref 0), some (.ref 1), some (eI a), b4, b5, b6] (Hw ks ws) = some o ∧ ∃ ks' ws' c4 c5 c6, o = .nx [some (eM m), some (.ref 0), some (.ref 1), some (eI a), c4, c5, c6] (Hw ks' ws') ∧ WI k m ks' ws' ∧ a < ks'.length ∧ ∀ i s, i < a + 1 → ks'[i]? = some s → ∀ l, l < k → (step m s l).2 ∈ ks' := by
  have hrk : r.length = k := ok.row r (List.mem_of_getElem? hr)
  refine forE_inv (e := eS) (l := r) (fun i σ h => ∃ ks' ws' c4 c5 c6, σ = [some (eM m), some (.ref 0), some (.ref 1), some (eI a), c4, c5, c6] ∧ h = Hw ks' ws' ∧ WI k m ks' ws' ∧ ks'[a]? = some s ∧ (∀ i s, i < a → ks'[i]? = some s → ∀ l, l < k → (step m s l).2 ∈ ks') ∧ ∀ l, l < i → (step m s l).2 ∈ ks')
    (fun i p σ h hp ⟨ks', ws', c4, c5, c6, eσ, eh, I', ha', cl', row⟩ => ?_) (fun σ h ⟨ks', ws', c4, c5, c6, eσ, eh, I', ha', cl', row⟩ => ?_) ⟨ks, ws, b4, b5, b6, rfl, rfl, I, ha, cl, fun l h => absurd h (Nat.not_lt_zero _)⟩
  · subst eσ eh
    have hi : i < k := by rw [← hrk]; exact (List.getElem?_eq_some_iff.mp hp).1
    have hsl : s < m.length := (List.getElem?_eq_some_iff.mp hr).1
    obtain ⟨r2, p2, e1, e2, e3, e4, _⟩ := step_at ok hsl hi
    rw [hr] at e1; cases e1
    rw [hp] at e2; cases e2
    refine ⟨[some (eM m), some (.ref 0), some (.ref 1), some (eI a), some (.int i), some (eI p.1), some (eI p.2)], Hw ks' ws', rfl, ?_⟩
    have hn := in_I (h := Hw ks' ws') (n := 0) (ks := ks') (us := ws'.map eW) rfl (by rw [List.length_map]; exact I'.len.symm) p.2
    by_cases hin : p.2 ∈ ks'
    · simp only [callP, nrA, nr_M, nr_W, nr_I, nr_S, nr_R, Bool.and_self, Bool.true_and, Bool.and_true, D.nr, runP, runB, start0, sSeq, sRet, sAsg, sIf, sNil, sExpr, eVar, eC, bin2, un1, eNot, eAnd, eOr, eIf, eArgs, aNil, aCons, mkTup, mkLst, gN, gT, gCons, gNil, viewT, viewL, viewQ, eIsi, tyD, subTy, eChain, ltI_i, leI_i, gtI_i, geI_i, subD_i, addD_i, List.map_cons, List.map_nil, List.length_cons, List.length_nil, List.replicate, List.cons_append, List.nil_append, List.append_nil, List.getElem?_cons_zero, List.getElem?_cons_succ, List.set_cons_zero, List.set_cons_succ, Nat.zero_add, Nat.add_zero, Nat.reduceAdd, Nat.reduceSub, if_true, if_false, ownArgs, sFor, iSeq, szl0, szl1, szl2, szl3, szl4, szl5, Nat.zero_le, Nat.reduceLeDiff, ↓reduceIte, hn, decide_eq_true hin, Bool.not_true]
      refine ⟨_, rfl, ks', ws', some (.int i), some (eI p.1), some (eI p.2), rfl, rfl, I', ha', cl', fun l hl => ?_⟩
      by_cases hli : l = i
      · subst hli; rw [e3]; exact hin
      · exact row l (by omega)
    · obtain ⟨w, hw⟩ : ∃ w, ws'[a]? = some w := ⟨_, List.getElem?_eq_getElem (by rw [← I'.len]; exact (List.getElem?_eq_some_iff.mp ha').1)⟩
      have hlk := lk_at I'.nd ha' hw
      obtain ⟨w1, w2, w3⟩ := I'.wrd a s w ha' hw
      have hks : ks'.length ≤ 6 := Nat.le_trans I'.le ok.le
      have hal : a < ks'.length := (List.getElem?_eq_some_iff.mp ha').1
      have hadd := add_W (Hw ks' ws') w i (by omega)
      have I2 := I'.more ha' hw hi (by rw [e3]; exact e4) (by rw [e3]; exact hin)
      rw [e3] at I2
      have hset := set_fnd (w := w ++ [i]) I'.len (by omega) hin
      have happ : (ks'.map eI).length < szL := lt_szL (by rw [List.length_map]; omega)
      simp only [eI] at hadd
      simp only [callP, nrA, nr_M, nr_W, nr_I, nr_S, nr_R, Bool.and_self, Bool.true_and, Bool.and_true, D.nr, runP, runB, start0, sSeq, sRet, sAsg, sIf, sNil, sExpr, eVar, eC, bin2, un1, eNot, eAnd, eOr, eIf, eArgs, aNil, aCons, mkTup, mkLst, gN, gT, gCons, gNil, viewT, viewL, viewQ, eIsi, tyD, subTy, eChain, ltI_i, leI_i, gtI_i, geI_i, subD_i, addD_i, List.map_cons, List.map_nil, List.length_cons, List.length_nil, List.replicate, List.cons_append, List.nil_append, List.append_nil, List.getElem?_cons_zero, List.getElem?_cons_succ, List.set_cons_zero, List.set_cons_succ, Nat.zero_add, Nat.add_zero, Nat.reduceAdd, Nat.reduceSub, if_true, if_false, ownArgs, sFor, iSeq, szl0, szl1, szl2, szl3, szl4, szl5, Nat.zero_le, Nat.reduceLeDiff, ↓reduceIte, hn, decide_eq_false hin, Bool.not_false, ix_ord ha', ix_fnd hlk, hadd, gSub, hset, eMeth, appM, viewL, if_pos happ]
      refine ⟨_, rfl, ks' ++ [p.2], ws' ++ [w ++ [i]], some (.int i), some (eI p.1), some (eI p.2), rfl, ?_, I2, ?_, ?_, ?_⟩
      · simp only [Hw, List.map_append, List.map_cons, List.map_nil]
      · rw [List.getElem?_append_left hal]; exact ha'
      · intro j t hj ht l hl
        rw [List.getElem?_append_left (by omega)] at ht
        exact List.mem_append_left _ (cl' j t hj ht l hl)
      · intro l hl
        by_cases hli : l = i
        · subst hli; rw [e3]; simp
        · exact List.mem_append_left _ (row l (by omega))
  · refine ⟨ks', ws', c4, c5, c6, by rw [eσ, eh], I', (List.getElem?_eq_some_iff.mp ha').1, fun i t hi ht l hl => ?_⟩
    by_cases h : i = a
    · subst h
      rw [ha'] at ht; cases ht
      exact row l (by rw [hrk]; exact hl)
    · exact cl' i t (by omega) ht l hl
theorem nrA_I (l : List Nat) : nrA (l.map eI) = true := nrA_map nr_I l
theorem nrA_W (l : List (List Nat)) : nrA (l.map eW) = true := nrA_map nr_W l
theorem ways_eq {k : Nat} {m : Mach} (ok : OK k m) : ∃ ks ws, f_ways [eM m] = some (.dic (ks.map eI) (ws.map eW)) ∧ WI k m ks ws ∧ ∀ s ∈ ks, ∀ l, l < k → (step m s l).2 ∈ ks := by
  have hm : m.length ≤ 6 := ok.le
  have hs0 : 0 < m.length := List.length_pos_iff.mpr ok.ne
  have key : ∃ o, b_ways [some (eM m), none, none, none, none, none, none] [] = some o ∧ ∃ ks ws, o = .rt (.ref 0) (Hw ks ws) ∧ WI k m ks ws ∧ ∀ s ∈ ks, ∀ l, l < k → (step m s l).2 ∈ ks := by
    unfold b_ways
    simp only [callP, nrA, nr_M, nr_W, nr_I, nr_S, nr_R, Bool.and_self, Bool.true_and, Bool.and_true, D.nr, runP, runB, start0, sSeq, sRet, sAsg, sIf, sNil, sExpr, eVar, eC, bin2, un1, eNot, eAnd, eOr, eIf, eArgs, aNil, aCons, mkTup, mkLst, gN, gT, gCons, gNil, viewT, viewL, viewQ, eIsi, tyD, subTy, eChain, ltI_i, leI_i, gtI_i, geI_i, subD_i, addD_i, List.map_cons, List.map_nil, List.length_cons, List.length_nil, List.replicate, List.cons_append, List.nil_append, List.append_nil, List.getElem?_cons_zero, List.getElem?_cons_succ, List.set_cons_zero, List.set_cons_succ, Nat.zero_add, Nat.add_zero, Nat.reduceAdd, Nat.reduceSub, if_true, if_false, ownArgs, sFor, iSeq, szl0, szl1, szl2, szl3, szl4, szl5, Nat.zero_le, Nat.reduceLeDiff, ↓reduceIte, eDisp, sWhile, okKey]
    obtain ⟨o, e, ks, ws, b4, b5, b6, rfl, I, cl⟩ := while_inv (Q := fun o => ∃ ks ws b4 b5 b6, o = .nx [some (eM m), some (.ref 0), some (.ref 1), some (eI ks.length), b4, b5, b6] (Hw ks ws) ∧ WI k m ks ws ∧ ∀ s ∈ ks, ∀ l, l < k → (step m s l).2 ∈ ks)
      (fc := (bin2 (eVar 3) (eArgs (aCons (eVar 2) aNil) lenS) ltI)) (fb := (sSeq (sFor (iEnumF (aCons (bin2 (eVar 0) (bin2 (eVar 2) (eVar 3) ixD) ixD) aNil)) (gT 2 (gCons (gN 4) (gCons (gT 2 (gCons (gN 5) (gCons (gN 6) gNil))) gNil))) (sSeq (sIf (bin2 (eVar 6) (eVar 1) notInD) (sSeq (sAsg (bin2 (bin2 (eVar 1) (bin2 (eVar 2) (eVar 3) ixD) ixD) (eArgs (aCons (eVar 4) aNil) mkTup) addD) (gSub (eVar 1) (eVar 6))) (sSeq (sExpr (eMeth (eVar 2) (aCons (eVar 6) aNil) appM)) sNil)) sNil) sNil)) (sSeq (sAug 3 (eC (.int 1))) sNil)))
      (fun q σ h => ∃ ks ws a b4 b5 b6, q + a = m.length ∧ a ≤ ks.length ∧ σ = [some (eM m), some (.ref 0), some (.ref 1), some (eI a), b4, b5, b6] ∧ h = Hw ks ws ∧ WI k m ks ws ∧ ∀ i s, i < a → ks[i]? = some s → ∀ l, l < k → (step m s l).2 ∈ ks)
      (fun q σ h ⟨ks, ws, a, b4, b5, b6, eq, ha, eσ, eh, I, cl⟩ => by
        subst eσ eh
        refine ⟨decide (a < ks.length), Hw ks ws, ?_, ?_⟩
        · simp only [callP, nrA, nr_M, nr_W, nr_I, nr_S, nr_R, Bool.and_self, Bool.true_and, Bool.and_true, D.nr, runP, runB, start0, sSeq, sRet, sAsg, sIf, sNil, sExpr, eVar, eC, bin2, un1, eNot, eAnd, eOr, eIf, eArgs, aNil, aCons, mkTup, mkLst, gN, gT, gCons, gNil, viewT, viewL, viewQ, eIsi, tyD, subTy, eChain, ltI_i, leI_i, gtI_i, geI_i, subD_i, addD_i, List.map_cons, List.map_nil, List.length_cons, List.length_nil, List.replicate, List.cons_append, List.nil_append, List.append_nil, List.getElem?_cons_zero, List.getElem?_cons_succ, List.set_cons_zero, List.set_cons_succ, Nat.zero_add, Nat.add_zero, Nat.reduceAdd, Nat.reduceSub, if_true, if_false, ownArgs, sFor, iSeq, szl0, szl1, szl2, szl3, szl4, szl5, Nat.zero_le, Nat.reduceLeDiff, ↓reduceIte, Hw, lenS, eI, List.length_map]
          congr 3
          by_cases hh : a < ks.length
          · rw [decide_eq_true hh, decide_eq_true (by omega)]
          · rw [decide_eq_false hh, decide_eq_false (by omega)]
        · by_cases hh : a < ks.length
          · rw [decide_eq_true hh, if_pos rfl]
            have hsk : ks[a]? = some ks[a] := List.getElem?_eq_getElem hh
            have hsl : ks[a] < m.length := I.lt _ (List.getElem_mem hh)
            have hr : m[ks[a]]? = some m[ks[a]] := List.getElem?_eq_getElem hsl
            obtain ⟨o, eo, ks', ws', c4, c5, c6, rfl, I', hal, cl'⟩ := ways_row ok (b4 := b4) (b5 := b5) (b6 := b6) I hsk hr cl
            have ei : iEnumF (aCons (bin2 (eVar 0) (bin2 (eVar 2) (eVar 3) ixD) ixD) aNil) [some (eM m), some (.ref 0), some (.ref 1), some (eI a), b4, b5, b6] (Hw ks ws) = some (cntS (srcL (m[ks[a]].map eS)), (m[ks[a]].map eS).length + 1, Hw ks ws) :=
              iEnumF_tup (by simp only [callP, nrA, nr_M, nr_W, nr_I, nr_S, nr_R, Bool.and_self, Bool.true_and, Bool.and_true, D.nr, runP, runB, start0, sSeq, sRet, sAsg, sIf, sNil, sExpr, eVar, eC, bin2, un1, eNot, eAnd, eOr, eIf, eArgs, aNil, aCons, mkTup, mkLst, gN, gT, gCons, gNil, viewT, viewL, viewQ, eIsi, tyD, subTy, eChain, ltI_i, leI_i, gtI_i, geI_i, subD_i, addD_i, List.map_cons, List.map_nil, List.length_cons, List.length_nil, List.replicate, List.cons_append, List.nil_append, List.append_nil, List.getElem?_cons_zero, List.getElem?_cons_succ, List.set_cons_zero, List.set_cons_succ, Nat.zero_add, Nat.add_zero, Nat.reduceAdd, Nat.reduceSub, if_true, if_false, ownArgs, sFor, iSeq, szl0, szl1, szl2, szl3, szl4, szl5, Nat.zero_le, Nat.reduceLeDiff, ↓reduceIte, ix_ord hsk, ix_M hr, eR])
            simp only [callP, nrA, nr_M, nr_W, nr_I, nr_S, nr_R, Bool.and_self, Bool.true_and, Bool.and_true, D.nr, runP, runB, start0, sSeq, sRet, sAsg, sIf, sNil, sExpr, eVar, eC, bin2, un1, eNot, eAnd, eOr, eIf, eArgs, aNil, aCons, mkTup, mkLst, gN, gT, gCons, gNil, viewT, viewL, viewQ, eIsi, tyD, subTy, eChain, ltI_i, leI_i, gtI_i, geI_i, subD_i, addD_i, List.map_cons, List.map_nil, List.length_cons, List.length_nil, List.replicate, List.cons_append, List.nil_append, List.append_nil, List.getElem?_cons_zero, List.getElem?_cons_succ, List.set_cons_zero, List.set_cons_succ, Nat.zero_add, Nat.add_zero, Nat.reduceAdd, Nat.reduceSub, if_true, if_false, ownArgs, sFor, iSeq, szl0, szl1, szl2, szl3, szl4, szl5, Nat.zero_le, Nat.reduceLeDiff, ↓reduceIte, ei, eo]
            refine ⟨_, rfl, q - 1, ?_, ks', ws', a + 1, c4, c5, c6, ?_, hal, ?_, rfl, I', cl'⟩
            · have := I.le; omega
            · have := I.le; omega
            · simp [sAug, eI]
          · rw [decide_eq_false hh, if_neg (by simp)]
            have : a = ks.length := by omega
            subst this
            exact ⟨ks, ws, b4, b5, b6, rfl, I, fun s hs l hl => by
              obtain ⟨i, hi, e⟩ := List.getElem_of_mem hs
              exact cl i s hi (by rw [List.getElem?_eq_getElem hi, e]) l hl⟩)
      100000 m.length [some (eM m), some (.ref 0), some (.ref 1), some (.int 0), none, none, none] [.dic [.int 0] [.tup []], .lst [.int 0]] (by omega)
      ⟨[0], [[]], 0, none, none, none, rfl, Nat.zero_le _, rfl, rfl, ⟨rfl, by simp, fun s hs => by rw [List.mem_singleton.mp hs]; exact hs0, rfl, rfl, fun i s w h1 h2 => by
        cases i with
        | zero => simp at h1 h2; subst h1 h2; exact ⟨fun x hx => by simp at hx, rfl, Nat.le_refl _⟩
        | succ i => simp at h1, fun i s w h1 h2 j hj => by
        cases i with
        | zero => simp at h2; subst h2; simp at hj
        | succ i => simp at h1⟩, fun i s h => absurd h (Nat.not_lt_zero _)⟩
    rw [e]
    exact ⟨_, rfl, ks, ws, rfl, I, cl⟩
  obtain ⟨o, e, ks, ws, rfl, I, cl⟩ := key
  refine ⟨ks, ws, ?_, I, cl⟩
  refine runP_rt rfl e ?_
  exact fz_dic rfl (nrA_I ks) (nrA_W ws)
end K43
namespace K43
open TB PySem
open L2 (atI ixN)

theorem pl_I (n k : Nat) : plN (k + 1) (eI n) = true := rfl
theorem all_map {α : Type} {f : α → D} {p : D → Bool} (h : ∀ x, p (f x) = true) (l : List α) : (l.map f).all p = true := List.all_eq_true.mpr fun d hd => by
  obtain ⟨x, _, rfl⟩ := List.mem_map.mp hd
  exact h x
theorem pl_W (w : List Nat) : plN lvN (eW w) = true := by
  show plN 9 (eW w) = true
  simp only [plN, eW, D.vw]
  exact all_map (fun x => pl_I x 7) w
theorem cok_I (n a b : Nat) : cokN (n + 1) (eI a) (eI b) = true := rfl
theorem cokL_map {α : Type} {f : α → D} {p : D → D → Bool} (h : ∀ x y, p (f x) (f y) = true) : ∀ l l' : List α, cokL p (l.map f) (l'.map f) = true
  | [], _ => by cases ‹List α› <;> rfl
  | _ :: _, [] => rfl
  | x :: l, y :: l' => by simp only [List.map_cons, cokL, h x y, cokL_map h l l', Bool.and_self]
theorem cok_W (v w : List Nat) : cokN lvN (eW v) (eW w) = true := by
  show cokN 9 (eW v) (eW w) = true
  simp only [cokN, eW, D.vw]
  exact cokL_map (cok_I 7) v w
theorem inj_I {a b : Nat} (h : eI a = eI b) : a = b := by
  simp only [eI, D.int.injEq] at h; omega
theorem inj_W {v w : List Nat} (h : eW v = eW w) : v = w := by
  have q := eqv_W v w
  rw [h] at q
  rw [eqv_W] at q
  simpa using q.symm
theorem letters_eq {k : Nat} {m : Mach} (ok : OK k m) : f_letters_of [eM m] = some (eI k) := by
  have h0 : 0 < m.length := List.length_pos_iff.mpr ok.ne
  have e := letters_of_eq (List.getElem?_eq_getElem h0)
  rw [ok.row _ (List.getElem_mem h0)] at e
  exact e
theorem set_tt {h : Hs} {n : Nat} {cs : List (List Nat)} {q : List Nat} (e : h[n]? = some (.dic (cs.map eW) (tts cs.length))) (hz : cs.length ≤ 1000000) : setS h (.ref n) (eW q) (.bl true) = some (h.set n (.dic ((addk cs q).map eW) (tts (addk cs q).length))) := by
  simp only [setS, e, okKey_W, Bool.true_and]
  rw [decide_eq_true (lt_szL (by rw [List.length_map]; omega)), if_pos rfl, dput_set eqv_W]
theorem addk_len {α : Type} [DecidableEq α] (ks : List α) (q : α) : (addk ks q).length ≤ ks.length + 1 := by
  unfold addk; split <;> simp
theorem cover_eq {k : Nat} {m : Mach} (ok : OK k m) {ks : List Nat} {ws : List (List Nat)} (e : f_ways [eM m] = some (.dic (ks.map eI) (ws.map eW))) (I : WI k m ks ws) :
    ∃ cs, f_cover_of [eM m] = some (eP (sortF eW cs)) ∧ cs.Nodup ∧ cs.length ≤ 24 ∧ ∀ x, x ∈ cs ↔ ∃ w ∈ ws, x = w ∨ ∃ l, l < k ∧ x = w ++ [l] := by
  have hk3 := ok.k3
  have hws : ws.length ≤ 6 := by rw [← I.len]; exact Nat.le_trans I.le ok.le
  have key : ∃ o, b_cover_of [some (eM m), none, none, none] [] = some o ∧ ∃ cs h, o = .rt (eP (sortF eW cs)) h ∧ cs.Nodup ∧ cs.length ≤ 24 ∧ ∀ x, x ∈ cs ↔ ∃ w ∈ ws, x = w ∨ ∃ l, l < k ∧ x = w ++ [l] := by
    unfold b_cover_of
    have e1 : iDv (eArgs (aCons (eVar 0) aNil) (callP f_ways)) [some (eM m), some (.ref 0), none, none] [.dic [] []] = some (srcL (ws.map eW), (ws.map eW).length + 1, [.dic [] []]) :=
      iDv_eq (ks := ks.map eI) (by simp only [callP, nrA, nr_M, nr_W, nr_I, nr_S, nr_R, Bool.and_self, Bool.true_and, Bool.and_true, D.nr, runP, runB, start0, sSeq, sRet, sAsg, sIf, sNil, sExpr, eVar, eC, bin2, un1, eNot, eAnd, eOr, eIf, eArgs, aNil, aCons, mkTup, mkLst, gN, gT, gCons, gNil, viewT, viewL, viewQ, eIsi, tyD, subTy, eChain, ltI_i, leI_i, gtI_i, geI_i, subD_i, addD_i, List.map_cons, List.map_nil, List.length_cons, List.length_nil, List.replicate, List.cons_append, List.nil_append, List.append_nil, List.getElem?_cons_zero, List.getElem?_cons_succ, List.set_cons_zero, List.set_cons_succ, Nat.zero_add, Nat.add_zero, Nat.reduceAdd, Nat.reduceSub, if_true, if_false, ownArgs, sFor, iSeq, szl0, szl1, szl2, szl3, szl4, szl5, Nat.zero_le, Nat.reduceLeDiff, ↓reduceIte, e])
    simp only [callP, nrA, nr_M, nr_W, nr_I, nr_S, nr_R, Bool.and_self, Bool.true_and, Bool.and_true, D.nr, runP, runB, start0, sSeq, sRet, sAsg, sIf, sNil, sExpr, eVar, eC, bin2, un1, eNot, eAnd, eOr, eIf, eArgs, aNil, aCons, mkTup, mkLst, gN, gT, gCons, gNil, viewT, viewL, viewQ, eIsi, tyD, subTy, eChain, ltI_i, leI_i, gtI_i, geI_i, subD_i, addD_i, List.map_cons, List.map_nil, List.length_cons, List.length_nil, List.replicate, List.cons_append, List.nil_append, List.append_nil, List.getElem?_cons_zero, List.getElem?_cons_succ, List.set_cons_zero, List.set_cons_succ, Nat.zero_add, Nat.add_zero, Nat.reduceAdd, Nat.reduceSub, if_true, if_false, ownArgs, sFor, iSeq, szl0, szl1, szl2, szl3, szl4, szl5, Nat.zero_le, Nat.reduceLeDiff, ↓reduceIte, eDic0, e1]
    obtain ⟨o, eo, cs, b2, b3, rfl, nd, hlen, hm⟩ := forM_inv (e := eW) (l := ws) (gt := gN 2) (fb := (sSeq (sAsg (eC (.bl true)) (gSub (eVar 1) (eVar 2))) (sSeq (sFor (iR1 (aCons (eArgs (aCons (eVar 0) aNil) (callP f_letters_of)) aNil)) (gN 3) (sSeq (sAsg (eC (.bl true)) (gSub (eVar 1) (bin2 (eVar 2) (eArgs (aCons (eVar 3) aNil) mkTup) addD))) sNil)) sNil)))
      (σ := [some (eM m), some (.ref 0), none, none]) (h := [.dic [] []])
      (Q := fun o => ∃ cs b2 b3, o = .nx [some (eM m), some (.ref 0), b2, b3] [.dic (cs.map eW) (tts cs.length)] ∧ cs.Nodup ∧ cs.length ≤ 4 * ws.length ∧ ∀ x, x ∈ cs ↔ ∃ w ∈ ws, x = w ∨ ∃ l, l < k ∧ x = w ++ [l])
      (fun ys σ h => ∃ cs b2 b3, σ = [some (eM m), some (.ref 0), b2, b3] ∧ h = [.dic (cs.map eW) (tts cs.length)] ∧ cs.Nodup ∧ cs.length ≤ 4 * ys.length ∧ ∀ x, x ∈ cs ↔ ∃ w ∈ ys, x = w ∨ ∃ l, l < k ∧ x = w ++ [l])
      (fun ys w zs σ h hl ⟨cs, b2, b3, eσ, eh, nd, hlen, hm⟩ => by
        subst eσ eh
        have hyl : ys.length ≤ 6 := by have := congrArg List.length hl; simp at this; omega
        have hwl : w.length ≤ 6 := by
          have hi : ws[ys.length]? = some w := by rw [hl]; simp
          have hlt := (List.getElem?_eq_some_iff.mp hi).1
          have := (I.wrd ys.length _ w (List.getElem?_eq_getElem (by rw [I.len]; exact hlt)) hi).2.2
          omega
        refine ⟨_, _, rfl, ?_⟩
        have s1 := set_tt (h := [.dic (cs.map eW) (tts cs.length)]) (n := 0) (cs := cs) (q := w) rfl (by omega)
        have ei : ∀ h : Hs, iR1 (aCons (eArgs (aCons (eVar 0) aNil) (callP f_letters_of)) aNil) [some (eM m), some (.ref 0), some (eW w), b3] h = some (srcR 0 k, k + 1, h) := fun h =>
          iR1_eq (by simp only [callP, nrA, nr_M, nr_W, nr_I, nr_S, nr_R, Bool.and_self, Bool.true_and, Bool.and_true, D.nr, runP, runB, start0, sSeq, sRet, sAsg, sIf, sNil, sExpr, eVar, eC, bin2, un1, eNot, eAnd, eOr, eIf, eArgs, aNil, aCons, mkTup, mkLst, gN, gT, gCons, gNil, viewT, viewL, viewQ, eIsi, tyD, subTy, eChain, ltI_i, leI_i, gtI_i, geI_i, subD_i, addD_i, List.map_cons, List.map_nil, List.length_cons, List.length_nil, List.replicate, List.cons_append, List.nil_append, List.append_nil, List.getElem?_cons_zero, List.getElem?_cons_succ, List.set_cons_zero, List.set_cons_succ, Nat.zero_add, Nat.add_zero, Nat.reduceAdd, Nat.reduceSub, if_true, if_false, ownArgs, sFor, iSeq, szl0, szl1, szl2, szl3, szl4, szl5, Nat.zero_le, Nat.reduceLeDiff, ↓reduceIte, letters_eq ok]; rfl) (by omega)
        simp only [callP, nrA, nr_M, nr_W, nr_I, nr_S, nr_R, Bool.and_self, Bool.true_and, Bool.and_true, D.nr, runP, runB, start0, sSeq, sRet, sAsg, sIf, sNil, sExpr, eVar, eC, bin2, un1, eNot, eAnd, eOr, eIf, eArgs, aNil, aCons, mkTup, mkLst, gN, gT, gCons, gNil, viewT, viewL, viewQ, eIsi, tyD, subTy, eChain, ltI_i, leI_i, gtI_i, geI_i, subD_i, addD_i, List.map_cons, List.map_nil, List.length_cons, List.length_nil, List.replicate, List.cons_append, List.nil_append, List.append_nil, List.getElem?_cons_zero, List.getElem?_cons_succ, List.set_cons_zero, List.set_cons_succ, Nat.zero_add, Nat.add_zero, Nat.reduceAdd, Nat.reduceSub, if_true, if_false, ownArgs, sFor, iSeq, szl0, szl1, szl2, szl3, szl4, szl5, Nat.zero_le, Nat.reduceLeDiff, ↓reduceIte, gSub, s1, ei]
        obtain ⟨o, eo, cs', c3, rfl, nd', hlen', hm'⟩ := forR_inv (n := k) (gt := gN 3) (fb := (sSeq (sAsg (eC (.bl true)) (gSub (eVar 1) (bin2 (eVar 2) (eArgs (aCons (eVar 3) aNil) mkTup) addD))) sNil))
          (σ := [some (eM m), some (.ref 0), some (eW w), b3]) (h := [.dic ((addk cs w).map eW) (tts (addk cs w).length)])
          (Q := fun o => ∃ cs' c3, o = .nx [some (eM m), some (.ref 0), some (eW w), c3] [.dic (cs'.map eW) (tts cs'.length)] ∧ cs'.Nodup ∧ cs'.length ≤ cs.length + 1 + k ∧ ∀ x, x ∈ cs' ↔ (x ∈ cs ∨ x = w) ∨ ∃ l, l < k ∧ x = w ++ [l])
          (fun i σ h => ∃ cs' c3, σ = [some (eM m), some (.ref 0), some (eW w), c3] ∧ h = [.dic (cs'.map eW) (tts cs'.length)] ∧ cs'.Nodup ∧ cs'.length ≤ cs.length + 1 + i ∧ ∀ x, x ∈ cs' ↔ (x ∈ cs ∨ x = w) ∨ ∃ l, l < i ∧ x = w ++ [l])
          (fun i σ h hi ⟨cs', c3, eσ, eh, nd', hlen', hm'⟩ => by
            subst eσ eh
            refine ⟨_, _, rfl, ?_⟩
            have hadd := add_W [.dic (cs'.map eW) (tts cs'.length)] w i (by omega)
            simp only [eI] at hadd
            have s2 := set_tt (h := [.dic (cs'.map eW) (tts cs'.length)]) (n := 0) (cs := cs') (q := w ++ [i]) rfl (by omega)
            simp only [callP, nrA, nr_M, nr_W, nr_I, nr_S, nr_R, Bool.and_self, Bool.true_and, Bool.and_true, D.nr, runP, runB, start0, sSeq, sRet, sAsg, sIf, sNil, sExpr, eVar, eC, bin2, un1, eNot, eAnd, eOr, eIf, eArgs, aNil, aCons, mkTup, mkLst, gN, gT, gCons, gNil, viewT, viewL, viewQ, eIsi, tyD, subTy, eChain, ltI_i, leI_i, gtI_i, geI_i, subD_i, addD_i, List.map_cons, List.map_nil, List.length_cons, List.length_nil, List.replicate, List.cons_append, List.nil_append, List.append_nil, List.getElem?_cons_zero, List.getElem?_cons_succ, List.set_cons_zero, List.set_cons_succ, Nat.zero_add, Nat.add_zero, Nat.reduceAdd, Nat.reduceSub, if_true, if_false, ownArgs, sFor, iSeq, szl0, szl1, szl2, szl3, szl4, szl5, Nat.zero_le, Nat.reduceLeDiff, ↓reduceIte, gSub, hadd, s2]
            refine ⟨_, rfl, addk cs' (w ++ [i]), _, rfl, rfl, addk_nodup nd', ?_, fun x => ?_⟩
            · have := addk_len cs' (w ++ [i]); omega
            · rw [addk_mem, hm']
              constructor
              · rintro ((h | ⟨l, hl, e⟩) | h)
                · exact .inl h
                · exact .inr ⟨l, by omega, e⟩
                · exact .inr ⟨i, by omega, h⟩
              · rintro (h | ⟨l, hl, e⟩)
                · exact .inl (.inl h)
                · by_cases hli : l = i
                  · subst hli; exact .inr e
                  · exact .inl (.inr ⟨l, by omega, e⟩))
          (fun σ h ⟨cs', c3, eσ, eh, nd', hlen', hm'⟩ => ⟨cs', c3, by rw [eσ, eh], nd', hlen', hm'⟩)
          ⟨addk cs w, b3, rfl, rfl, addk_nodup nd, by have := addk_len cs w; omega, fun x => by rw [addk_mem]; simp⟩
        simp only [List.set_cons_zero, eo]
        refine ⟨_, rfl, cs', _, c3, rfl, rfl, nd', by rw [List.length_append, List.length_singleton]; omega, fun x => ?_⟩
        rw [hm', hm]
        simp only [List.mem_append, List.mem_singleton]
        constructor
        · rintro ((⟨v, hv, h⟩ | h) | h)
          · exact ⟨v, .inl hv, h⟩
          · exact ⟨w, .inr rfl, .inl h⟩
          · exact ⟨w, .inr rfl, .inr h⟩
        · rintro ⟨v, hv | rfl, h⟩
          · exact .inl (.inl ⟨v, hv, h⟩)
          · rcases h with h | h
            · exact .inl (.inr h)
            · exact .inr h)
      (fun σ h ⟨cs, b2, b3, eσ, eh, nd, hlen, hm⟩ => ⟨cs, b2, b3, by rw [eσ, eh], nd, hlen, hm⟩)
      ⟨[], none, none, rfl, rfl, List.nodup_nil, Nat.zero_le _, fun x => by simp⟩
    have es := sort_dic (e := eW) (h := [.dic (cs.map eW) (tts cs.length)]) (n := 0) rfl pl_W cok_W
    simp only [eo, callP, nrA, nr_M, nr_W, nr_I, nr_S, nr_R, Bool.and_self, Bool.true_and, Bool.and_true, D.nr, runP, runB, start0, sSeq, sRet, sAsg, sIf, sNil, sExpr, eVar, eC, bin2, un1, eNot, eAnd, eOr, eIf, eArgs, aNil, aCons, mkTup, mkLst, gN, gT, gCons, gNil, viewT, viewL, viewQ, eIsi, tyD, subTy, eChain, ltI_i, leI_i, gtI_i, geI_i, subD_i, addD_i, List.map_cons, List.map_nil, List.length_cons, List.length_nil, List.replicate, List.cons_append, List.nil_append, List.append_nil, List.getElem?_cons_zero, List.getElem?_cons_succ, List.set_cons_zero, List.set_cons_succ, Nat.zero_add, Nat.add_zero, Nat.reduceAdd, Nat.reduceSub, if_true, if_false, ownArgs, sFor, iSeq, szl0, szl1, szl2, szl3, szl4, szl5, Nat.zero_le, Nat.reduceLeDiff, ↓reduceIte, es, tupS]
    exact ⟨_, rfl, cs, _, rfl, nd, by omega, hm⟩
  obtain ⟨o, e2, cs, h, rfl, nd, hl, hm⟩ := key
  exact ⟨cs, runP_rt rfl e2 (fz_nr (nr_P _)), nd, hl, hm⟩
end K43
namespace K43
open TB PySem
open L2 (atI ixN)

theorem reached_eq {k : Nat} {m : Mach} {ks : List Nat} {ws : List (List Nat)} (e : f_ways [eM m] = some (.dic (ks.map eI) (ws.map eW))) : f_reached [eM m] = some (.tup ((sortF eI ks).map eI)) := by
  have key : b_reached [some (eM m)] [] = some (.rt (.tup ((sortF eI ks).map eI)) []) := by
    unfold b_reached
    have es := sort_frz (e := eI) (h := []) (ks := ks) (us := ws.map eW) (fun x => pl_I x 8) (fun x y => cok_I 8 x y)
    simp only [callP, nrA, nr_M, nr_W, nr_I, nr_S, nr_R, Bool.and_self, Bool.true_and, Bool.and_true, D.nr, runP, runB, start0, sSeq, sRet, sAsg, sIf, sNil, sExpr, eVar, eC, bin2, un1, eNot, eAnd, eOr, eIf, eArgs, aNil, aCons, mkTup, mkLst, gN, gT, gCons, gNil, viewT, viewL, viewQ, eIsi, tyD, subTy, eChain, ltI_i, leI_i, gtI_i, geI_i, subD_i, addD_i, List.map_cons, List.map_nil, List.length_cons, List.length_nil, List.replicate, List.cons_append, List.nil_append, List.append_nil, List.getElem?_cons_zero, List.getElem?_cons_succ, List.set_cons_zero, List.set_cons_succ, Nat.zero_add, Nat.add_zero, Nat.reduceAdd, Nat.reduceSub, if_true, if_false, ownArgs, sFor, iSeq, szl0, szl1, szl2, szl3, szl4, szl5, Nat.zero_le, Nat.reduceLeDiff, ↓reduceIte, e, es, tupS]
  exact runP_rt rfl key (fz_nr (nrA_I _))
theorem way_to_eq {k : Nat} {m : Mach} {ks : List Nat} {ws : List (List Nat)} (e : f_ways [eM m] = some (.dic (ks.map eI) (ws.map eW))) {s : Nat} {w : List Nat} (hw : lk ks ws s = some w) : f_way_to [eM m, eI s] = some (eW w) := by
  have key : b_way_to [some (eM m), some (eI s)] [] = some (.rt (eW w) []) := by
    unfold b_way_to
    simp only [callP, nrA, nr_M, nr_W, nr_I, nr_S, nr_R, Bool.and_self, Bool.true_and, Bool.and_true, D.nr, runP, runB, start0, sSeq, sRet, sAsg, sIf, sNil, sExpr, eVar, eC, bin2, un1, eNot, eAnd, eOr, eIf, eArgs, aNil, aCons, mkTup, mkLst, gN, gT, gCons, gNil, viewT, viewL, viewQ, eIsi, tyD, subTy, eChain, ltI_i, leI_i, gtI_i, geI_i, subD_i, addD_i, List.map_cons, List.map_nil, List.length_cons, List.length_nil, List.replicate, List.cons_append, List.nil_append, List.append_nil, List.getElem?_cons_zero, List.getElem?_cons_succ, List.set_cons_zero, List.set_cons_succ, Nat.zero_add, Nat.add_zero, Nat.reduceAdd, Nat.reduceSub, if_true, if_false, ownArgs, sFor, iSeq, szl0, szl1, szl2, szl3, szl4, szl5, Nat.zero_le, Nat.reduceLeDiff, ↓reduceIte, eGet1, e, viewD, okKey_I, dget_map eqv_I, hw, Option.map_some, Option.getD_some]
  exact runP_rt rfl key (fz_nr (nr_W _))

/-! ### pairs of states -/
theorem okKey_S (ks : List (Nat × Nat)) (q : Nat × Nat) : okKey (ks.map eS) (eS q) = true := by
  unfold okKey eS
  have : hkA [eI q.1, eI q.2] 7 = true := hkA_I 7 [q.1, q.2]
  simp only [this, Bool.true_and]
  cases ks <;> rfl
structure PI (k : Nat) (m : Mach) (a : Nat) (m' : Mach) (b : Nat) (ks : List (Nat × Nat)) (ws : List (List Nat)) : Prop where
  len : ks.length = ws.length
  nd : ks.Nodup
  lt : ∀ p ∈ ks, p.1 < m.length ∧ p.2 < m'.length
  k0 : ks[0]? = some (a, b)
  w0 : ws[0]? = some []
  wrd : ∀ (i : Nat) (p : Nat × Nat) (w : List Nat), ks[i]? = some p → ws[i]? = some w → Word k w ∧ goal m a w = p.1 ∧ goal m' b w = p.2 ∧ w.length ≤ i
theorem prodND {n n' : Nat} (l : List (Nat × Nat)) (nd : l.Nodup) (h : ∀ p ∈ l, p.1 < n ∧ p.2 < n') : l.length ≤ n * n' := by
  have q := natND (l.map fun p => p.1 * n' + p.2) (List.range (n * n')) ?_ fun x hx => ?_
  · rwa [List.length_map, List.length_range] at q
  · rw [List.Nodup, List.pairwise_map]
    refine List.Pairwise.imp_of_mem (fun {x y} hx hy hne e => hne ?_) nd
    have h1 := h x hx
    have h2 := h y hy
    have e1 : x.1 = y.1 := by
      have a1 : (x.1 * n' + x.2) / n' = x.1 := by rw [Nat.mul_comm, Nat.mul_add_div (by omega), Nat.div_eq_of_lt h1.2, Nat.add_zero]
      have a2 : (y.1 * n' + y.2) / n' = y.1 := by rw [Nat.mul_comm, Nat.mul_add_div (by omega), Nat.div_eq_of_lt h2.2, Nat.add_zero]
      rw [← a1, ← a2, e]
    have e2 : x.2 = y.2 := by rw [e1] at e; omega
    exact Prod.ext e1 e2
  · obtain ⟨p, hp, rfl⟩ := List.mem_map.mp hx
    have h1 := h p hp
    rw [List.mem_range]
    calc p.1 * n' + p.2 < p.1 * n' + n' := by omega
      _ = (p.1 + 1) * n' := by rw [Nat.add_mul, Nat.one_mul]
      _ ≤ n * n' := Nat.mul_le_mul_right _ (by omega)
theorem PI.le {k : Nat} {m m' : Mach} {a b : Nat} {ks : List (Nat × Nat)} {ws : List (List Nat)} (ok : OK k m) (ok' : OK k m') (I : PI k m a m' b ks ws) : ks.length ≤ 36 :=
  Nat.le_trans (prodND ks I.nd I.lt) (Nat.mul_le_mul ok.le ok'.le)
theorem PI.more {k : Nat} {m m' : Mach} {a b : Nat} {ks : List (Nat × Nat)} {ws : List (List Nat)} (I : PI k m a m' b ks ws) {i l : Nat} {p : Nat × Nat} {w : List Nat} (hp : ks[i]? = some p) (hw : ws[i]? = some w) (hl : l < k)
    (hg : (step m p.1 l).2 < m.length ∧ (step m' p.2 l).2 < m'.length) (hn : ((step m p.1 l).2, (step m' p.2 l).2) ∉ ks) : PI k m a m' b (ks ++ [((step m p.1 l).2, (step m' p.2 l).2)]) (ws ++ [w ++ [l]]) := by
  obtain ⟨w1, w2, w3, w4⟩ := I.wrd i p w hp hw
  have hi : i < ks.length := (List.getElem?_eq_some_iff.mp hp).1
  have hpos : 0 < ks.length := by omega
  refine ⟨by simp [I.len], List.nodup_append.mpr ⟨I.nd, by simp, fun x hx y hy => by rw [List.mem_singleton.mp hy]; rintro rfl; exact hn hx⟩, fun x hx => ?_, ?_, ?_, fun j t v h1 h2 => ?_⟩
  · rcases List.mem_append.mp hx with h | h
    · exact I.lt x h
    · rw [List.mem_singleton.mp h]; exact hg
  · rw [List.getElem?_append_left hpos]; exact I.k0
  · rw [List.getElem?_append_left (by rw [← I.len]; exact hpos)]; exact I.w0
  · by_cases hj : j < ks.length
    · rw [List.getElem?_append_left hj] at h1
      rw [List.getElem?_append_left (by rw [← I.len]; exact hj)] at h2
      exact I.wrd j t v h1 h2
    · have hj2 := (List.getElem?_eq_some_iff.mp h1).1
      rw [List.length_append, List.length_singleton] at hj2
      have e : j = ks.length := by omega
      subst e
      have e1 : t = ((step m p.1 l).2, (step m' p.2 l).2) := by simpa using h1.symm
      have e2 : v = w ++ [l] := by rw [I.len] at h2; simpa using h2.symm
      subst e1 e2
      refine ⟨fun x hx => ?_, ?_, ?_, ?_⟩
      · rcases List.mem_append.mp hx with h | h
        · exact w1 x h
        · rw [List.mem_singleton.mp h]; exact hl
      · rw [goal_app, w2]; rfl
      · rw [goal_app, w3]; rfl
      · rw [List.length_append, List.length_singleton]; omega
end K43
namespace K43
open TB PySem
open L2 (atI ixN)

def Hp (ks : List (Nat × Nat)) (ws : List (List Nat)) : Hs := [.dic (ks.map eS) (ws.map eW), .lst (ks.map eS)]
/-- a word that tells them apart -/
def Tells (k : Nat) (m : Mach) (a : Nat) (m' : Mach) (b : Nat) (w : List Nat) : Prop := Word k w ∧ w.length ≤ 37 ∧ ans m a w ≠ ans m' b w
def Cl (k : Nat) (m m' : Mach) (ks : List (Nat × Nat)) (p : Nat × Nat) (l : Nat) : Prop := (step m p.1 l).1 = (step m' p.2 l).1 ∧ ((step m p.1 l).2, (step m' p.2 l).2) ∈ ks
theorem pp_row {k : Nat} {m m' : Mach} (ok : OK k m) (ok' : OK k m') {a b : Nat} {ks : List (Nat × Nat)} {ws : List (List Nat)} {i : Nat} {p : Nat × Nat} {c9 c10 c11 c12 c13 c14 : Option D} (I : PI k m a m' b ks ws) (hp : ks[i]? = some p)
    (cl : ∀ j q, j < i → ks[j]? = some q → ∀ l, l < k → Cl k m m' ks q l) :
    ∃ o, sForN (srcR 0 k) (gN 9) (sSeq (sAsg (bin2 (bin2 (eVar 0) (eVar 7) ixD) (eVar 9) ixD) (gT 2 (gCons (gN 10) (gCons (gN 11) gNil)))) (sSeq (sAsg (bin2 (bin2 (eVar 2) (eVar 8) ixD) (eVar 9) ixD) (gT 2 (gCons (gN 12) (gCons (gN 13) gNil)))) (sSeq (sAsg (bin2 (bin2 (eVar 4) (bin2 (eVar 5) (eVar 6) ixD) ixD) (eArgs (aCons (eVar 9) aNil) mkTup) addD) (gN 14)) (sSeq (sIf (bin2 (eVar 10) (eVar 12) neD) (sSeq (sRet (eArgs (aCons (eC (.str "word")) (aCons (eVar 14) aNil)) mkTup)) sNil) sNil) (sSeq (sIf (bin2 (eArgs (aCons (eVar 11) (aCons (eVar 13) aNil)) mkTup) (eVar 4) notInD) (sSeq (sAsg (eVar 14) (gSub (eVar 4) (eArgs (aCons (eVar 11) (aCons (eVar 13) aNil)) mkTup))) (sSeq (sExpr (eMeth (eVar 5) (aCons (eArgs (aCons (eVar 11) (aCons (eVar 13) aNil)) mkTup) aNil) appM)) sNil)) sNil) sNil))))) (k + 1) 0
      [some (eM m), some (eI a), some (eM m'), some (eI b), some (.ref 0), some (.ref 1), some (eI i), some (eI p.1), some (eI p.2), c9, c10, c11, c12, c13, c14] (Hp ks ws) = some o ∧
      ((∃ w h, o = .rt (.tup [.str "word", eW w]) h ∧ Tells k m a m' b w) ∨
       ∃ ks' ws' c9 c10 c11 c12 c13 c14, o = .nx [some (eM m), some (eI a), some (eM m'), some (eI b), some (.ref 0), some (.ref 1), some (eI i), some (eI p.1), some (eI p.2), c9, c10, c11, c12, c13, c14] (Hp ks' ws') ∧ PI k m a m' b ks' ws' ∧ i < ks'.length ∧ ∀ j q, j < i + 1 → ks'[j]? = some q → ∀ l, l < k → Cl k m m' ks' q l) := by
  refine forR_inv (n := k) (fun t σ h => ∃ ks' ws' c9 c10 c11 c12 c13 c14, σ = [some (eM m), some (eI a), some (eM m'), some (eI b), some (.ref 0), some (.ref 1), some (eI i), some (eI p.1), some (eI p.2), c9, c10, c11, c12, c13, c14] ∧ h = Hp ks' ws' ∧ PI k m a m' b ks' ws' ∧ ks'[i]? = some p ∧ (∀ j q, j < i → ks'[j]? = some q → ∀ l, l < k → Cl k m m' ks' q l) ∧ ∀ l, l < t → Cl k m m' ks' p l)
    (fun t σ h ht ⟨ks', ws', c9, c10, c11, c12, c13, c14, eσ, eh, I', hp', cl', row⟩ => ?_) (fun σ h ⟨ks', ws', c9, c10, c11, c12, c13, c14, eσ, eh, I', hp', cl', row⟩ => ?_) ⟨ks, ws, c9, c10, c11, c12, c13, c14, rfl, rfl, I, hp, cl, fun l h => absurd h (Nat.not_lt_zero _)⟩
  · subst eσ eh
    have hpl := I'.lt p (List.mem_of_getElem? hp')
    obtain ⟨r1, q1, e1, e2, e3, e4, _⟩ := step_at ok hpl.1 ht
    obtain ⟨r2, q2, f1, f2, f3, f4, _⟩ := step_at ok' hpl.2 ht
    obtain ⟨w, hw⟩ : ∃ w, ws'[i]? = some w := ⟨_, List.getElem?_eq_getElem (by rw [← I'.len]; exact (List.getElem?_eq_some_iff.mp hp').1)⟩
    have hlk := lk_at I'.nd hp' hw
    obtain ⟨w1, w2, w3, w4⟩ := I'.wrd i p w hp' hw
    have hle := I'.le ok ok'
    have hil : i < ks'.length := (List.getElem?_eq_some_iff.mp hp').1
    have hadd := add_W (Hp ks' ws') w t (by omega)
    have hix : ixD (Hp ks' ws') (.ref 1) (.int (i : Nat)) = some (eS p) := ix_list (e := eS) rfl hp'
    have hfd : ixD (Hp ks' ws') (.ref 0) (eS p) = some (eW w) := ix_key eqv_S okKey_S (g := eW) rfl hlk
    have x1 := ix_M (h := Hp ks' ws') e1
    have x2 := ix_R (h := Hp ks' ws') e2
    have x3 := ix_M (h := Hp ks' ws') f1
    have x4 := ix_R (h := Hp ks' ws') f2
    have hne := ne_I (Hp ks' ws') q1.1 q2.1
    have hni := notin_key eqv_S okKey_S (h := Hp ks' ws') (n := 0) (ks := ks') (us := ws'.map eW) rfl (by rw [List.length_map]; exact I'.len.symm) (q1.2, q2.2)
    simp only [eS, eI] at hadd hix hfd x1 x2 x3 x4 hne hni
    refine ⟨_, _, rfl, ?_⟩
    simp only [callP, nrA, nr_M, nr_W, nr_I, nr_S, nr_R, Bool.and_self, Bool.true_and, Bool.and_true, D.nr, runP, runB, start0, sSeq, sRet, sAsg, sIf, sNil, sExpr, eVar, eC, bin2, un1, eNot, eAnd, eOr, eIf, eArgs, aNil, aCons, mkTup, mkLst, gN, gT, gCons, gNil, viewT, viewL, viewQ, eIsi, tyD, subTy, eChain, ltI_i, leI_i, gtI_i, geI_i, subD_i, addD_i, List.map_cons, List.map_nil, List.length_cons, List.length_nil, List.replicate, List.cons_append, List.nil_append, List.append_nil, List.getElem?_cons_zero, List.getElem?_cons_succ, List.set_cons_zero, List.set_cons_succ, Nat.zero_add, Nat.add_zero, Nat.reduceAdd, Nat.reduceSub, if_true, if_false, ownArgs, sFor, iSeq, szl0, szl1, szl2, szl3, szl4, szl5, Nat.zero_le, Nat.reduceLeDiff, ↓reduceIte, eI, x1, x2, x3, x4, hix, hfd, hadd, hne]
    by_cases ha : q1.1 = q2.1
    · simp only [decide_eq_true ha, Bool.not_true, callP, nrA, nr_M, nr_W, nr_I, nr_S, nr_R, Bool.and_self, Bool.true_and, Bool.and_true, D.nr, runP, runB, start0, sSeq, sRet, sAsg, sIf, sNil, sExpr, eVar, eC, bin2, un1, eNot, eAnd, eOr, eIf, eArgs, aNil, aCons, mkTup, mkLst, gN, gT, gCons, gNil, viewT, viewL, viewQ, eIsi, tyD, subTy, eChain, ltI_i, leI_i, gtI_i, geI_i, subD_i, addD_i, List.map_cons, List.map_nil, List.length_cons, List.length_nil, List.replicate, List.cons_append, List.nil_append, List.append_nil, List.getElem?_cons_zero, List.getElem?_cons_succ, List.set_cons_zero, List.set_cons_succ, Nat.zero_add, Nat.add_zero, Nat.reduceAdd, Nat.reduceSub, if_true, if_false, ownArgs, sFor, iSeq, szl0, szl1, szl2, szl3, szl4, szl5, Nat.zero_le, Nat.reduceLeDiff, ↓reduceIte]
      by_cases hin : (q1.2, q2.2) ∈ ks'
      · have hni2 := hni.trans (show _ = some (D.bl false) by simp [hin])
        simp only [hni2]
        refine ⟨_, rfl, ks', ws', _, _, _, _, _, _, rfl, rfl, I', hp', cl', fun l hl => ?_⟩
        by_cases hlt : l = t
        · subst hlt
          exact ⟨by rw [e3, f3]; exact ha, by rw [e3, f3]; exact hin⟩
        · exact row l (by omega)
      · have I2 := I'.more hp' hw ht (by rw [e3, f3]; exact ⟨e4, f4⟩) (by rw [e3, f3]; exact hin)
        rw [e3, f3] at I2
        have hset := set_new eqv_S okKey_S (g := eW) (h := Hp ks' ws') (n := 0) (v := w ++ [t]) rfl I'.len (by omega) hin
        have happ : (ks'.map eS).length < szL := lt_szL (by rw [List.length_map]; omega)
        simp only [eS, eI, Hp, List.set_cons_zero] at hset
        have hni2 := hni.trans (show _ = some (D.bl true) by simp [hin])
        simp only [Hp] at hni2
        simp only [Hp, hni2, callP, nrA, nr_M, nr_W, nr_I, nr_S, nr_R, Bool.and_self, Bool.true_and, Bool.and_true, D.nr, runP, runB, start0, sSeq, sRet, sAsg, sIf, sNil, sExpr, eVar, eC, bin2, un1, eNot, eAnd, eOr, eIf, eArgs, aNil, aCons, mkTup, mkLst, gN, gT, gCons, gNil, viewT, viewL, viewQ, eIsi, tyD, subTy, eChain, ltI_i, leI_i, gtI_i, geI_i, subD_i, addD_i, List.map_cons, List.map_nil, List.length_cons, List.length_nil, List.replicate, List.cons_append, List.nil_append, List.append_nil, List.getElem?_cons_zero, List.getElem?_cons_succ, List.set_cons_zero, List.set_cons_succ, Nat.zero_add, Nat.add_zero, Nat.reduceAdd, Nat.reduceSub, if_true, if_false, ownArgs, sFor, iSeq, szl0, szl1, szl2, szl3, szl4, szl5, Nat.zero_le, Nat.reduceLeDiff, ↓reduceIte, gSub, hset, eMeth, appM, viewL, if_pos happ]
        refine ⟨_, rfl, ks' ++ [(q1.2, q2.2)], ws' ++ [w ++ [t]], _, _, _, _, _, _, rfl, ?_, I2, ?_, ?_, ?_⟩
        · simp only [Hp, List.map_append, List.map_cons, List.map_nil]
          rfl
        · rw [List.getElem?_append_left hil]; exact hp'
        · intro j q hj hq l hl
          rw [List.getElem?_append_left (by omega)] at hq
          have z := cl' j q hj hq l hl
          exact ⟨z.1, List.mem_append_left _ z.2⟩
        · intro l hl
          by_cases hlt : l = t
          · subst hlt
            exact ⟨by rw [e3, f3]; exact ha, by rw [e3, f3]; simp⟩
          · have z := row l (by omega)
            exact ⟨z.1, List.mem_append_left _ z.2⟩
    · simp only [decide_eq_false ha, Bool.not_false, callP, nrA, nr_M, nr_W, nr_I, nr_S, nr_R, Bool.and_self, Bool.true_and, Bool.and_true, D.nr, runP, runB, start0, sSeq, sRet, sAsg, sIf, sNil, sExpr, eVar, eC, bin2, un1, eNot, eAnd, eOr, eIf, eArgs, aNil, aCons, mkTup, mkLst, gN, gT, gCons, gNil, viewT, viewL, viewQ, eIsi, tyD, subTy, eChain, ltI_i, leI_i, gtI_i, geI_i, subD_i, addD_i, List.map_cons, List.map_nil, List.length_cons, List.length_nil, List.replicate, List.cons_append, List.nil_append, List.append_nil, List.getElem?_cons_zero, List.getElem?_cons_succ, List.set_cons_zero, List.set_cons_succ, Nat.zero_add, Nat.add_zero, Nat.reduceAdd, Nat.reduceSub, if_true, if_false, ownArgs, sFor, iSeq, szl0, szl1, szl2, szl3, szl4, szl5, Nat.zero_le, Nat.reduceLeDiff, ↓reduceIte]
      refine ⟨_, rfl, .inl ⟨w ++ [t], _, rfl, fun x hx => ?_, by rw [List.length_append, List.length_singleton]; omega, fun e => ha ?_⟩⟩
      · rcases List.mem_append.mp hx with h | h
        · exact w1 x h
        · rw [List.mem_singleton.mp h]; exact ht
      · rw [ans_app, ans_app, w2, w3] at e
        have e5 := congrArg List.getLast? e
        simpa [ans, e3, f3] using e5
  · refine .inr ⟨ks', ws', c9, c10, c11, c12, c13, c14, by rw [eσ, eh], I', (List.getElem?_eq_some_iff.mp hp').1, fun j q hj hq l hl => ?_⟩
    by_cases h : j = i
    · subst h
      rw [hp'] at hq; cases hq
      exact row l hl
    · exact cl' j q (by omega) hq l hl
end K43
namespace K43
open TB PySem
open L2 (atI ixN)

theorem pl_S (p : Nat × Nat) : plN lvN (eS p) = true := rfl
theorem cok_S (p q : Nat × Nat) : cokN lvN (eS p) (eS q) = true := rfl
theorem nrA_S (l : List (Nat × Nat)) : nrA (l.map eS) = true := nrA_map nr_S l
theorem pp_eq {k : Nat} {m m' : Mach} (ok : OK k m) (ok' : OK k m') {a b : Nat} (ha : a < m.length) (hb : b < m'.length) :
    ∃ d, f_pair_paper [eM m, eI a, eM m', eI b] = some d ∧ ((∃ w, d = .tup [.str "word", eW w] ∧ Tells k m a m' b w) ∨ ∃ ps, d = .tup [.str "alike", .tup (ps.map eS)] ∧ (a, b) ∈ ps ∧ ∀ p ∈ ps, ∀ l, l < k → Cl k m m' ps p l) := by
  have key : ∃ o, b_pair_paper [some (eM m), some (eI a), some (eM m'), some (eI b), none, none, none, none, none, none, none, none, none, none, none] [] = some o ∧
      ∃ d h, o = .rt d h ∧ ((∃ w, d = .tup [.str "word", eW w] ∧ Tells k m a m' b w) ∨ ∃ ps, d = .tup [.str "alike", .tup (ps.map eS)] ∧ (a, b) ∈ ps ∧ ∀ p ∈ ps, ∀ l, l < k → Cl k m m' ps p l) := by
    unfold b_pair_paper
    have ok0 : okKey [] (D.tup [eI a, eI b]) = true := okKey_S [] (a, b)
    simp only [callP, nrA, nr_M, nr_W, nr_I, nr_S, nr_R, Bool.and_self, Bool.true_and, Bool.and_true, D.nr, runP, runB, start0, sSeq, sRet, sAsg, sIf, sNil, sExpr, eVar, eC, bin2, un1, eNot, eAnd, eOr, eIf, eArgs, aNil, aCons, mkTup, mkLst, gN, gT, gCons, gNil, viewT, viewL, viewQ, eIsi, tyD, subTy, eChain, ltI_i, leI_i, gtI_i, geI_i, subD_i, addD_i, List.map_cons, List.map_nil, List.length_cons, List.length_nil, List.replicate, List.cons_append, List.nil_append, List.append_nil, List.getElem?_cons_zero, List.getElem?_cons_succ, List.set_cons_zero, List.set_cons_succ, Nat.zero_add, Nat.add_zero, Nat.reduceAdd, Nat.reduceSub, if_true, if_false, ownArgs, sFor, iSeq, szl0, szl1, szl2, szl3, szl4, szl5, Nat.zero_le, Nat.reduceLeDiff, ↓reduceIte, eDisp, sWhile, ok0]
    obtain ⟨o, e, q⟩ := while_inv (Q := fun o => (∃ w h, o = .rt (.tup [.str "word", eW w]) h ∧ Tells k m a m' b w) ∨ ∃ ks ws i c7 c8 c9 c10 c11 c12 c13 c14, o = .nx [some (eM m), some (eI a), some (eM m'), some (eI b), some (.ref 0), some (.ref 1), some (eI i), c7, c8, c9, c10, c11, c12, c13, c14] (Hp ks ws) ∧ PI k m a m' b ks ws ∧ ∀ p ∈ ks, ∀ l, l < k → Cl k m m' ks p l)
      (fc := (bin2 (eVar 6) (eArgs (aCons (eVar 5) aNil) lenS) ltI)) (fb := (sSeq (sAsg (bin2 (eVar 5) (eVar 6) ixD) (gT 2 (gCons (gN 7) (gCons (gN 8) gNil)))) (sSeq (sFor (iR1 (aCons (eArgs (aCons (eVar 0) aNil) (callP f_letters_of)) aNil)) (gN 9) (sSeq (sAsg (bin2 (bin2 (eVar 0) (eVar 7) ixD) (eVar 9) ixD) (gT 2 (gCons (gN 10) (gCons (gN 11) gNil)))) (sSeq (sAsg (bin2 (bin2 (eVar 2) (eVar 8) ixD) (eVar 9) ixD) (gT 2 (gCons (gN 12) (gCons (gN 13) gNil)))) (sSeq (sAsg (bin2 (bin2 (eVar 4) (bin2 (eVar 5) (eVar 6) ixD) ixD) (eArgs (aCons (eVar 9) aNil) mkTup) addD) (gN 14)) (sSeq (sIf (bin2 (eVar 10) (eVar 12) neD) (sSeq (sRet (eArgs (aCons (eC (.str "word")) (aCons (eVar 14) aNil)) mkTup)) sNil) sNil) (sSeq (sIf (bin2 (eArgs (aCons (eVar 11) (aCons (eVar 13) aNil)) mkTup) (eVar 4) notInD) (sSeq (sAsg (eVar 14) (gSub (eVar 4) (eArgs (aCons (eVar 11) (aCons (eVar 13) aNil)) mkTup))) (sSeq (sExpr (eMeth (eVar 5) (aCons (eArgs (aCons (eVar 11) (aCons (eVar 13) aNil)) mkTup) aNil) appM)) sNil)) sNil) sNil)))))) (sSeq (sAug 6 (eC (.int 1))) sNil))))
      (fun q σ h => ∃ ks ws i c7 c8 c9 c10 c11 c12 c13 c14, q + i = 36 ∧ i ≤ ks.length ∧ σ = [some (eM m), some (eI a), some (eM m'), some (eI b), some (.ref 0), some (.ref 1), some (eI i), c7, c8, c9, c10, c11, c12, c13, c14] ∧ h = Hp ks ws ∧ PI k m a m' b ks ws ∧ ∀ j p, j < i → ks[j]? = some p → ∀ l, l < k → Cl k m m' ks p l)
      (fun q σ h ⟨ks, ws, i, c7, c8, c9, c10, c11, c12, c13, c14, eq, hi, eσ, eh, I, cl⟩ => by
        subst eσ eh
        refine ⟨decide (i < ks.length), Hp ks ws, ?_, ?_⟩
        · simp only [callP, nrA, nr_M, nr_W, nr_I, nr_S, nr_R, Bool.and_self, Bool.true_and, Bool.and_true, D.nr, runP, runB, start0, sSeq, sRet, sAsg, sIf, sNil, sExpr, eVar, eC, bin2, un1, eNot, eAnd, eOr, eIf, eArgs, aNil, aCons, mkTup, mkLst, gN, gT, gCons, gNil, viewT, viewL, viewQ, eIsi, tyD, subTy, eChain, ltI_i, leI_i, gtI_i, geI_i, subD_i, addD_i, List.map_cons, List.map_nil, List.length_cons, List.length_nil, List.replicate, List.cons_append, List.nil_append, List.append_nil, List.getElem?_cons_zero, List.getElem?_cons_succ, List.set_cons_zero, List.set_cons_succ, Nat.zero_add, Nat.add_zero, Nat.reduceAdd, Nat.reduceSub, if_true, if_false, ownArgs, sFor, iSeq, szl0, szl1, szl2, szl3, szl4, szl5, Nat.zero_le, Nat.reduceLeDiff, ↓reduceIte, Hp, lenS, eI, List.length_map]
          congr 3
          by_cases hh : i < ks.length
          · rw [decide_eq_true hh, decide_eq_true (by omega)]
          · rw [decide_eq_false hh, decide_eq_false (by omega)]
        · by_cases hh : i < ks.length
          · rw [decide_eq_true hh, if_pos rfl]
            have hp : ks[i]? = some ks[i] := List.getElem?_eq_getElem hh
            have hle := I.le ok ok'
            have hix : ixD (Hp ks ws) (.ref 1) (eI i) = some (eS ks[i]) := ix_list (e := eS) rfl hp
            have ei : ∀ σ' : Fr, σ'[0]? = some (some (eM m)) → ∀ h, iR1 (aCons (eArgs (aCons (eVar 0) aNil) (callP f_letters_of)) aNil) σ' h = some (srcR 0 k, k + 1, h) := fun σ' hσ h =>
              iR1_eq (by simp only [callP, nrA, nr_M, nr_W, nr_I, nr_S, nr_R, Bool.and_self, Bool.true_and, Bool.and_true, D.nr, runP, runB, start0, sSeq, sRet, sAsg, sIf, sNil, sExpr, eVar, eC, bin2, un1, eNot, eAnd, eOr, eIf, eArgs, aNil, aCons, mkTup, mkLst, gN, gT, gCons, gNil, viewT, viewL, viewQ, eIsi, tyD, subTy, eChain, ltI_i, leI_i, gtI_i, geI_i, subD_i, addD_i, List.map_cons, List.map_nil, List.length_cons, List.length_nil, List.replicate, List.cons_append, List.nil_append, List.append_nil, List.getElem?_cons_zero, List.getElem?_cons_succ, List.set_cons_zero, List.set_cons_succ, Nat.zero_add, Nat.add_zero, Nat.reduceAdd, Nat.reduceSub, if_true, if_false, ownArgs, sFor, iSeq, szl0, szl1, szl2, szl3, szl4, szl5, Nat.zero_le, Nat.reduceLeDiff, ↓reduceIte, hσ, letters_eq ok]; rfl) (by have := ok.k3; omega)
            obtain ⟨o, eo, q2⟩ := pp_row ok ok' (c9 := c9) (c10 := c10) (c11 := c11) (c12 := c12) (c13 := c13) (c14 := c14) I hp cl
            simp only [callP, nrA, nr_M, nr_W, nr_I, nr_S, nr_R, Bool.and_self, Bool.true_and, Bool.and_true, D.nr, runP, runB, start0, sSeq, sRet, sAsg, sIf, sNil, sExpr, eVar, eC, bin2, un1, eNot, eAnd, eOr, eIf, eArgs, aNil, aCons, mkTup, mkLst, gN, gT, gCons, gNil, viewT, viewL, viewQ, eIsi, tyD, subTy, eChain, ltI_i, leI_i, gtI_i, geI_i, subD_i, addD_i, List.map_cons, List.map_nil, List.length_cons, List.length_nil, List.replicate, List.cons_append, List.nil_append, List.append_nil, List.getElem?_cons_zero, List.getElem?_cons_succ, List.set_cons_zero, List.set_cons_succ, Nat.zero_add, Nat.add_zero, Nat.reduceAdd, Nat.reduceSub, if_true, if_false, ownArgs, sFor, iSeq, szl0, szl1, szl2, szl3, szl4, szl5, Nat.zero_le, Nat.reduceLeDiff, ↓reduceIte, hix, eS, ei [some (eM m), some (eI a), some (eM m'), some (eI b), some (.ref 0), some (.ref 1), some (eI i), some (eI ks[i].1), some (eI ks[i].2), c9, c10, c11, c12, c13, c14] rfl, eo]
            rcases q2 with ⟨w, h, rfl, tl⟩ | ⟨ks', ws', d9, d10, d11, d12, d13, d14, rfl, I', hil, cl'⟩
            · exact ⟨_, rfl, .inl ⟨w, h, rfl, tl⟩⟩
            · refine ⟨_, rfl, q - 1, by omega, ks', ws', i + 1, some (eI ks[i].1), some (eI ks[i].2), d9, d10, d11, d12, d13, d14, by omega, hil, ?_, rfl, I', cl'⟩
              rfl
          · rw [decide_eq_false hh, if_neg (by simp)]
            have : i = ks.length := by omega
            subst this
            exact .inr ⟨ks, ws, _, c7, c8, c9, c10, c11, c12, c13, c14, rfl, I, fun p hp l hl => by
              obtain ⟨j, hj, e⟩ := List.getElem_of_mem hp
              exact cl j p hj (by rw [List.getElem?_eq_getElem hj, e]) l hl⟩)
      100000 36 [some (eM m), some (eI a), some (eM m'), some (eI b), some (.ref 0), some (.ref 1), some (.int 0), none, none, none, none, none, none, none, none] [.dic [.tup [eI a, eI b]] [.tup []], .lst [.tup [eI a, eI b]]] (by omega)
      ⟨[(a, b)], [[]], 0, none, none, none, none, none, none, none, none, rfl, Nat.zero_le _, rfl, rfl, ⟨rfl, by simp, fun p hp => by rw [List.mem_singleton.mp hp]; exact ⟨ha, hb⟩, rfl, rfl, fun i p w h1 h2 => by
        cases i with
        | zero => simp at h1 h2; subst h1 h2; exact ⟨fun x hx => by simp at hx, rfl, rfl, Nat.le_refl _⟩
        | succ i => simp at h1⟩, fun j p h => absurd h (Nat.not_lt_zero _)⟩
    simp only [e]
    rcases q with ⟨w, h, rfl, tl⟩ | ⟨ks, ws, i, c7, c8, c9, c10, c11, c12, c13, c14, rfl, I, cl⟩
    · exact ⟨_, rfl, _, _, rfl, .inl ⟨w, rfl, tl⟩⟩
    · have es := sort_dic (e := eS) (h := Hp ks ws) (n := 0) rfl pl_S cok_S
      simp only [callP, nrA, nr_M, nr_W, nr_I, nr_S, nr_R, Bool.and_self, Bool.true_and, Bool.and_true, D.nr, runP, runB, start0, sSeq, sRet, sAsg, sIf, sNil, sExpr, eVar, eC, bin2, un1, eNot, eAnd, eOr, eIf, eArgs, aNil, aCons, mkTup, mkLst, gN, gT, gCons, gNil, viewT, viewL, viewQ, eIsi, tyD, subTy, eChain, ltI_i, leI_i, gtI_i, geI_i, subD_i, addD_i, List.map_cons, List.map_nil, List.length_cons, List.length_nil, List.replicate, List.cons_append, List.nil_append, List.append_nil, List.getElem?_cons_zero, List.getElem?_cons_succ, List.set_cons_zero, List.set_cons_succ, Nat.zero_add, Nat.add_zero, Nat.reduceAdd, Nat.reduceSub, if_true, if_false, ownArgs, sFor, iSeq, szl0, szl1, szl2, szl3, szl4, szl5, Nat.zero_le, Nat.reduceLeDiff, ↓reduceIte, es, tupS]
      refine ⟨_, rfl, _, _, rfl, .inr ⟨sortF eS ks, rfl, ?_, fun p hp l hl => ?_⟩⟩
      · exact (sortF_perm eS ks).mem_iff.mpr (List.mem_of_getElem? I.k0)
      · have z := cl p ((sortF_perm eS ks).mem_iff.mp hp) l hl
        exact ⟨z.1, (sortF_perm eS ks).mem_iff.mpr z.2⟩
  obtain ⟨o, e, d, h, rfl, q⟩ := key
  refine ⟨d, runP_rt rfl e (fz_nr ?_), q⟩
  rcases q with ⟨w, rfl, _⟩ | ⟨ps, rfl, _⟩
  · simp only [D.nr, nrA, nr_W, Bool.and_self]
  · simp only [D.nr, nrA, nrA_S, Bool.and_self]
theorem eq_str (h : Hs) (x y : Str) (hx : PyData.strOk x = true) (hy : PyData.strOk y = true) : eqD h (.str x) (.str y) = some (.bl (x == y)) := by
  unfold eqD
  simp only [D.fit, hx, hy, Bool.and_self, if_true, D.eqv]
theorem eq_ww (h : Hs) : eqD h (.str "word") (.str "word") = some (.bl true) := (eq_str h _ _ (by decide +kernel) (by decide +kernel)).trans (congrArg (fun b => some (D.bl b)) (by decide +kernel))
theorem eq_aw (h : Hs) : eqD h (.str "alike") (.str "word") = some (.bl false) := (eq_str h _ _ (by decide +kernel) (by decide +kernel)).trans (congrArg (fun b => some (D.bl b)) (by decide +kernel))
theorem eq_wa (h : Hs) : eqD h (.str "word") (.str "alike") = some (.bl false) := (eq_str h _ _ (by decide +kernel) (by decide +kernel)).trans (congrArg (fun b => some (D.bl b)) (by decide +kernel))
theorem eq_aa (h : Hs) : eqD h (.str "alike") (.str "alike") = some (.bl true) := (eq_str h _ _ (by decide +kernel) (by decide +kernel)).trans (congrArg (fun b => some (D.bl b)) (by decide +kernel))
theorem cl_same {k : Nat} {m m' : Mach} {ps : List (Nat × Nat)} (cl : ∀ p ∈ ps, ∀ l, l < k → Cl k m m' ps p l) : ∀ (w : List Nat) (p : Nat × Nat), p ∈ ps → Word k w → ans m p.1 w = ans m' p.2 w
  | [], _, _, _ => rfl
  | l :: w, p, hp, hw => by
    have z := cl p hp l (hw l List.mem_cons_self)
    have ih := cl_same cl w _ z.2 fun x hx => hw x (List.mem_cons_of_mem _ hx)
    simp only [ans]
    rw [z.1, ih]
def Same (k : Nat) (m : Mach) (a : Nat) (m' : Mach) (b : Nat) : Prop := ∀ w, Word k w → ans m a w = ans m' b w
theorem are_alike_eq {k : Nat} {m m' : Mach} (ok : OK k m) (ok' : OK k m') {a b : Nat} (ha : a < m.length) (hb : b < m'.length) :
    (Same k m a m' b ∧ f_are_alike [eM m, eI a, eM m', eI b] = some (.bl true)) ∨ (¬ Same k m a m' b ∧ f_are_alike [eM m, eI a, eM m', eI b] = some (.bl false)) := by
  obtain ⟨d, e, q⟩ := pp_eq ok ok' ha hb
  have ix0 : ∀ (x y : D), ixD [] (.tup [x, y]) (.int 0) = some x := fun _ _ => rfl
  rcases q with ⟨w, rfl, tl⟩ | ⟨ps, rfl, hab, cl⟩
  · refine .inr ⟨fun s => tl.2.2 (s w tl.1), ?_⟩
    have key : b_are_alike [some (eM m), some (eI a), some (eM m'), some (eI b)] [] = some (.rt (.bl false) []) := by
      unfold b_are_alike
      simp only [callP, nrA, nr_M, nr_W, nr_I, nr_S, nr_R, Bool.and_self, Bool.true_and, Bool.and_true, D.nr, runP, runB, start0, sSeq, sRet, sAsg, sIf, sNil, sExpr, eVar, eC, bin2, un1, eNot, eAnd, eOr, eIf, eArgs, aNil, aCons, mkTup, mkLst, gN, gT, gCons, gNil, viewT, viewL, viewQ, eIsi, tyD, subTy, eChain, ltI_i, leI_i, gtI_i, geI_i, subD_i, addD_i, List.map_cons, List.map_nil, List.length_cons, List.length_nil, List.replicate, List.cons_append, List.nil_append, List.append_nil, List.getElem?_cons_zero, List.getElem?_cons_succ, List.set_cons_zero, List.set_cons_succ, Nat.zero_add, Nat.add_zero, Nat.reduceAdd, Nat.reduceSub, if_true, if_false, ownArgs, sFor, iSeq, szl0, szl1, szl2, szl3, szl4, szl5, Nat.zero_le, Nat.reduceLeDiff, ↓reduceIte, e, ix0, eq_ww, eq_wa, eq_aw, eq_aa]
    exact runP_rt rfl key (fz_nr rfl)
  · refine .inl ⟨fun w hw => cl_same cl w _ hab hw, ?_⟩
    have key : b_are_alike [some (eM m), some (eI a), some (eM m'), some (eI b)] [] = some (.rt (.bl true) []) := by
      unfold b_are_alike
      simp only [callP, nrA, nr_M, nr_W, nr_I, nr_S, nr_R, Bool.and_self, Bool.true_and, Bool.and_true, D.nr, runP, runB, start0, sSeq, sRet, sAsg, sIf, sNil, sExpr, eVar, eC, bin2, un1, eNot, eAnd, eOr, eIf, eArgs, aNil, aCons, mkTup, mkLst, gN, gT, gCons, gNil, viewT, viewL, viewQ, eIsi, tyD, subTy, eChain, ltI_i, leI_i, gtI_i, geI_i, subD_i, addD_i, List.map_cons, List.map_nil, List.length_cons, List.length_nil, List.replicate, List.cons_append, List.nil_append, List.append_nil, List.getElem?_cons_zero, List.getElem?_cons_succ, List.set_cons_zero, List.set_cons_succ, Nat.zero_add, Nat.add_zero, Nat.reduceAdd, Nat.reduceSub, if_true, if_false, ownArgs, sFor, iSeq, szl0, szl1, szl2, szl3, szl4, szl5, Nat.zero_le, Nat.reduceLeDiff, ↓reduceIte, e, ix0, eq_ww, eq_wa, eq_aw, eq_aa]
    exact runP_rt rfl key (fz_nr rfl)
theorem are_same_eq {k : Nat} {m m' : Mach} (ok : OK k m) (ok' : OK k m') :
    (Same k m 0 m' 0 ∧ f_are_same [eM m, eM m'] = some (.bl true)) ∨ (¬ Same k m 0 m' 0 ∧ f_are_same [eM m, eM m'] = some (.bl false)) := by
  have h1 : 0 < m.length := List.length_pos_iff.mpr ok.ne
  have h2 : 0 < m'.length := List.length_pos_iff.mpr ok'.ne
  have go : ∀ b : Bool, f_are_alike [eM m, eI 0, eM m', eI 0] = some (.bl b) → f_are_same [eM m, eM m'] = some (.bl b) := fun b e => by
    have key : b_are_same [some (eM m), some (eM m')] [] = some (.rt (.bl b) []) := by
      unfold b_are_same
      have e' : f_are_alike [eM m, D.int 0, eM m', D.int 0] = some (.bl b) := e
      simp only [callP, nrA, nr_M, nr_W, nr_I, nr_S, nr_R, Bool.and_self, Bool.true_and, Bool.and_true, D.nr, runP, runB, start0, sSeq, sRet, sAsg, sIf, sNil, sExpr, eVar, eC, bin2, un1, eNot, eAnd, eOr, eIf, eArgs, aNil, aCons, mkTup, mkLst, gN, gT, gCons, gNil, viewT, viewL, viewQ, eIsi, tyD, subTy, eChain, ltI_i, leI_i, gtI_i, geI_i, subD_i, addD_i, List.map_cons, List.map_nil, List.length_cons, List.length_nil, List.replicate, List.cons_append, List.nil_append, List.append_nil, List.getElem?_cons_zero, List.getElem?_cons_succ, List.set_cons_zero, List.set_cons_succ, Nat.zero_add, Nat.add_zero, Nat.reduceAdd, Nat.reduceSub, if_true, if_false, ownArgs, sFor, iSeq, szl0, szl1, szl2, szl3, szl4, szl5, Nat.zero_le, Nat.reduceLeDiff, ↓reduceIte, e']
    exact runP_rt rfl key (fz_nr rfl)
  rcases are_alike_eq ok ok' h1 h2 with ⟨s, e⟩ | ⟨s, e⟩
  · exact .inl ⟨s, go _ e⟩
  · exact .inr ⟨s, go _ e⟩
theorem parting_eq {k : Nat} {m m' : Mach} (ok : OK k m) (ok' : OK k m') {a b : Nat} (ha : a < m.length) (hb : b < m'.length) :
    (Same k m a m' b ∧ f_parting_word [eM m, eI a, eM m', eI b] = some .non) ∨ ∃ w, Tells k m a m' b w ∧ f_parting_word [eM m, eI a, eM m', eI b] = some (eW w) := by
  obtain ⟨d, e, q⟩ := pp_eq ok ok' ha hb
  have ix0 : ∀ (x y : D), ixD [] (.tup [x, y]) (.int 0) = some x := fun _ _ => rfl
  have ix1 : ∀ (x y : D), ixD [] (.tup [x, y]) (.int 1) = some y := fun _ _ => rfl
  rcases q with ⟨w, rfl, tl⟩ | ⟨ps, rfl, hab, cl⟩
  · refine .inr ⟨w, tl, ?_⟩
    have key : b_parting_word [some (eM m), some (eI a), some (eM m'), some (eI b), none] [] = some (.rt (eW w) []) := by
      unfold b_parting_word
      simp only [callP, nrA, nr_M, nr_W, nr_I, nr_S, nr_R, Bool.and_self, Bool.true_and, Bool.and_true, D.nr, runP, runB, start0, sSeq, sRet, sAsg, sIf, sNil, sExpr, eVar, eC, bin2, un1, eNot, eAnd, eOr, eIf, eArgs, aNil, aCons, mkTup, mkLst, gN, gT, gCons, gNil, viewT, viewL, viewQ, eIsi, tyD, subTy, eChain, ltI_i, leI_i, gtI_i, geI_i, subD_i, addD_i, List.map_cons, List.map_nil, List.length_cons, List.length_nil, List.replicate, List.cons_append, List.nil_append, List.append_nil, List.getElem?_cons_zero, List.getElem?_cons_succ, List.set_cons_zero, List.set_cons_succ, Nat.zero_add, Nat.add_zero, Nat.reduceAdd, Nat.reduceSub, if_true, if_false, ownArgs, sFor, iSeq, szl0, szl1, szl2, szl3, szl4, szl5, Nat.zero_le, Nat.reduceLeDiff, ↓reduceIte, e, ix0, ix1, eq_ww]
    exact runP_rt rfl key (fz_nr (nr_W _))
  · refine .inl ⟨fun w hw => cl_same cl w _ hab hw, ?_⟩
    have key : b_parting_word [some (eM m), some (eI a), some (eM m'), some (eI b), none] [] = some (.rt .non []) := by
      unfold b_parting_word
      simp only [callP, nrA, nr_M, nr_W, nr_I, nr_S, nr_R, Bool.and_self, Bool.true_and, Bool.and_true, D.nr, runP, runB, start0, sSeq, sRet, sAsg, sIf, sNil, sExpr, eVar, eC, bin2, un1, eNot, eAnd, eOr, eIf, eArgs, aNil, aCons, mkTup, mkLst, gN, gT, gCons, gNil, viewT, viewL, viewQ, eIsi, tyD, subTy, eChain, ltI_i, leI_i, gtI_i, geI_i, subD_i, addD_i, List.map_cons, List.map_nil, List.length_cons, List.length_nil, List.replicate, List.cons_append, List.nil_append, List.append_nil, List.getElem?_cons_zero, List.getElem?_cons_succ, List.set_cons_zero, List.set_cons_succ, Nat.zero_add, Nat.add_zero, Nat.reduceAdd, Nat.reduceSub, if_true, if_false, ownArgs, sFor, iSeq, szl0, szl1, szl2, szl3, szl4, szl5, Nat.zero_le, Nat.reduceLeDiff, ↓reduceIte, e, ix0, ix1, eq_aw]
    exact runP_rt rfl key (fz_nr rfl)
end K43
namespace K43
open TB PySem
open L2 (atI ixN)

/-- the pair is told by one of these words -/
def Td (k : Nat) (m : Mach) (ts : List (List Nat)) (a b : Nat) : Prop := a < b → Same k m a m b ∨ ∃ t ∈ ts, ans m a t ≠ ans m b t
theorem Td.mono {k : Nat} {m : Mach} {ts ts' : List (List Nat)} {a b : Nat} (h : ∀ t ∈ ts, t ∈ ts') (T : Td k m ts a b) : Td k m ts' a b := fun hab => (T hab).imp id fun ⟨t, ht, e⟩ => ⟨t, h t ht, e⟩
theorem not_non_W (h : Hs) (w : List Nat) : notN h (eW w) .non = some (.bl true) := rfl
theorem tell_row {k : Nat} {m : Mach} (ok : OK k m) {rs : List Nat} (hr : ∀ s ∈ rs, s < m.length) {a : Nat} (ha : a < m.length) {ts : List (List Nat)} (nd : ts.Nodup) (hw : ∀ t ∈ ts, Word k t ∧ t.length ≤ 37) (hz : ts.length + rs.length ≤ 1000) {c3 c4 : Option D} :
    ∃ o, sForN (srcL (rs.map eI)) (gN 3) (sSeq (sAsg (eIf (bin2 (eVar 2) (eVar 3) ltI) (eArgs (aCons (eVar 0) (aCons (eVar 2) (aCons (eVar 0) (aCons (eVar 3) aNil)))) (callP f_parting_word)) (eC .non)) (gN 4)) (sSeq (sIf (bin2 (eVar 4) (eC .non) notN) (sSeq (sAsg (eC (.bl true)) (gSub (eVar 1) (eVar 4))) sNil) sNil) sNil)) ((rs.map eI).length + 1) 0
      [some (eM m), some (.ref 0), some (eI a), c3, c4] [.dic (ts.map eW) (tts ts.length)] = some o ∧
      ∃ ts' c3 c4, o = .nx [some (eM m), some (.ref 0), some (eI a), c3, c4] [.dic (ts'.map eW) (tts ts'.length)] ∧ ts'.Nodup ∧ (∀ t ∈ ts', Word k t ∧ t.length ≤ 37) ∧ ts'.length ≤ ts.length + rs.length ∧ (∀ t ∈ ts, t ∈ ts') ∧ ∀ b ∈ rs, Td k m ts' a b := by
  refine forM_inv (e := eI) (l := rs) (fun ys σ h => ∃ ts' c3 c4, σ = [some (eM m), some (.ref 0), some (eI a), c3, c4] ∧ h = [.dic (ts'.map eW) (tts ts'.length)] ∧ ts'.Nodup ∧ (∀ t ∈ ts', Word k t ∧ t.length ≤ 37) ∧ ts'.length ≤ ts.length + ys.length ∧ (∀ t ∈ ts, t ∈ ts') ∧ ∀ b ∈ ys, Td k m ts' a b)
    (fun ys b zs σ h hl ⟨ts', c3, c4, eσ, eh, nd', hw', hlen, hsub, htd⟩ => ?_) (fun σ h ⟨ts', c3, c4, eσ, eh, nd', hw', hlen, hsub, htd⟩ => ⟨ts', c3, c4, by rw [eσ, eh], nd', hw', hlen, hsub, htd⟩)
    ⟨ts, c3, c4, rfl, rfl, nd, hw, Nat.le_refl _, fun _ h => h, fun b hb => by simp at hb⟩
  subst eσ eh
  have hb : b < m.length := hr b (by rw [hl]; simp)
  have hyl : ys.length + 1 ≤ rs.length := by rw [hl]; simp
  refine ⟨_, _, rfl, ?_⟩
  have elt : decide ((a : Int) < (b : Int)) = decide (a < b) := by
    by_cases h : a < b
    · rw [decide_eq_true h, decide_eq_true (by omega)]
    · rw [decide_eq_false h, decide_eq_false (by omega)]
  simp only [callP, nrA, nr_M, nr_W, nr_I, nr_S, nr_R, Bool.and_self, Bool.true_and, Bool.and_true, D.nr, runP, runB, start0, sSeq, sRet, sAsg, sIf, sNil, sExpr, eVar, eC, bin2, un1, eNot, eAnd, eOr, eIf, eArgs, aNil, aCons, mkTup, mkLst, gN, gT, gCons, gNil, viewT, viewL, viewQ, eIsi, tyD, subTy, eChain, ltI_i, leI_i, gtI_i, geI_i, subD_i, addD_i, List.map_cons, List.map_nil, List.length_cons, List.length_nil, List.replicate, List.cons_append, List.nil_append, List.append_nil, List.getElem?_cons_zero, List.getElem?_cons_succ, List.set_cons_zero, List.set_cons_succ, Nat.zero_add, Nat.add_zero, Nat.reduceAdd, Nat.reduceSub, if_true, if_false, ownArgs, sFor, iSeq, szl0, szl1, szl2, szl3, szl4, szl5, Nat.zero_le, Nat.reduceLeDiff, ↓reduceIte, eI, elt]
  by_cases hab : a < b
  · rcases parting_eq ok ok ha hb with ⟨s, e⟩ | ⟨w, tl, e⟩
    · simp only [eI] at e
      have en : notN [Ob.dic (ts'.map eW) (tts ts'.length)] D.non D.non = some (.bl false) := rfl
      simp only [decide_eq_true hab, callP, nrA, nr_M, nr_W, nr_I, nr_S, nr_R, Bool.and_self, Bool.true_and, Bool.and_true, D.nr, runP, runB, start0, sSeq, sRet, sAsg, sIf, sNil, sExpr, eVar, eC, bin2, un1, eNot, eAnd, eOr, eIf, eArgs, aNil, aCons, mkTup, mkLst, gN, gT, gCons, gNil, viewT, viewL, viewQ, eIsi, tyD, subTy, eChain, ltI_i, leI_i, gtI_i, geI_i, subD_i, addD_i, List.map_cons, List.map_nil, List.length_cons, List.length_nil, List.replicate, List.cons_append, List.nil_append, List.append_nil, List.getElem?_cons_zero, List.getElem?_cons_succ, List.set_cons_zero, List.set_cons_succ, Nat.zero_add, Nat.add_zero, Nat.reduceAdd, Nat.reduceSub, if_true, if_false, ownArgs, sFor, iSeq, szl0, szl1, szl2, szl3, szl4, szl5, Nat.zero_le, Nat.reduceLeDiff, ↓reduceIte, e, en]
      refine ⟨_, rfl, ts', _, _, rfl, rfl, nd', hw', by rw [List.length_append, List.length_singleton]; omega, hsub, fun b' hb' => ?_⟩
      rcases List.mem_append.mp hb' with h | h
      · exact htd b' h
      · rw [List.mem_singleton.mp h]; exact fun _ => .inl s
    · simp only [eI] at e
      have hset := set_tt (h := [.dic (ts'.map eW) (tts ts'.length)]) (n := 0) (cs := ts') (q := w) rfl (by omega)
      simp only [decide_eq_true hab, callP, nrA, nr_M, nr_W, nr_I, nr_S, nr_R, Bool.and_self, Bool.true_and, Bool.and_true, D.nr, runP, runB, start0, sSeq, sRet, sAsg, sIf, sNil, sExpr, eVar, eC, bin2, un1, eNot, eAnd, eOr, eIf, eArgs, aNil, aCons, mkTup, mkLst, gN, gT, gCons, gNil, viewT, viewL, viewQ, eIsi, tyD, subTy, eChain, ltI_i, leI_i, gtI_i, geI_i, subD_i, addD_i, List.map_cons, List.map_nil, List.length_cons, List.length_nil, List.replicate, List.cons_append, List.nil_append, List.append_nil, List.getElem?_cons_zero, List.getElem?_cons_succ, List.set_cons_zero, List.set_cons_succ, Nat.zero_add, Nat.add_zero, Nat.reduceAdd, Nat.reduceSub, if_true, if_false, ownArgs, sFor, iSeq, szl0, szl1, szl2, szl3, szl4, szl5, Nat.zero_le, Nat.reduceLeDiff, ↓reduceIte, e, not_non_W, gSub, hset]
      refine ⟨_, rfl, addk ts' w, _, _, rfl, rfl, addk_nodup nd', fun t ht => ?_, ?_, fun t ht => addk_mem.mpr (.inl (hsub t ht)), fun b' hb' => ?_⟩
      · rcases addk_mem.mp ht with h | h
        · exact hw' t h
        · rw [h]; exact ⟨tl.1, tl.2.1⟩
      · have := addk_len ts' w
        rw [List.length_append, List.length_singleton]; omega
      · rcases List.mem_append.mp hb' with h | h
        · exact (htd b' h).mono fun t ht => addk_mem.mpr (.inl ht)
        · rw [List.mem_singleton.mp h]; exact fun _ => .inr ⟨w, addk_mem.mpr (.inr rfl), tl.2.2⟩
  · have en : notN [Ob.dic (ts'.map eW) (tts ts'.length)] D.non D.non = some (.bl false) := rfl
    simp only [decide_eq_false hab, callP, nrA, nr_M, nr_W, nr_I, nr_S, nr_R, Bool.and_self, Bool.true_and, Bool.and_true, D.nr, runP, runB, start0, sSeq, sRet, sAsg, sIf, sNil, sExpr, eVar, eC, bin2, un1, eNot, eAnd, eOr, eIf, eArgs, aNil, aCons, mkTup, mkLst, gN, gT, gCons, gNil, viewT, viewL, viewQ, eIsi, tyD, subTy, eChain, ltI_i, leI_i, gtI_i, geI_i, subD_i, addD_i, List.map_cons, List.map_nil, List.length_cons, List.length_nil, List.replicate, List.cons_append, List.nil_append, List.append_nil, List.getElem?_cons_zero, List.getElem?_cons_succ, List.set_cons_zero, List.set_cons_succ, Nat.zero_add, Nat.add_zero, Nat.reduceAdd, Nat.reduceSub, if_true, if_false, ownArgs, sFor, iSeq, szl0, szl1, szl2, szl3, szl4, szl5, Nat.zero_le, Nat.reduceLeDiff, ↓reduceIte, en]
    refine ⟨_, rfl, ts', _, _, rfl, rfl, nd', hw', by rw [List.length_append, List.length_singleton]; omega, hsub, fun b' hb' => ?_⟩
    rcases List.mem_append.mp hb' with h | h
    · exact htd b' h
    · rw [List.mem_singleton.mp h]; exact fun z => absurd z hab
theorem telling_eq {k : Nat} {m : Mach} (ok : OK k m) {ks : List Nat} {ws : List (List Nat)} (e : f_ways [eM m] = some (.dic (ks.map eI) (ws.map eW))) (I : WI k m ks ws) :
    ∃ ts, f_telling_set [eM m] = some (eP (sortF eW ts)) ∧ ts.Nodup ∧ (∀ t ∈ ts, Word k t ∧ t.length ≤ 37) ∧ ts.length ≤ 36 ∧ ∀ a ∈ ks, ∀ b ∈ ks, Td k m ts a b := by
  have hrm : ∀ x, x ∈ sortF eI ks ↔ x ∈ ks := fun x => (sortF_perm eI ks).mem_iff
  have hrl : (sortF eI ks).length ≤ 6 := by rw [(sortF_perm eI ks).length_eq]; exact Nat.le_trans I.le ok.le
  have hr : ∀ s ∈ sortF eI ks, s < m.length := fun s hs => I.lt s ((hrm s).mp hs)
  have er := reached_eq (k := k) e
  generalize hrs : sortF eI ks = rs at hrm hrl hr er
  have key : ∃ o, b_telling_set [some (eM m), none, none, none, none] [] = some o ∧ ∃ ts h, o = .rt (eP (sortF eW ts)) h ∧ ts.Nodup ∧ (∀ t ∈ ts, Word k t ∧ t.length ≤ 37) ∧ ts.length ≤ 36 ∧ ∀ a ∈ rs, ∀ b ∈ rs, Td k m ts a b := by
    unfold b_telling_set
    have ei : ∀ σ' : Fr, σ'[0]? = some (some (eM m)) → ∀ h, iSeq (eArgs (aCons (eVar 0) aNil) (callP f_reached)) σ' h = some (srcL (rs.map eI), (rs.map eI).length + 1, h) := fun σ' hσ h => iSeq_tup (by simp only [callP, nrA, nr_M, nr_W, nr_I, nr_S, nr_R, Bool.and_self, Bool.true_and, Bool.and_true, D.nr, runP, runB, start0, sSeq, sRet, sAsg, sIf, sNil, sExpr, eVar, eC, bin2, un1, eNot, eAnd, eOr, eIf, eArgs, aNil, aCons, mkTup, mkLst, gN, gT, gCons, gNil, viewT, viewL, viewQ, eIsi, tyD, subTy, eChain, ltI_i, leI_i, gtI_i, geI_i, subD_i, addD_i, List.map_cons, List.map_nil, List.length_cons, List.length_nil, List.replicate, List.cons_append, List.nil_append, List.append_nil, List.getElem?_cons_zero, List.getElem?_cons_succ, List.set_cons_zero, List.set_cons_succ, Nat.zero_add, Nat.add_zero, Nat.reduceAdd, Nat.reduceSub, if_true, if_false, ownArgs, sFor, iSeq, szl0, szl1, szl2, szl3, szl4, szl5, Nat.zero_le, Nat.reduceLeDiff, ↓reduceIte, hσ, er])
    simp only [callP, nrA, nr_M, nr_W, nr_I, nr_S, nr_R, Bool.and_self, Bool.true_and, Bool.and_true, D.nr, runP, runB, start0, sSeq, sRet, sAsg, sIf, sNil, sExpr, eVar, eC, bin2, un1, eNot, eAnd, eOr, eIf, eArgs, aNil, aCons, mkTup, mkLst, gN, gT, gCons, gNil, viewT, viewL, viewQ, eIsi, tyD, subTy, eChain, ltI_i, leI_i, gtI_i, geI_i, subD_i, addD_i, List.map_cons, List.map_nil, List.length_cons, List.length_nil, List.replicate, List.cons_append, List.nil_append, List.append_nil, List.getElem?_cons_zero, List.getElem?_cons_succ, List.set_cons_zero, List.set_cons_succ, Nat.zero_add, Nat.add_zero, Nat.reduceAdd, Nat.reduceSub, if_true, if_false, ownArgs, sFor, iSeq, szl0, szl1, szl2, szl3, szl4, szl5, Nat.zero_le, Nat.reduceLeDiff, ↓reduceIte, eDic0, er, viewQ]
    obtain ⟨o, eo, ts, c2, c3, c4, rfl, nd, hw, hlen, htd⟩ := forM_inv (e := eI) (l := rs) (gt := gN 2) (fb := (sSeq (sFor (iSeq (eArgs (aCons (eVar 0) aNil) (callP f_reached))) (gN 3) (sSeq (sAsg (eIf (bin2 (eVar 2) (eVar 3) ltI) (eArgs (aCons (eVar 0) (aCons (eVar 2) (aCons (eVar 0) (aCons (eVar 3) aNil)))) (callP f_parting_word)) (eC .non)) (gN 4)) (sSeq (sIf (bin2 (eVar 4) (eC .non) notN) (sSeq (sAsg (eC (.bl true)) (gSub (eVar 1) (eVar 4))) sNil) sNil) sNil))) sNil))
      (σ := [some (eM m), some (.ref 0), none, none, none]) (h := [.dic [] []])
      (Q := fun o => ∃ ts c2 c3 c4, o = .nx [some (eM m), some (.ref 0), c2, c3, c4] [.dic (ts.map eW) (tts ts.length)] ∧ ts.Nodup ∧ (∀ t ∈ ts, Word k t ∧ t.length ≤ 37) ∧ ts.length ≤ rs.length * rs.length ∧ ∀ a ∈ rs, ∀ b ∈ rs, Td k m ts a b)
      (fun ys σ h => ∃ ts c2 c3 c4, σ = [some (eM m), some (.ref 0), c2, c3, c4] ∧ h = [.dic (ts.map eW) (tts ts.length)] ∧ ts.Nodup ∧ (∀ t ∈ ts, Word k t ∧ t.length ≤ 37) ∧ ts.length ≤ ys.length * rs.length ∧ ∀ a ∈ ys, ∀ b ∈ rs, Td k m ts a b)
      (fun ys a zs σ h hl ⟨ts, c2, c3, c4, eσ, eh, nd, hw, hlen, htd⟩ => by
        subst eσ eh
        have ha : a < m.length := hr a (by rw [hl]; simp)
        have hyl : ys.length + 1 ≤ rs.length := by rw [hl]; simp
        have hmul : ys.length * rs.length ≤ 6 * 6 := Nat.mul_le_mul (by omega) hrl
        refine ⟨_, _, rfl, ?_⟩
        obtain ⟨o, eo, ts', d3, d4, rfl, nd', hw', hlen', hsub, htd'⟩ := tell_row ok hr ha nd hw (by omega) (c3 := c3) (c4 := c4)
        simp only [callP, nrA, nr_M, nr_W, nr_I, nr_S, nr_R, Bool.and_self, Bool.true_and, Bool.and_true, D.nr, runP, runB, start0, sSeq, sRet, sAsg, sIf, sNil, sExpr, eVar, eC, bin2, un1, eNot, eAnd, eOr, eIf, eArgs, aNil, aCons, mkTup, mkLst, gN, gT, gCons, gNil, viewT, viewL, viewQ, eIsi, tyD, subTy, eChain, ltI_i, leI_i, gtI_i, geI_i, subD_i, addD_i, List.map_cons, List.map_nil, List.length_cons, List.length_nil, List.replicate, List.cons_append, List.nil_append, List.append_nil, List.getElem?_cons_zero, List.getElem?_cons_succ, List.set_cons_zero, List.set_cons_succ, Nat.zero_add, Nat.add_zero, Nat.reduceAdd, Nat.reduceSub, if_true, if_false, ownArgs, sFor, iSeq, szl0, szl1, szl2, szl3, szl4, szl5, Nat.zero_le, Nat.reduceLeDiff, ↓reduceIte, er, viewQ, eo]
        refine ⟨_, rfl, ts', _, d3, d4, rfl, rfl, nd', hw', ?_, fun a' ha' b hb => ?_⟩
        · rw [List.length_append, List.length_singleton, Nat.add_mul, Nat.one_mul]; omega
        · rcases List.mem_append.mp ha' with h | h
          · exact (htd a' h b hb).mono hsub
          · rw [List.mem_singleton.mp h]; exact htd' b hb)
      (fun σ h ⟨ts, c2, c3, c4, eσ, eh, nd, hw, hlen, htd⟩ => ⟨ts, c2, c3, c4, by rw [eσ, eh], nd, hw, hlen, htd⟩)
      ⟨[], none, none, none, rfl, rfl, List.nodup_nil, fun t ht => by simp at ht, by simp, fun a ha => by simp at ha⟩
    have es := sort_dic (e := eW) (h := [.dic (ts.map eW) (tts ts.length)]) (n := 0) rfl pl_W cok_W
    simp only [eo, callP, nrA, nr_M, nr_W, nr_I, nr_S, nr_R, Bool.and_self, Bool.true_and, Bool.and_true, D.nr, runP, runB, start0, sSeq, sRet, sAsg, sIf, sNil, sExpr, eVar, eC, bin2, un1, eNot, eAnd, eOr, eIf, eArgs, aNil, aCons, mkTup, mkLst, gN, gT, gCons, gNil, viewT, viewL, viewQ, eIsi, tyD, subTy, eChain, ltI_i, leI_i, gtI_i, geI_i, subD_i, addD_i, List.map_cons, List.map_nil, List.length_cons, List.length_nil, List.replicate, List.cons_append, List.nil_append, List.append_nil, List.getElem?_cons_zero, List.getElem?_cons_succ, List.set_cons_zero, List.set_cons_succ, Nat.zero_add, Nat.add_zero, Nat.reduceAdd, Nat.reduceSub, if_true, if_false, ownArgs, sFor, iSeq, szl0, szl1, szl2, szl3, szl4, szl5, Nat.zero_le, Nat.reduceLeDiff, ↓reduceIte, es, tupS]
    refine ⟨_, rfl, ts, _, rfl, nd, hw, ?_, htd⟩
    have : rs.length * rs.length ≤ 6 * 6 := Nat.mul_le_mul hrl hrl
    omega
  obtain ⟨o, e2, ts, h, rfl, nd, hw, hl, htd⟩ := key
  exact ⟨ts, runP_rt rfl e2 (fz_nr (nr_P _)), nd, hw, hl, fun a ha b hb => htd a ((hrm a).mpr ha) b ((hrm b).mpr hb)⟩
end K43
namespace K43
open TB PySem
open L2 (atI ixN)

def wordsN (k : Nat) : Nat → List (List Nat)
  | 0 => [[]]
  | n + 1 => (wordsN k n).flatMap fun w => (List.range k).map fun l => w ++ [l]
theorem wordsN_mem {k : Nat} : ∀ {n : Nat} {w : List Nat}, w ∈ wordsN k n ↔ Word k w ∧ w.length = n
  | 0, w => by
    simp only [wordsN, List.mem_singleton]
    constructor
    · rintro rfl; exact ⟨fun x hx => by simp at hx, rfl⟩
    · rintro ⟨_, h⟩; exact List.length_eq_zero_iff.mp h
  | n + 1, w => by
    simp only [wordsN, List.mem_flatMap, List.mem_map, List.mem_range]
    constructor
    · rintro ⟨v, hv, l, hl, rfl⟩
      obtain ⟨h1, h2⟩ := wordsN_mem.mp hv
      refine ⟨fun x hx => ?_, by rw [List.length_append, List.length_singleton, h2]⟩
      rcases List.mem_append.mp hx with h | h
      · exact h1 x h
      · rw [List.mem_singleton.mp h]; exact hl
    · rintro ⟨h1, h2⟩
      have hne : w ≠ [] := fun z => by rw [z] at h2; simp at h2
      refine ⟨w.dropLast, wordsN_mem.mpr ⟨fun x hx => h1 x (List.dropLast_subset w hx), by rw [List.length_dropLast, h2]; omega⟩, w.getLast hne, h1 _ (List.getLast_mem hne), List.dropLast_concat_getLast hne⟩
theorem wordsN_len {k : Nat} (h3 : k ≤ 3) : ∀ {n : Nat}, n ≤ 4 → (wordsN k n).length ≤ 3 ^ n
  | 0, _ => Nat.le_refl _
  | n + 1, hn => by
    simp only [wordsN, List.length_flatMap, List.length_map, List.length_range]
    have ih := wordsN_len h3 (n := n) (by omega)
    have e : ∀ l : List (List Nat), (l.map fun _ => k).sum = l.length * k := fun l => by
      induction l with
      | nil => simp
      | cons x l ih => simp only [List.map_cons, List.sum_cons, ih, List.length_cons, Nat.add_mul, Nat.one_mul]; omega
    rw [e, Nat.pow_succ]
    exact Nat.mul_le_mul ih h3
theorem words_of_eq {k n : Nat} (h3 : k ≤ 3) (hn : n ≤ 4) : f_words_of [eI k, eI n] = some (.lst ((wordsN k n).map eW)) := by
  have key : ∃ o, b_words_of [some (eI k), some (eI n), none, none, none, none] [] = some o ∧ o = .rt (.lst ((wordsN k n).map eW)) [] := by
    unfold b_words_of
    have ei : iR1 (aCons (eVar 1) aNil) [some (eI k), some (eI n), some (.lst [.tup []]), none, none, none] [] = some (srcR 0 n, n + 1, []) := iR1_eq rfl (by omega)
    simp only [callP, nrA, nr_M, nr_W, nr_I, nr_S, nr_R, Bool.and_self, Bool.true_and, Bool.and_true, D.nr, runP, runB, start0, sSeq, sRet, sAsg, sIf, sNil, sExpr, eVar, eC, bin2, un1, eNot, eAnd, eOr, eIf, eArgs, aNil, aCons, mkTup, mkLst, gN, gT, gCons, gNil, viewT, viewL, viewQ, eIsi, tyD, subTy, eChain, ltI_i, leI_i, gtI_i, geI_i, subD_i, addD_i, List.map_cons, List.map_nil, List.length_cons, List.length_nil, List.replicate, List.cons_append, List.nil_append, List.append_nil, List.getElem?_cons_zero, List.getElem?_cons_succ, List.set_cons_zero, List.set_cons_succ, Nat.zero_add, Nat.add_zero, Nat.reduceAdd, Nat.reduceSub, if_true, if_false, ownArgs, sFor, iSeq, szl0, szl1, szl2, szl3, szl4, szl5, Nat.zero_le, Nat.reduceLeDiff, ↓reduceIte, ei]
    obtain ⟨o, eo, c3, rfl⟩ := forR_inv (n := n) (gt := gN 3) (fb := (sSeq (sAsg (eLc2 (iSeq (eVar 2)) (gN 5) eT (iR1 (aCons (eVar 0) aNil)) (gN 4) eT (bin2 (eVar 5) (eArgs (aCons (eVar 4) aNil) mkTup) addD) [5, 4] [4]) (gN 2)) sNil))
      (σ := [some (eI k), some (eI n), some (.lst [.tup []]), none, none, none]) (h := [])
      (Q := fun o => ∃ c3, o = .nx [some (eI k), some (eI n), some (.lst ((wordsN k n).map eW)), c3, none, none] [])
      (fun i σ h => ∃ c3, σ = [some (eI k), some (eI n), some (.lst ((wordsN k i).map eW)), c3, none, none] ∧ h = [])
      (fun i σ h hi ⟨c3, eσ, eh⟩ => by
        subst eσ eh
        refine ⟨_, _, rfl, ?_⟩
        have el := lc2M_eval (e := eW) (l := wordsN k i) (gt := gN 5) (ft := eT) (fi1 := iR1 (aCons (eVar 0) aNil)) (gt1 := gN 4) (ft1 := eT) (fe := (bin2 (eVar 5) (eArgs (aCons (eVar 4) aNil) mkTup) addD)) (own := [5, 4]) (own1 := [4])
          (σ := [some (eI k), some (eI n), some (.lst ((wordsN k i).map eW)), some (.int (i : Nat)), none, none]) (h := []) (F := fun w => ((List.range k).filter fun _ => true).map fun l => eW (w ++ [l]))
          (fun w hw => by
            refine ⟨[some (eI k), some (eI n), some (.lst ((wordsN k i).map eW)), some (.int (i : Nat)), none, some (eW w)], rfl, rfl, srcR 0 k, k + 1, iR1_eq rfl (by omega), ?_⟩
            refine lcR_eval (p := fun _ => true) (f := fun l => eW (w ++ [l])) fun l hl => ⟨[some (eI k), some (eI n), some (.lst ((wordsN k i).map eW)), some (.int (i : Nat)), some (.int (0 + (l : Nat))), some (eW w)], rfl, rfl, fun _ => ?_⟩
            have hadd := add_W [] w l (by have := (wordsN_mem.mp hw).2; omega)
            simp only [eI] at hadd
            rw [Int.zero_add]
            simp only [callP, nrA, nr_M, nr_W, nr_I, nr_S, nr_R, Bool.and_self, Bool.true_and, Bool.and_true, D.nr, runP, runB, start0, sSeq, sRet, sAsg, sIf, sNil, sExpr, eVar, eC, bin2, un1, eNot, eAnd, eOr, eIf, eArgs, aNil, aCons, mkTup, mkLst, gN, gT, gCons, gNil, viewT, viewL, viewQ, eIsi, tyD, subTy, eChain, ltI_i, leI_i, gtI_i, geI_i, subD_i, addD_i, List.map_cons, List.map_nil, List.length_cons, List.length_nil, List.replicate, List.cons_append, List.nil_append, List.append_nil, List.getElem?_cons_zero, List.getElem?_cons_succ, List.set_cons_zero, List.set_cons_succ, Nat.zero_add, Nat.add_zero, Nat.reduceAdd, Nat.reduceSub, if_true, if_false, ownArgs, sFor, iSeq, szl0, szl1, szl2, szl3, szl4, szl5, Nat.zero_le, Nat.reduceLeDiff, ↓reduceIte, hadd])
        have hz : ((wordsN k i).flatMap fun w => ((List.range k).filter fun _ => true).map fun l => eW (w ++ [l])) = (wordsN k (i + 1)).map eW := by
          simp only [wordsN, filter_tt, List.map_flatMap, List.map_map]
          rfl
        rw [hz] at el
        have hlen : ((wordsN k (i + 1)).map eW).length ≤ szL := by
          rw [List.length_map]
          have := wordsN_len h3 (n := i + 1) (by omega)
          have h81 : (3 : Nat) ^ (i + 1) ≤ 3 ^ 4 := Nat.pow_le_pow_right (by omega) (by omega)
          exact le_szL (by omega)
        simp only [callP, nrA, nr_M, nr_W, nr_I, nr_S, nr_R, Bool.and_self, Bool.true_and, Bool.and_true, D.nr, runP, runB, start0, sSeq, sRet, sAsg, sIf, sNil, sExpr, eVar, eC, bin2, un1, eNot, eAnd, eOr, eIf, eArgs, aNil, aCons, mkTup, mkLst, gN, gT, gCons, gNil, viewT, viewL, viewQ, eIsi, tyD, subTy, eChain, ltI_i, leI_i, gtI_i, geI_i, subD_i, addD_i, List.map_cons, List.map_nil, List.length_cons, List.length_nil, List.replicate, List.cons_append, List.nil_append, List.append_nil, List.getElem?_cons_zero, List.getElem?_cons_succ, List.set_cons_zero, List.set_cons_succ, Nat.zero_add, Nat.add_zero, Nat.reduceAdd, Nat.reduceSub, if_true, if_false, ownArgs, sFor, iSeq, szl0, szl1, szl2, szl3, szl4, szl5, Nat.zero_le, Nat.reduceLeDiff, ↓reduceIte, eLc2, viewQ, viewL, el, if_pos hlen]
        exact ⟨_, rfl, _, rfl, rfl⟩)
      (fun σ h ⟨c3, eσ, eh⟩ => ⟨c3, by rw [eσ, eh]⟩)
      ⟨none, rfl, rfl⟩
    simp only [eo, callP, nrA, nr_M, nr_W, nr_I, nr_S, nr_R, Bool.and_self, Bool.true_and, Bool.and_true, D.nr, runP, runB, start0, sSeq, sRet, sAsg, sIf, sNil, sExpr, eVar, eC, bin2, un1, eNot, eAnd, eOr, eIf, eArgs, aNil, aCons, mkTup, mkLst, gN, gT, gCons, gNil, viewT, viewL, viewQ, eIsi, tyD, subTy, eChain, ltI_i, leI_i, gtI_i, geI_i, subD_i, addD_i, List.map_cons, List.map_nil, List.length_cons, List.length_nil, List.replicate, List.cons_append, List.nil_append, List.append_nil, List.getElem?_cons_zero, List.getElem?_cons_succ, List.set_cons_zero, List.set_cons_succ, Nat.zero_add, Nat.add_zero, Nat.reduceAdd, Nat.reduceSub, if_true, if_false, ownArgs, sFor, iSeq, szl0, szl1, szl2, szl3, szl4, szl5, Nat.zero_le, Nat.reduceLeDiff, ↓reduceIte]
    exact ⟨_, rfl, rfl⟩
  obtain ⟨o, e, rfl⟩ := key
  exact runP_rt rfl e (fz_nr (nrA_W _))
theorem add_WW (h : Hs) (v w : List Nat) (hz : v.length + w.length ≤ 10000) : addD h (eW v) (eW w) = some (eW (v ++ w)) := by
  unfold addD addI addT eW
  simp only [viewT]
  rw [if_pos (by rw [List.length_map, List.length_map]; exact le_szL (by omega))]
  simp
end K43
namespace K43
open TB PySem
open L2 (atI ixN)

def mids (k x : Nat) : List (List Nat) := (List.range (x + 1)).flatMap (wordsN k)
theorem mids_mem {k x : Nat} {w : List Nat} : w ∈ mids k x ↔ Word k w ∧ w.length ≤ x := by
  simp only [mids, List.mem_flatMap, List.mem_range, wordsN_mem]
  constructor
  · rintro ⟨n, hn, h1, h2⟩; exact ⟨h1, by omega⟩
  · rintro ⟨h1, h2⟩; exact ⟨w.length, by omega, h1, rfl⟩
theorem mids_len {k x : Nat} (h3 : k ≤ 3) (hx : x ≤ 3) : (mids k x).length ≤ 40 := by
  unfold mids
  have w0 := wordsN_len h3 (n := 0) (by omega)
  have w1 := wordsN_len h3 (n := 1) (by omega)
  have w2 := wordsN_len h3 (n := 2) (by omega)
  have w3 := wordsN_len h3 (n := 3) (by omega)
  simp only [Nat.reducePow] at w0 w1 w2 w3
  match x, hx with
  | 0, _ => simp [List.range, List.range.loop]; omega
  | 1, _ => simp [List.range, List.range.loop]; omega
  | 2, _ => simp [List.range, List.range.loop]; omega
  | 3, _ => simp [List.range, List.range.loop]; omega
/-- the words c d, c d t for the words t of a list -/
def Ext (T : List (List Nat)) (c d u : List Nat) : Prop := u = c ++ d ∨ ∃ t ∈ T, u = c ++ d ++ t
theorem fs_last {k : Nat} {m : Mach} {T us : List (List Nat)} {x : Nat} {c d : List Nat} {c6 c7 c8 : Option D} {s3 : D} (nd : us.Nodup) (hz : us.length + T.length ≤ 500000) (hT : ∀ t ∈ T, t.length ≤ 37) (hcd : c.length + d.length ≤ 100) :
    ∃ o, sForN (srcL (T.map eW)) (gN 6) (sSeq (sAsg (eC (.bl true)) (gSub (eVar 2) (bin2 (bin2 (eVar 4) (eVar 5) addD) (eVar 6) addD))) sNil) ((T.map eW).length + 1) 0 [some (eM m), some (eI x), some (.ref 0), some s3, some (eW c), some (eW d), c6, c7, c8] [.dic (us.map eW) (tts us.length)] = some o ∧
      ∃ (us' : List (List Nat)) (c6 : Option D), o = .nx [some (eM m), some (eI x), some (.ref 0), some s3, some (eW c), some (eW d), c6, c7, c8] [.dic (us'.map eW) (tts us'.length)] ∧ us'.Nodup ∧ us'.length ≤ us.length + T.length ∧ ∀ u, u ∈ us' ↔ u ∈ us ∨ ∃ t ∈ T, u = c ++ d ++ t := by
  refine forM_inv (e := eW) (l := T) (fun ys σ h => ∃ (us' : List (List Nat)) (c6 : Option D), σ = [some (eM m), some (eI x), some (.ref 0), some s3, some (eW c), some (eW d), c6, c7, c8] ∧ h = [.dic (us'.map eW) (tts us'.length)] ∧ us'.Nodup ∧ us'.length ≤ us.length + ys.length ∧ ∀ u, u ∈ us' ↔ u ∈ us ∨ ∃ t ∈ ys, u = c ++ d ++ t)
    (fun ys t zs σ h hl ⟨us', c6, eσ, eh, nd', hlen, hm⟩ => ?_) (fun σ h ⟨us', c6, eσ, eh, nd', hlen, hm⟩ => ⟨us', c6, by rw [eσ, eh], nd', hlen, hm⟩) ⟨us, c6, rfl, rfl, nd, Nat.le_refl _, fun u => by simp⟩
  subst eσ eh
  have ht : t.length ≤ 37 := hT t (by rw [hl]; simp)
  have hyl : ys.length + 1 ≤ T.length := by rw [hl]; simp
  have a1 := add_WW [.dic (us'.map eW) (tts us'.length)] c d (by omega)
  have a2 := add_WW [.dic (us'.map eW) (tts us'.length)] (c ++ d) t (by rw [List.length_append]; omega)
  have hset := set_tt (h := [.dic (us'.map eW) (tts us'.length)]) (n := 0) (cs := us') (q := c ++ d ++ t) rfl (by omega)
  refine ⟨_, _, rfl, ?_⟩
  simp only [callP, nrA, nr_M, nr_W, nr_I, nr_S, nr_R, Bool.and_self, Bool.true_and, Bool.and_true, D.nr, runP, runB, start0, sSeq, sRet, sAsg, sIf, sNil, sExpr, eVar, eC, bin2, un1, eNot, eAnd, eOr, eIf, eArgs, aNil, aCons, mkTup, mkLst, gN, gT, gCons, gNil, viewT, viewL, viewQ, eIsi, tyD, subTy, eChain, ltI_i, leI_i, gtI_i, geI_i, subD_i, addD_i, List.map_cons, List.map_nil, List.length_cons, List.length_nil, List.replicate, List.cons_append, List.nil_append, List.append_nil, List.getElem?_cons_zero, List.getElem?_cons_succ, List.set_cons_zero, List.set_cons_succ, Nat.zero_add, Nat.add_zero, Nat.reduceAdd, Nat.reduceSub, if_true, if_false, ownArgs, sFor, iSeq, szl0, szl1, szl2, szl3, szl4, szl5, Nat.zero_le, Nat.reduceLeDiff, ↓reduceIte, gSub, a1, a2, hset]
  refine ⟨_, rfl, addk us' (c ++ d ++ t), _, rfl, rfl, addk_nodup nd', ?_, fun u => ?_⟩
  · have := addk_len us' (c ++ d ++ t)
    rw [List.length_append, List.length_singleton]; omega
  · rw [addk_mem, hm]
    simp only [List.mem_append, List.mem_singleton]
    constructor
    · rintro ((h | ⟨t', h, e⟩) | h)
      · exact .inl h
      · exact .inr ⟨t', .inl h, e⟩
      · exact .inr ⟨t, .inr rfl, h⟩
    · rintro (h | ⟨t', h | h, e⟩)
      · exact .inl (.inl h)
      · exact .inl (.inr ⟨t', h, e⟩)
      · subst h; exact .inr e
theorem fs_mid {k : Nat} {m : Mach} {T us Ms : List (List Nat)} {x : Nat} {c : List Nat} {c5 c6 c7 c8 : Option D} (et : f_telling_set [eM m] = some (eP T)) (nd : us.Nodup) (hz : us.length + Ms.length * (T.length + 1) ≤ 400000) (hT : ∀ t ∈ T, t.length ≤ 37) (hc : c.length ≤ 50) (hM : ∀ d ∈ Ms, d.length ≤ 50) :
    ∃ o, sForN (srcL (Ms.map eW)) (gN 5) (sSeq (sAsg (eC (.bl true)) (gSub (eVar 2) (bin2 (eVar 4) (eVar 5) addD))) (sSeq (sFor (iSeq (eArgs (aCons (eVar 0) aNil) (callP f_telling_set))) (gN 6) (sSeq (sAsg (eC (.bl true)) (gSub (eVar 2) (bin2 (bin2 (eVar 4) (eVar 5) addD) (eVar 6) addD))) sNil)) sNil)) ((Ms.map eW).length + 1) 0 [some (eM m), some (eI x), some (.ref 0), some (.lst (Ms.map eW)), some (eW c), c5, c6, c7, c8] [.dic (us.map eW) (tts us.length)] = some o ∧
      ∃ (us' : List (List Nat)) (c5 c6 : Option D), o = .nx [some (eM m), some (eI x), some (.ref 0), some (.lst (Ms.map eW)), some (eW c), c5, c6, c7, c8] [.dic (us'.map eW) (tts us'.length)] ∧ us'.Nodup ∧ us'.length ≤ us.length + Ms.length * (T.length + 1) ∧ ∀ u, u ∈ us' ↔ u ∈ us ∨ ∃ d ∈ Ms, Ext T c d u := by
  refine forM_inv (e := eW) (l := Ms) (fun ys σ h => ∃ (us' : List (List Nat)) (c5 c6 : Option D), σ = [some (eM m), some (eI x), some (.ref 0), some (.lst (Ms.map eW)), some (eW c), c5, c6, c7, c8] ∧ h = [.dic (us'.map eW) (tts us'.length)] ∧ us'.Nodup ∧ us'.length ≤ us.length + ys.length * (T.length + 1) ∧ ∀ u, u ∈ us' ↔ u ∈ us ∨ ∃ d ∈ ys, Ext T c d u)
    (fun ys d zs σ h hl ⟨us', c5, c6, eσ, eh, nd', hlen, hm⟩ => ?_) (fun σ h ⟨us', c5, c6, eσ, eh, nd', hlen, hm⟩ => ⟨us', c5, c6, by rw [eσ, eh], nd', hlen, hm⟩) ⟨us, c5, c6, rfl, rfl, nd, by simp, fun u => by simp⟩
  subst eσ eh
  have hd : d.length ≤ 50 := hM d (by rw [hl]; simp)
  have hyl : (ys.length + 1) * (T.length + 1) ≤ Ms.length * (T.length + 1) := Nat.mul_le_mul_right _ (by rw [hl]; simp)
  rw [Nat.add_mul, Nat.one_mul] at hyl
  have a1 := add_WW [.dic (us'.map eW) (tts us'.length)] c d (by omega)
  have hset := set_tt (h := [.dic (us'.map eW) (tts us'.length)]) (n := 0) (cs := us') (q := c ++ d) rfl (by omega)
  have hal := addk_len us' (c ++ d)
  obtain ⟨o, eo, us2, d6, rfl, nd2, hlen2, hm2⟩ := fs_last (k := k) (m := m) (T := T) (us := addk us' (c ++ d)) (x := x) (c := c) (d := d) (c6 := c6) (c7 := c7) (c8 := c8) (s3 := .lst (Ms.map eW)) (addk_nodup nd') (by omega) hT (by omega)
  refine ⟨_, _, rfl, ?_⟩
  simp only [callP, nrA, nr_M, nr_W, nr_I, nr_S, nr_R, Bool.and_self, Bool.true_and, Bool.and_true, D.nr, runP, runB, start0, sSeq, sRet, sAsg, sIf, sNil, sExpr, eVar, eC, bin2, un1, eNot, eAnd, eOr, eIf, eArgs, aNil, aCons, mkTup, mkLst, gN, gT, gCons, gNil, viewT, viewL, viewQ, eIsi, tyD, subTy, eChain, ltI_i, leI_i, gtI_i, geI_i, subD_i, addD_i, List.map_cons, List.map_nil, List.length_cons, List.length_nil, List.replicate, List.cons_append, List.nil_append, List.append_nil, List.getElem?_cons_zero, List.getElem?_cons_succ, List.set_cons_zero, List.set_cons_succ, Nat.zero_add, Nat.add_zero, Nat.reduceAdd, Nat.reduceSub, if_true, if_false, ownArgs, sFor, iSeq, szl0, szl1, szl2, szl3, szl4, szl5, Nat.zero_le, Nat.reduceLeDiff, ↓reduceIte, gSub, a1, hset, et, eP, viewQ, eo]
  refine ⟨_, rfl, us2, _, d6, rfl, rfl, nd2, ?_, fun u => ?_⟩
  · rw [List.length_append, List.length_singleton, Nat.add_mul, Nat.one_mul]; omega
  · rw [hm2, addk_mem, hm]
    simp only [List.mem_append, List.mem_singleton, Ext]
    constructor
    · rintro (((h | ⟨d', h, e⟩) | h) | h)
      · exact .inl h
      · exact .inr ⟨d', .inl h, e⟩
      · exact .inr ⟨d, .inr rfl, .inl h⟩
      · exact .inr ⟨d, .inr rfl, .inr h⟩
    · rintro (h | ⟨d', h | h, e⟩)
      · exact .inl (.inl (.inl h))
      · exact .inl (.inl (.inr ⟨d', h, e⟩))
      · subst h
        rcases e with e | e
        · exact .inl (.inr e)
        · exact .inr e
theorem full_eq {k : Nat} {m : Mach} (ok : OK k m) {C T : List (List Nat)} {x : Nat} (hx : x ≤ 3) (ec : f_cover_of [eM m] = some (eP C)) (et : f_telling_set [eM m] = some (eP T)) (hC : ∀ c ∈ C, c.length ≤ 50) (hT : ∀ t ∈ T, t.length ≤ 37) (hCl : C.length ≤ 24) (hTl : T.length ≤ 36) :
    ∃ fs, f_full_suite [eM m, eI x] = some (eP (sortF eW fs)) ∧ fs.Nodup ∧ fs.length ≤ 40000 ∧ ∀ u, u ∈ fs ↔ ∃ c ∈ C, ∃ d ∈ mids k x, Ext T c d u := by
  have hMl := mids_len ok.k3 hx
  have hM : ∀ d ∈ mids k x, d.length ≤ 50 := fun d hd => by have := (mids_mem.mp hd).2; omega
  have key : ∃ o, b_full_suite [some (eM m), some (eI x), none, none, none, none, none, none, none] [] = some o ∧ ∃ fs h, o = .rt (eP (sortF eW fs)) h ∧ fs.Nodup ∧ fs.length ≤ 40000 ∧ ∀ u, u ∈ fs ↔ ∃ c ∈ C, ∃ d ∈ mids k x, Ext T c d u := by
    have ei : iR1 (aCons (bin2 (eVar 1) (eC (.int 1)) addD) aNil) [some (eM m), some (eI x), some (.ref 0), none, none, none, none, none, none] [.dic [] []] = some (srcR 0 (x + 1), x + 1 + 1, [.dic [] []]) :=
      iR1_eq (by simp only [callP, nrA, nr_M, nr_W, nr_I, nr_S, nr_R, Bool.and_self, Bool.true_and, Bool.and_true, D.nr, runP, runB, start0, sSeq, sRet, sAsg, sIf, sNil, sExpr, eVar, eC, bin2, un1, eNot, eAnd, eOr, eIf, eArgs, aNil, aCons, mkTup, mkLst, gN, gT, gCons, gNil, viewT, viewL, viewQ, eIsi, tyD, subTy, eChain, ltI_i, leI_i, gtI_i, geI_i, subD_i, addD_i, List.map_cons, List.map_nil, List.length_cons, List.length_nil, List.replicate, List.cons_append, List.nil_append, List.append_nil, List.getElem?_cons_zero, List.getElem?_cons_succ, List.set_cons_zero, List.set_cons_succ, Nat.zero_add, Nat.add_zero, Nat.reduceAdd, Nat.reduceSub, if_true, if_false, ownArgs, sFor, iSeq, szl0, szl1, szl2, szl3, szl4, szl5, Nat.zero_le, Nat.reduceLeDiff, ↓reduceIte, eI]; rfl) (by omega)
    have el := lc2R_eval (n := x + 1) (gt := gN 7) (ft := eT) (fi1 := iSeq (eArgs (aCons (eArgs (aCons (eVar 0) aNil) (callP f_letters_of)) (aCons (eVar 7) aNil)) (callP f_words_of))) (gt1 := gN 8) (ft1 := eT) (fe := eVar 8) (own := [7, 8]) (own1 := [8])
      (σ := [some (eM m), some (eI x), some (.ref 0), none, none, none, none, none, none]) (h := [.dic [] []]) (F := fun n => (wordsN k n).map eW) (fun i hi => by
        refine ⟨[some (eM m), some (eI x), some (.ref 0), none, none, none, none, some (.int (i : Nat)), none], rfl, rfl, srcL ((wordsN k i).map eW), ((wordsN k i).map eW).length + 1, iSeq_lst ?_, ?_⟩
        · have ew := words_of_eq (k := k) (n := i) ok.k3 (by omega)
          simp only [eI] at ew
          have elt := letters_eq ok
          simp only [eI] at elt
          simp only [callP, nrA, nr_M, nr_W, nr_I, nr_S, nr_R, Bool.and_self, Bool.true_and, Bool.and_true, D.nr, runP, runB, start0, sSeq, sRet, sAsg, sIf, sNil, sExpr, eVar, eC, bin2, un1, eNot, eAnd, eOr, eIf, eArgs, aNil, aCons, mkTup, mkLst, gN, gT, gCons, gNil, viewT, viewL, viewQ, eIsi, tyD, subTy, eChain, ltI_i, leI_i, gtI_i, geI_i, subD_i, addD_i, List.map_cons, List.map_nil, List.length_cons, List.length_nil, List.replicate, List.cons_append, List.nil_append, List.append_nil, List.getElem?_cons_zero, List.getElem?_cons_succ, List.set_cons_zero, List.set_cons_succ, Nat.zero_add, Nat.add_zero, Nat.reduceAdd, Nat.reduceSub, if_true, if_false, ownArgs, sFor, iSeq, szl0, szl1, szl2, szl3, szl4, szl5, Nat.zero_le, Nat.reduceLeDiff, ↓reduceIte, elt, ew]
        · have := lcM_eval (e := eW) (l := wordsN k i) (gt := gN 8) (ft := eT) (fe := eVar 8) (own := [8]) (σ := [some (eM m), some (eI x), some (.ref 0), none, none, none, none, some (.int (i : Nat)), none]) (h := [.dic [] []]) (p := fun _ => true) (f := eW)
            (fun w hw => ⟨[some (eM m), some (eI x), some (.ref 0), none, none, none, none, some (.int (i : Nat)), some (eW w)], rfl, rfl, fun _ => rfl⟩)
          rw [this, filter_tt])
    have hz : ((List.range (x + 1)).flatMap fun n => (wordsN k n).map eW) = (mids k x).map eW := by
      simp only [mids, List.map_flatMap]
    rw [hz] at el
    have hlen : ((mids k x).map eW).length ≤ szL := le_szL (by rw [List.length_map]; omega)
    have hA : eLc2 (iR1 (aCons (bin2 (eVar 1) (eC (.int 1)) addD) aNil)) (gN 7) eT (iSeq (eArgs (aCons (eArgs (aCons (eVar 0) aNil) (callP f_letters_of)) (aCons (eVar 7) aNil)) (callP f_words_of))) (gN 8) eT (eVar 8) [7, 8] [8] [some (eM m), some (eI x), some (.ref 0), none, none, none, none, none, none] [.dic [] []] = some (.lst ((mids k x).map eW), [.dic [] []]) := by
      exact eLc2_eq ei el hlen
    have hB : sAsg eDic0 (gN 2) [some (eM m), some (eI x), none, none, none, none, none, none, none] [] = some (.nx [some (eM m), some (eI x), some (.ref 0), none, none, none, none, none, none] [.dic [] []]) := rfl
    have hC2 := asg_N (i := 3) hA
    have hD : iSeq (eArgs (aCons (eVar 0) aNil) (callP f_cover_of)) [some (eM m), some (eI x), some (.ref 0), some (.lst ((mids k x).map eW)), none, none, none, none, none] [.dic [] []] = some (srcL (C.map eW), (C.map eW).length + 1, [.dic [] []]) :=
      iSeq_tup (by simp only [callP, nrA, nr_M, nr_W, nr_I, nr_S, nr_R, Bool.and_self, Bool.true_and, Bool.and_true, D.nr, runP, runB, start0, sSeq, sRet, sAsg, sIf, sNil, sExpr, eVar, eC, bin2, un1, eNot, eAnd, eOr, eIf, eArgs, aNil, aCons, mkTup, mkLst, gN, gT, gCons, gNil, viewT, viewL, viewQ, eIsi, tyD, subTy, eChain, ltI_i, leI_i, gtI_i, geI_i, subD_i, addD_i, List.map_cons, List.map_nil, List.length_cons, List.length_nil, List.replicate, List.cons_append, List.nil_append, List.append_nil, List.getElem?_cons_zero, List.getElem?_cons_succ, List.set_cons_zero, List.set_cons_succ, Nat.zero_add, Nat.add_zero, Nat.reduceAdd, Nat.reduceSub, if_true, if_false, ownArgs, sFor, iSeq, szl0, szl1, szl2, szl3, szl4, szl5, Nat.zero_le, Nat.reduceLeDiff, ↓reduceIte, ec, eP])
    obtain ⟨o, eo, us, c4, c5, c6, rfl, nd, hl, hm⟩ := forM_inv (e := eW) (l := C) (gt := gN 4) (fb := (sSeq (sFor (iSeq (eVar 3)) (gN 5) (sSeq (sAsg (eC (.bl true)) (gSub (eVar 2) (bin2 (eVar 4) (eVar 5) addD))) (sSeq (sFor (iSeq (eArgs (aCons (eVar 0) aNil) (callP f_telling_set))) (gN 6) (sSeq (sAsg (eC (.bl true)) (gSub (eVar 2) (bin2 (bin2 (eVar 4) (eVar 5) addD) (eVar 6) addD))) sNil)) sNil))) sNil))
      (σ := [some (eM m), some (eI x), some (.ref 0), some (.lst ((mids k x).map eW)), none, none, none, none, none]) (h := [.dic [] []])
      (Q := fun o => ∃ (us : List (List Nat)) (c4 c5 c6 : Option D), o = .nx [some (eM m), some (eI x), some (.ref 0), some (.lst ((mids k x).map eW)), c4, c5, c6, none, none] [.dic (us.map eW) (tts us.length)] ∧ us.Nodup ∧ us.length ≤ C.length * 1480 ∧ ∀ u, u ∈ us ↔ ∃ c ∈ C, ∃ d ∈ mids k x, Ext T c d u)
      (fun ys σ h => ∃ (us : List (List Nat)) (c4 c5 c6 : Option D), σ = [some (eM m), some (eI x), some (.ref 0), some (.lst ((mids k x).map eW)), c4, c5, c6, none, none] ∧ h = [.dic (us.map eW) (tts us.length)] ∧ us.Nodup ∧ us.length ≤ ys.length * 1480 ∧ ∀ u, u ∈ us ↔ ∃ c ∈ ys, ∃ d ∈ mids k x, Ext T c d u)
      (fun ys c zs σ h hl ⟨us, c4, c5, c6, eσ, eh, nd, hlen, hm⟩ => by
        subst eσ eh
        have hcl : c.length ≤ 50 := hC c (by rw [hl]; simp)
        have hyl : ys.length + 1 ≤ C.length := by rw [hl]; simp
        have hmul : (mids k x).length * (T.length + 1) ≤ 40 * 37 := Nat.mul_le_mul hMl (by omega)
        obtain ⟨o, eo, us', d5, d6, rfl, nd', hlen', hm'⟩ := fs_mid (k := k) (c := c) (x := x) (c5 := c5) (c6 := c6) (c7 := none) (c8 := none) et nd (by omega) hT hcl hM
        refine ⟨_, _, rfl, ?_⟩
        simp only [callP, nrA, nr_M, nr_W, nr_I, nr_S, nr_R, Bool.and_self, Bool.true_and, Bool.and_true, D.nr, runP, runB, start0, sSeq, sRet, sAsg, sIf, sNil, sExpr, eVar, eC, bin2, un1, eNot, eAnd, eOr, eIf, eArgs, aNil, aCons, mkTup, mkLst, gN, gT, gCons, gNil, viewT, viewL, viewQ, eIsi, tyD, subTy, eChain, ltI_i, leI_i, gtI_i, geI_i, subD_i, addD_i, List.map_cons, List.map_nil, List.length_cons, List.length_nil, List.replicate, List.cons_append, List.nil_append, List.append_nil, List.getElem?_cons_zero, List.getElem?_cons_succ, List.set_cons_zero, List.set_cons_succ, Nat.zero_add, Nat.add_zero, Nat.reduceAdd, Nat.reduceSub, if_true, if_false, ownArgs, sFor, iSeq, szl0, szl1, szl2, szl3, szl4, szl5, Nat.zero_le, Nat.reduceLeDiff, ↓reduceIte, viewQ, viewL, eo]
        refine ⟨_, rfl, us', _, d5, d6, rfl, rfl, nd', by rw [List.length_append, List.length_singleton]; omega, fun u => ?_⟩
        rw [hm', hm]
        simp only [List.mem_append, List.mem_singleton]
        constructor
        · rintro (⟨c', h, e⟩ | e)
          · exact ⟨c', .inl h, e⟩
          · exact ⟨c, .inr rfl, e⟩
        · rintro ⟨c', h | h, e⟩
          · exact .inl ⟨c', h, e⟩
          · subst h; exact .inr e)
      (fun σ h ⟨us, c4, c5, c6, eσ, eh, nd, hlen, hm⟩ => ⟨us, c4, c5, c6, by rw [eσ, eh], nd, hlen, hm⟩)
      ⟨[], none, none, none, rfl, rfl, List.nodup_nil, by simp, fun u => by simp⟩
    have es := sort_dic (e := eW) (h := [.dic (us.map eW) (tts us.length)]) (n := 0) rfl pl_W cok_W
    have hE : eArgs (aCons (eArgs (aCons (eVar 2) aNil) sortS) aNil) tupS [some (eM m), some (eI x), some (.ref 0), some (.lst ((mids k x).map eW)), c4, c5, c6, none, none] [.dic (us.map eW) (tts us.length)] = some (eP (sortF eW us), [.dic (us.map eW) (tts us.length)]) := by
      simp only [callP, nrA, nr_M, nr_W, nr_I, nr_S, nr_R, Bool.and_self, Bool.true_and, Bool.and_true, D.nr, runP, runB, start0, sSeq, sRet, sAsg, sIf, sNil, sExpr, eVar, eC, bin2, un1, eNot, eAnd, eOr, eIf, eArgs, aNil, aCons, mkTup, mkLst, gN, gT, gCons, gNil, viewT, viewL, viewQ, eIsi, tyD, subTy, eChain, ltI_i, leI_i, gtI_i, geI_i, subD_i, addD_i, List.map_cons, List.map_nil, List.length_cons, List.length_nil, List.replicate, List.cons_append, List.nil_append, List.append_nil, List.getElem?_cons_zero, List.getElem?_cons_succ, List.set_cons_zero, List.set_cons_succ, Nat.zero_add, Nat.add_zero, Nat.reduceAdd, Nat.reduceSub, if_true, if_false, ownArgs, sFor, iSeq, szl0, szl1, szl2, szl3, szl4, szl5, Nat.zero_le, Nat.reduceLeDiff, ↓reduceIte, es, tupS]
      rfl
    refine ⟨.rt (eP (sortF eW us)) [.dic (us.map eW) (tts us.length)], ?_, us, _, rfl, nd, by omega, hm⟩
    unfold b_full_suite
    rw [seq_nx hB, seq_nx hC2]
    refine (seq_nx ((sFor_eq hD).trans eo)).trans ?_
    exact ret_eq hE
  obtain ⟨o, e2, fs, h, rfl, nd, hl, hm⟩ := key
  exact ⟨fs, runP_rt rfl e2 (fz_nr (nr_P _)), nd, hl, hm⟩
end K43
namespace K43
open TB PySem
open L2 (atI ixN)

/-! ### slips -/
abbrev Slip : Type := Nat × Nat × Nat × Nat
def Slip.s (q : Slip) : Nat := q.1
def Slip.l (q : Slip) : Nat := q.2.1
def Slip.a (q : Slip) : Nat := q.2.2.1
def Slip.g (q : Slip) : Nat := q.2.2.2
def eQ (q : Slip) : D := .tup [eI q.s, eI q.l, eI q.a, eI q.g]
theorem nr_Q (q : Slip) : (eQ q).nr = true := rfl
def slipR (r : List (Nat × Nat)) (q : Slip) : List (Nat × Nat) := r.take q.l ++ [(q.a, q.g)] ++ r.drop (q.l + 1)
def slipM (m : Mach) (q : Slip) : Mach := m.set q.s (slipR (m[q.s]?.getD []) q)
structure OKq (k : Nat) (m : Mach) (q : Slip) : Prop where
  s : q.s < m.length
  l : q.l < k
  a : q.a < 3
  g : q.g < m.length
theorem slipR_set {r : List (Nat × Nat)} {q : Slip} (h : q.l < r.length) : slipR r q = r.set q.l (q.a, q.g) := by
  unfold slipR
  rw [List.set_eq_take_append_cons_drop, if_pos h]
  simp
theorem slip_ok {k : Nat} {m : Mach} (ok : OK k m) {q : Slip} (hq : OKq k m q) : OK k (slipM m q) := by
  have hs0 := hq.s
  have e1 : m[q.s]? = some m[q.s] := List.getElem?_eq_getElem hq.s
  have hr := ok.row m[q.s] (List.getElem_mem hq.s)
  have es : slipR (m[q.s]?.getD []) q = m[q.s].set q.l (q.a, q.g) := by rw [e1]; exact slipR_set (r := m[q.s]) (by rw [hr]; exact hq.l)
  have hmem : ∀ r ∈ slipM m q, r ∈ m ∨ r = m[q.s].set q.l (q.a, q.g) := fun r hr => by
    unfold slipM at hr
    rw [es] at hr
    rcases List.mem_or_eq_of_mem_set hr with h | h
    · exact .inl h
    · exact .inr h
  have hlen : (slipM m q).length = m.length := by unfold slipM; rw [List.length_set]
  refine ⟨ok.pos, ok.k3, fun z => ok.ne (List.length_eq_zero_iff.mp (by rw [← hlen, z]; rfl)), by rw [hlen]; exact ok.le, fun r h => ?_, fun r h p hp => ?_, fun r h p hp => ?_⟩
  · rcases hmem r h with h | rfl
    · exact ok.row r h
    · rw [List.length_set]; exact hr
  · rw [hlen]
    rcases hmem r h with h | rfl
    · exact ok.goal r h p hp
    · rcases List.mem_or_eq_of_mem_set hp with h | rfl
      · exact ok.goal _ (List.getElem_mem hq.s) p h
      · exact hq.g
  · rcases hmem r h with h | rfl
    · exact ok.ans r h p hp
    · rcases List.mem_or_eq_of_mem_set hp with h | rfl
      · exact ok.ans _ (List.getElem_mem hq.s) p h
      · exact hq.a
theorem slip_step {k : Nat} {m : Mach} (ok : OK k m) {q : Slip} (hq : OKq k m q) {s l : Nat} (hs : s < m.length) (hl : l < k) : step (slipM m q) s l = if s = q.s ∧ l = q.l then (q.a, q.g) else step m s l := by
  have hs0 := hq.s
  have e1 : m[q.s]? = some m[q.s] := List.getElem?_eq_getElem hq.s
  have hr := ok.row m[q.s] (List.getElem_mem hq.s)
  have es : slipR (m[q.s]?.getD []) q = m[q.s].set q.l (q.a, q.g) := by rw [e1]; exact slipR_set (r := m[q.s]) (by rw [hr]; exact hq.l)
  unfold step slipM
  rw [es]
  by_cases h1 : s = q.s
  · subst h1
    rw [List.getElem?_set_self hq.s, e1]
    simp only [Option.getD_some, true_and]
    by_cases h2 : l = q.l
    · subst h2
      rw [if_pos rfl, List.getElem?_set_self (by rw [hr]; exact hq.l)]
      rfl
    · rw [if_neg h2, List.getElem?_set_ne (Ne.symm h2)]
  · rw [List.getElem?_set_ne (Ne.symm h1), if_neg (by simp [h1])]
theorem with_slip_eq {k : Nat} {m : Mach} (ok : OK k m) {q : Slip} (hq : OKq k m q) : f_with_slip [eM m, eQ q] = some (eM (slipM m q)) := by
  have hs0 := hq.s
  have e1 : m[q.s]? = some m[q.s] := List.getElem?_eq_getElem hq.s
  have hr := ok.row m[q.s] (List.getElem_mem hq.s)
  have hk := ok.k3
  generalize hrr : m[q.s] = r at e1 hr
  have hix : ixD [.lst (m.map eR)] (.ref 0) (.int (q.s : Nat)) = some (eR r) := ix_list (e := eR) rfl e1
  have t1 : cutD (r.map eS) none (some ((q.l : Nat) : Int)) = (r.take q.l).map eS := cut_take r q.l
  have t2 : cutD (r.map eS) (some ((q.l + 1 : Nat) : Int)) none = (r.drop (q.l + 1)).map eS := cut_drop r (q.l + 1)
  have a1 : addD [.lst (m.map eR)] (.tup ((r.take q.l).map eS)) (.tup [.tup [.int (q.a : Nat), .int (q.g : Nat)]]) = some (.tup ((r.take q.l ++ [(q.a, q.g)]).map eS)) := by
    unfold addD addI addT
    simp only [viewT]
    rw [if_pos (by simp only [List.length_map, List.length_take, List.length_cons, List.length_nil]; exact le_szL (by omega))]
    simp [eS, eI]
  have a2 : addD [.lst (m.map eR)] (.tup ((r.take q.l ++ [(q.a, q.g)]).map eS)) (.tup ((r.drop (q.l + 1)).map eS)) = some (eR (slipR r q)) := by
    unfold addD addI addT
    simp only [viewT]
    rw [if_pos (by simp only [List.length_map, List.length_append, List.length_take, List.length_drop, List.length_cons, List.length_nil]; exact le_szL (by omega))]
    simp [eR, slipR]
  have hset : setS [.lst (m.map eR)] (.ref 0) (.int (q.s : Nat)) (eR (slipR r q)) = some [.lst ((slipM m q).map eR)] := by
    have hx : ixN (m.map eR).length (q.s : Int) = some q.s := by
      unfold ixN
      rw [if_pos (by omega), if_pos (by rw [List.length_map]; have := hq.s; omega)]
      simp
    simp only [setS, List.getElem?_cons_zero, hx, List.set_cons_zero]
    rw [← List.map_set]
    unfold slipM
    rw [e1]
    rfl
  have hA : sAsg (eVar 1) (gT 4 (gCons (gN 2) (gCons (gN 3) (gCons (gN 4) (gCons (gN 5) gNil))))) [some (eM m), some (eQ q), none, none, none, none, none] [] = some (.nx [some (eM m), some (eQ q), some (eI q.s), some (eI q.l), some (eI q.a), some (eI q.g), none] []) := rfl
  have hB : sAsg (eArgsH (aCons (eVar 0) aNil) lstO) (gN 6) [some (eM m), some (eQ q), some (eI q.s), some (eI q.l), some (eI q.a), some (eI q.g), none] [] = some (.nx [some (eM m), some (eQ q), some (eI q.s), some (eI q.l), some (eI q.a), some (eI q.g), some (.ref 0)] [.lst (m.map eR)]) := rfl
  refine runP_rt (d := eM (slipM m q)) (h := [.lst ((slipM m q).map eR)]) rfl ?_ (fz_nr (nr_M _))
  show b_with_slip [some (eM m), some (eQ q), none, none, none, none, none] [] = _
  unfold b_with_slip
  rw [seq_nx hA, seq_nx hB]
  simp only [eR] at hset
  have c1 : ((q.l : Nat) : Int) + 1 = ((q.l + 1 : Nat) : Int) := by omega
  simp only [callP, nrA, nr_M, nr_W, nr_I, nr_S, nr_R, Bool.and_self, Bool.true_and, Bool.and_true, D.nr, runP, runB, start0, sSeq, sRet, sAsg, sIf, sNil, sExpr, eVar, eC, bin2, un1, eNot, eAnd, eOr, eIf, eArgs, aNil, aCons, mkTup, mkLst, gN, gT, gCons, gNil, viewT, viewL, viewQ, eIsi, tyD, subTy, eChain, ltI_i, leI_i, gtI_i, geI_i, subD_i, addD_i, List.map_cons, List.map_nil, List.length_cons, List.length_nil, List.replicate, List.cons_append, List.nil_append, List.append_nil, List.getElem?_cons_zero, List.getElem?_cons_succ, List.set_cons_zero, List.set_cons_succ, Nat.zero_add, Nat.add_zero, Nat.reduceAdd, Nat.reduceSub, if_true, if_false, ownArgs, sFor, iSeq, szl0, szl1, szl2, szl3, szl4, szl5, Nat.zero_le, Nat.reduceLeDiff, ↓reduceIte, eI, hix, eR, eSl, oNone, oSome, t1, a1, c1, t2, a2, gSub, hset, tupS, viewT, viewL]
  rfl
/-- all slips, in their order -/
def slipsAt (m : Mach) (s l : Nat) (own : Nat × Nat) : List Slip :=
  (((List.range 3).flatMap fun a => (List.range m.length).map fun g => (a, g)).filter fun p => !decide (p = own)).map fun p => (s, l, p.1, p.2)
theorem slipsAt_mem {m : Mach} {s l : Nat} {own : Nat × Nat} {q : Slip} : q ∈ slipsAt m s l own ↔ q.s = s ∧ q.l = l ∧ q.a < 3 ∧ q.g < m.length ∧ (q.a, q.g) ≠ own := by
  obtain ⟨s', l', a', g'⟩ := q
  unfold slipsAt Slip.s Slip.l Slip.a Slip.g
  simp only [List.mem_map, List.mem_filter, List.mem_flatMap, List.mem_range, Prod.mk.injEq, Bool.not_eq_true', decide_eq_false_iff_not]
  constructor
  · rintro ⟨p, ⟨⟨a, ha, g, hg, rfl⟩, hne⟩, h1, h2, h3, h4⟩
    subst h1 h2 h3 h4
    exact ⟨rfl, rfl, ha, hg, hne⟩
  · rintro ⟨rfl, rfl, ha, hg, hne⟩
    exact ⟨(a', g'), ⟨⟨a', ha, g', hg, rfl⟩, hne⟩, rfl, rfl, rfl, rfl⟩
theorem slips_row {k : Nat} {m : Mach} (ok : OK k m) {s : Nat} {r : List (Nat × Nat)} (hr : m[s]? = some r) {qs : List Slip} (hz : qs.length ≤ 10000) {c4 c5 c6 c7 c8 c9 : Option D} :
    ∃ o, sForN (cntS (srcL (r.map eS))) (gT 2 (gCons (gN 4) (gCons (gN 5) gNil))) (sSeq (sAsg (eLc2 (iR1 (aCons (eC (.int 3)) aNil)) (gN 7) eT (iR1 (aCons (eArgs (aCons (eVar 0) aNil) lenS) aNil)) (gN 8) eT (eArgs (aCons (eVar 7) (aCons (eVar 8) aNil)) mkTup) [7, 8] [8]) (gN 6)) (sSeq (sExpr (eMeth (eVar 1) (aCons (eLc (iSeq (eVar 6)) (gN 9) (bin2 (eVar 9) (eVar 5) neD) (bin2 (eArgs (aCons (eVar 2) (aCons (eVar 4) aNil)) mkTup) (eVar 9) addD) [9]) aNil) extM)) sNil)) ((r.map eS).length + 1) 0
      [some (eM m), some (.ref 0), some (eI s), some (eR r), c4, c5, c6, none, none, none] [.lst (qs.map eQ)] = some o ∧
      ∃ (qs' : List Slip) (c4 c5 c6 : Option D), o = .nx [some (eM m), some (.ref 0), some (eI s), some (eR r), c4, c5, c6, none, none, none] [.lst (qs'.map eQ)] ∧ qs'.length ≤ qs.length + r.length * 18 ∧ ∀ q, q ∈ qs' ↔ q ∈ qs ∨ ∃ l own, r[l]? = some own ∧ q ∈ slipsAt m s l own := by
  have hle := ok.le
  refine forE_inv (e := eS) (l := r) (fun i σ h => ∃ (qs' : List Slip) (c4 c5 c6 : Option D), σ = [some (eM m), some (.ref 0), some (eI s), some (eR r), c4, c5, c6, none, none, none] ∧ h = [.lst (qs'.map eQ)] ∧ qs'.length ≤ qs.length + i * 18 ∧ ∀ q, q ∈ qs' ↔ q ∈ qs ∨ ∃ l own, l < i ∧ r[l]? = some own ∧ q ∈ slipsAt m s l own)
    (fun i own σ h hown ⟨qs', c4, c5, c6, eσ, eh, hlen, hm⟩ => ?_) (fun σ h ⟨qs', c4, c5, c6, eσ, eh, hlen, hm⟩ => ⟨qs', c4, c5, c6, by rw [eσ, eh], hlen, fun q => by
      rw [hm]
      constructor
      · rintro (h | ⟨l, own, _, h1, h2⟩)
        · exact .inl h
        · exact .inr ⟨l, own, h1, h2⟩
      · rintro (h | ⟨l, own, h1, h2⟩)
        · exact .inl h
        · exact .inr ⟨l, own, (List.getElem?_eq_some_iff.mp h1).1, h1, h2⟩⟩)
    ⟨qs, c4, c5, c6, rfl, rfl, by simp, fun q => by simp⟩
  subst eσ eh
  have hil : i < r.length := (List.getElem?_eq_some_iff.mp hown).1
  have hrk : r.length = k := ok.row r (List.mem_of_getElem? hr)
  have hk := ok.k3
  refine ⟨[some (eM m), some (.ref 0), some (eI s), some (eR r), some (.int (i : Nat)), some (eS own), c6, none, none, none], _, rfl, ?_⟩
  have el := lc2R_eval (n := 3) (gt := gN 7) (ft := eT) (fi1 := iR1 (aCons (eArgs (aCons (eVar 0) aNil) lenS) aNil)) (gt1 := gN 8) (ft1 := eT) (fe := eArgs (aCons (eVar 7) (aCons (eVar 8) aNil)) mkTup) (own := [7, 8]) (own1 := [8])
    (σ := [some (eM m), some (.ref 0), some (eI s), some (eR r), some (.int (i : Nat)), some (eS own), c6, none, none, none]) (h := [.lst (qs'.map eQ)]) (F := fun a => ((List.range m.length).filter fun _ => true).map fun g => eS (a, g)) (fun a ha => by
      refine ⟨[some (eM m), some (.ref 0), some (eI s), some (eR r), some (.int (i : Nat)), some (eS own), c6, some (.int (a : Nat)), none, none], rfl, rfl, srcR 0 m.length, m.length + 1, iR1_eq (by simp only [callP, nrA, nr_M, nr_W, nr_I, nr_S, nr_R, Bool.and_self, Bool.true_and, Bool.and_true, D.nr, runP, runB, start0, sSeq, sRet, sAsg, sIf, sNil, sExpr, eVar, eC, bin2, un1, eNot, eAnd, eOr, eIf, eArgs, aNil, aCons, mkTup, mkLst, gN, gT, gCons, gNil, viewT, viewL, viewQ, eIsi, tyD, subTy, eChain, ltI_i, leI_i, gtI_i, geI_i, subD_i, addD_i, List.map_cons, List.map_nil, List.length_cons, List.length_nil, List.replicate, List.cons_append, List.nil_append, List.append_nil, List.getElem?_cons_zero, List.getElem?_cons_succ, List.set_cons_zero, List.set_cons_succ, Nat.zero_add, Nat.add_zero, Nat.reduceAdd, Nat.reduceSub, if_true, if_false, ownArgs, sFor, iSeq, szl0, szl1, szl2, szl3, szl4, szl5, Nat.zero_le, Nat.reduceLeDiff, ↓reduceIte, eM, lenS, viewQ, List.length_map]) (by omega), ?_⟩
      refine lcR_eval (p := fun _ => true) (f := fun g => eS (a, g)) fun g hg => ⟨[some (eM m), some (.ref 0), some (eI s), some (eR r), some (.int (i : Nat)), some (eS own), c6, some (.int (a : Nat)), some (.int (0 + (g : Nat))), none], rfl, rfl, fun _ => ?_⟩
      rw [Int.zero_add]
      simp only [callP, nrA, nr_M, nr_W, nr_I, nr_S, nr_R, Bool.and_self, Bool.true_and, Bool.and_true, D.nr, runP, runB, start0, sSeq, sRet, sAsg, sIf, sNil, sExpr, eVar, eC, bin2, un1, eNot, eAnd, eOr, eIf, eArgs, aNil, aCons, mkTup, mkLst, gN, gT, gCons, gNil, viewT, viewL, viewQ, eIsi, tyD, subTy, eChain, ltI_i, leI_i, gtI_i, geI_i, subD_i, addD_i, List.map_cons, List.map_nil, List.length_cons, List.length_nil, List.replicate, List.cons_append, List.nil_append, List.append_nil, List.getElem?_cons_zero, List.getElem?_cons_succ, List.set_cons_zero, List.set_cons_succ, Nat.zero_add, Nat.add_zero, Nat.reduceAdd, Nat.reduceSub, if_true, if_false, ownArgs, sFor, iSeq, szl0, szl1, szl2, szl3, szl4, szl5, Nat.zero_le, Nat.reduceLeDiff, ↓reduceIte, eS, eI])
  have hz : ((List.range 3).flatMap fun a => ((List.range m.length).filter fun _ => true).map fun g => eS (a, g)) = ((List.range 3).flatMap fun a => (List.range m.length).map fun g => (a, g)).map eS := by
    simp only [filter_tt, List.map_flatMap, List.map_map]
    rfl
  rw [hz] at el
  generalize hst : ((List.range 3).flatMap fun a => (List.range m.length).map fun g => (a, g)) = st at el
  have hstl : st.length ≤ 18 := by
    rw [← hst]
    have h3 : List.range 3 = [0, 1, 2] := rfl
    rw [h3]
    simp only [List.flatMap_cons, List.flatMap_nil, List.length_append, List.length_map, List.length_range, List.length_nil]
    omega
  have hA := eLc2_eq (fi := iR1 (aCons (eC (.int 3)) aNil)) (iR1_eq (n := 3) (h := [.lst (qs'.map eQ)]) (σ := [some (eM m), some (.ref 0), some (eI s), some (eR r), some (.int (i : Nat)), some (eS own), c6, none, none, none]) rfl (by omega)) el (le_szL (by rw [List.length_map]; omega))
  have hB := asg_N (i := 6) hA
  have hC : eLc (iSeq (eVar 6)) (gN 9) (bin2 (eVar 9) (eVar 5) neD) (bin2 (eArgs (aCons (eVar 2) (aCons (eVar 4) aNil)) mkTup) (eVar 9) addD) [9] [some (eM m), some (.ref 0), some (eI s), some (eR r), some (.int (i : Nat)), some (eS own), some (.lst (st.map eS)), none, none, none] [.lst (qs'.map eQ)] = some (.lst ((slipsAt m s i own).map eQ), [.lst (qs'.map eQ)]) := by
    refine eLc_eq (iSeq_lst rfl) ?_
    have := lcM_eval (e := eS) (l := st) (gt := gN 9) (ft := (bin2 (eVar 9) (eVar 5) neD)) (fe := (bin2 (eArgs (aCons (eVar 2) (aCons (eVar 4) aNil)) mkTup) (eVar 9) addD)) (own := [9]) (σ := [some (eM m), some (.ref 0), some (eI s), some (eR r), some (.int (i : Nat)), some (eS own), some (.lst (st.map eS)), none, none, none]) (h := [.lst (qs'.map eQ)]) (p := fun p => !decide (p = own)) (f := fun p => eQ (s, i, p.1, p.2))
      (fun p hp => ⟨[some (eM m), some (.ref 0), some (eI s), some (eR r), some (.int (i : Nat)), some (eS own), some (.lst (st.map eS)), none, none, some (eS p)], rfl, by
        have e1 : neD [.lst (qs'.map eQ)] (eS p) (eS own) = some (.bl (!decide (p = own))) := by
          unfold neD
          rw [fit_S p 59, fit_S own 59, eqv_S]
          rfl
        simp only [callP, nrA, nr_M, nr_W, nr_I, nr_S, nr_R, Bool.and_self, Bool.true_and, Bool.and_true, D.nr, runP, runB, start0, sSeq, sRet, sAsg, sIf, sNil, sExpr, eVar, eC, bin2, un1, eNot, eAnd, eOr, eIf, eArgs, aNil, aCons, mkTup, mkLst, gN, gT, gCons, gNil, viewT, viewL, viewQ, eIsi, tyD, subTy, eChain, ltI_i, leI_i, gtI_i, geI_i, subD_i, addD_i, List.map_cons, List.map_nil, List.length_cons, List.length_nil, List.replicate, List.cons_append, List.nil_append, List.append_nil, List.getElem?_cons_zero, List.getElem?_cons_succ, List.set_cons_zero, List.set_cons_succ, Nat.zero_add, Nat.add_zero, Nat.reduceAdd, Nat.reduceSub, if_true, if_false, ownArgs, sFor, iSeq, szl0, szl1, szl2, szl3, szl4, szl5, Nat.zero_le, Nat.reduceLeDiff, ↓reduceIte, e1], fun _ => by
        have e2 : addD [.lst (qs'.map eQ)] (.tup [eI s, .int (i : Nat)]) (eS p) = some (eQ (s, i, p.1, p.2)) := by
          unfold addD addI addT
          simp only [eS, viewT, List.length_cons, List.length_nil, Nat.zero_add, Nat.reduceAdd, szl4, if_true]
          rfl
        simp only [callP, nrA, nr_M, nr_W, nr_I, nr_S, nr_R, Bool.and_self, Bool.true_and, Bool.and_true, D.nr, runP, runB, start0, sSeq, sRet, sAsg, sIf, sNil, sExpr, eVar, eC, bin2, un1, eNot, eAnd, eOr, eIf, eArgs, aNil, aCons, mkTup, mkLst, gN, gT, gCons, gNil, viewT, viewL, viewQ, eIsi, tyD, subTy, eChain, ltI_i, leI_i, gtI_i, geI_i, subD_i, addD_i, List.map_cons, List.map_nil, List.length_cons, List.length_nil, List.replicate, List.cons_append, List.nil_append, List.append_nil, List.getElem?_cons_zero, List.getElem?_cons_succ, List.set_cons_zero, List.set_cons_succ, Nat.zero_add, Nat.add_zero, Nat.reduceAdd, Nat.reduceSub, if_true, if_false, ownArgs, sFor, iSeq, szl0, szl1, szl2, szl3, szl4, szl5, Nat.zero_le, Nat.reduceLeDiff, ↓reduceIte, e2]⟩)
    rw [this]
    unfold slipsAt
    rw [hst, List.map_map]
    rfl
  have hD : extM [.lst (qs'.map eQ)] (.ref 0) [.lst ((slipsAt m s i own).map eQ)] = some (.non, [.lst ((qs' ++ slipsAt m s i own).map eQ)]) := by
    have hsl : (slipsAt m s i own).length ≤ 18 := by
      unfold slipsAt
      rw [hst, List.length_map]
      exact Nat.le_trans (List.length_filter_le _ _) hstl
    have hmul : i * 18 ≤ 3 * 18 := Nat.mul_le_mul_right _ (by omega)
    simp only [extM, List.getElem?_cons_zero, viewL]
    rw [if_pos (by rw [List.length_map, List.length_map]; exact le_szL (by omega))]
    simp
  refine ⟨.nx [some (eM m), some (.ref 0), some (eI s), some (eR r), some (.int (i : Nat)), some (eS own), some (.lst (st.map eS)), none, none, none] [.lst ((qs' ++ slipsAt m s i own).map eQ)], ?_, qs' ++ slipsAt m s i own, _, _, _, rfl, rfl, ?_, fun q => ?_⟩
  · rw [seq_nx hB]
    simp only [List.set_cons_succ, List.set_cons_zero]
    simp only [sSeq, sExpr, sNil, eMeth, eVar, List.getElem?_cons_succ, List.getElem?_cons_zero, viewL, aCons, aNil, hC, hD]
  · have hsl : (slipsAt m s i own).length ≤ 18 := by
      unfold slipsAt
      rw [hst, List.length_map]
      exact Nat.le_trans (List.length_filter_le _ _) hstl
    rw [List.length_append]; omega
  · rw [List.mem_append, hm]
    constructor
    · rintro ((h | ⟨l, o, h1, h2, h3⟩) | h)
      · exact .inl h
      · exact .inr ⟨l, o, by omega, h2, h3⟩
      · exact .inr ⟨i, own, by omega, hown, h⟩
    · rintro (h | ⟨l, o, h1, h2, h3⟩)
      · exact .inl (.inl h)
      · by_cases hl : l = i
        · subst hl
          rw [hown] at h2; cases h2
          exact .inr h3
        · exact .inl (.inr ⟨l, o, by omega, h2, h3⟩)
end K43
namespace K43
open TB PySem
open L2 (atI ixN)

theorem slips_of_eq {k : Nat} {m : Mach} (ok : OK k m) :
    ∃ SL : List Slip, f_slips_of [eM m] = some (.lst (SL.map eQ)) ∧ SL.length ≤ 400 ∧ ∀ q, q ∈ SL ↔ ∃ s r l own, m[s]? = some r ∧ r[l]? = some own ∧ q ∈ slipsAt m s l own := by
  have hle := ok.le
  have hk := ok.k3
  have key : ∃ o, b_slips_of [some (eM m), none, none, none, none, none, none, none, none, none] [] = some o ∧ ∃ (SL : List Slip) (h : Hs), o = .rt (.ref 0) h ∧ h = [.lst (SL.map eQ)] ∧ SL.length ≤ 400 ∧ ∀ q, q ∈ SL ↔ ∃ s r l own, m[s]? = some r ∧ r[l]? = some own ∧ q ∈ slipsAt m s l own := by
    have hB : sAsg (ownArgs aNil) (gN 1) [some (eM m), none, none, none, none, none, none, none, none, none] [] = some (.nx [some (eM m), some (.ref 0), none, none, none, none, none, none, none, none] [.lst []]) := rfl
    have hD : iEnumF (aCons (eVar 0) aNil) [some (eM m), some (.ref 0), none, none, none, none, none, none, none, none] [.lst []] = some (cntS (srcL (m.map eR)), (m.map eR).length + 1, [.lst []]) := iEnumF_tup rfl
    obtain ⟨o, eo, qs, c2, c3, c4, c5, c6, rfl, hl, hm⟩ := forE_inv (e := eR) (l := m) (gt := gT 2 (gCons (gN 2) (gCons (gN 3) gNil))) (fb := (sSeq (sFor (iEnumF (aCons (eVar 3) aNil)) (gT 2 (gCons (gN 4) (gCons (gN 5) gNil))) (sSeq (sAsg (eLc2 (iR1 (aCons (eC (.int 3)) aNil)) (gN 7) eT (iR1 (aCons (eArgs (aCons (eVar 0) aNil) lenS) aNil)) (gN 8) eT (eArgs (aCons (eVar 7) (aCons (eVar 8) aNil)) mkTup) [7, 8] [8]) (gN 6)) (sSeq (sExpr (eMeth (eVar 1) (aCons (eLc (iSeq (eVar 6)) (gN 9) (bin2 (eVar 9) (eVar 5) neD) (bin2 (eArgs (aCons (eVar 2) (aCons (eVar 4) aNil)) mkTup) (eVar 9) addD) [9]) aNil) extM)) sNil))) sNil))
      (σ := [some (eM m), some (.ref 0), none, none, none, none, none, none, none, none]) (h := [.lst []])
      (Q := fun o => ∃ (qs : List Slip) (c2 c3 c4 c5 c6 : Option D), o = .nx [some (eM m), some (.ref 0), c2, c3, c4, c5, c6, none, none, none] [.lst (qs.map eQ)] ∧ qs.length ≤ m.length * 54 ∧ ∀ q, q ∈ qs ↔ ∃ s r l own, m[s]? = some r ∧ r[l]? = some own ∧ q ∈ slipsAt m s l own)
      (fun i σ h => ∃ (qs : List Slip) (c2 c3 c4 c5 c6 : Option D), σ = [some (eM m), some (.ref 0), c2, c3, c4, c5, c6, none, none, none] ∧ h = [.lst (qs.map eQ)] ∧ qs.length ≤ i * 54 ∧ ∀ q, q ∈ qs ↔ ∃ s r l own, s < i ∧ m[s]? = some r ∧ r[l]? = some own ∧ q ∈ slipsAt m s l own)
      (fun i r σ h hr ⟨qs, c2, c3, c4, c5, c6, eσ, eh, hlen, hm⟩ => by
        subst eσ eh
        have hil : i < m.length := (List.getElem?_eq_some_iff.mp hr).1
        have hrk : r.length = k := ok.row r (List.mem_of_getElem? hr)
        obtain ⟨o, eo, qs', d4, d5, d6, rfl, hl', hm'⟩ := slips_row ok hr (qs := qs) (c4 := c4) (c5 := c5) (c6 := c6) (c7 := none) (c8 := none) (c9 := none) (by omega)
        refine ⟨[some (eM m), some (.ref 0), some (eI i), some (eR r), c4, c5, c6, none, none, none], _, rfl, ?_⟩
        have hE : iEnumF (aCons (eVar 3) aNil) [some (eM m), some (.ref 0), some (eI i), some (eR r), c4, c5, c6, none, none, none] [.lst (qs.map eQ)] = some (cntS (srcL (r.map eS)), (r.map eS).length + 1, [.lst (qs.map eQ)]) := iEnumF_tup rfl
        refine ⟨_, seq_nx ((sFor_eq hE).trans eo), qs', _, _, d4, d5, d6, rfl, rfl, by omega, fun q => ?_⟩
        rw [hm', hm]
        constructor
        · rintro (⟨s, r', l, own, h1, h2⟩ | ⟨l, own, h1, h2⟩)
          · exact ⟨s, r', l, own, by omega, h2⟩
          · exact ⟨i, r, l, own, by omega, hr, h1, h2⟩
        · rintro ⟨s, r', l, own, h1, h2, h3, h4⟩
          by_cases hs : s = i
          · subst hs
            rw [hr] at h2; cases h2
            exact .inr ⟨l, own, h3, h4⟩
          · exact .inl ⟨s, r', l, own, by omega, h2, h3, h4⟩)
      (fun σ h ⟨qs, c2, c3, c4, c5, c6, eσ, eh, hlen, hm⟩ => ⟨qs, c2, c3, c4, c5, c6, by rw [eσ, eh], hlen, fun q => by
        rw [hm]
        constructor
        · rintro ⟨s, r, l, own, _, h⟩; exact ⟨s, r, l, own, h⟩
        · rintro ⟨s, r, l, own, h1, h⟩; exact ⟨s, r, l, own, (List.getElem?_eq_some_iff.mp h1).1, h1, h⟩⟩)
      ⟨[], none, none, none, none, none, rfl, rfl, by simp, fun q => by simp⟩
    refine ⟨.rt (.ref 0) [.lst (qs.map eQ)], ?_, qs, _, rfl, rfl, by omega, hm⟩
    unfold b_slips_of
    rw [seq_nx hB]
    refine (seq_nx ((sFor_eq hD).trans eo)).trans ?_
    exact ret_eq rfl
  obtain ⟨o, eo, SL, h, rfl, rfl, hl, hm⟩ := key
  exact ⟨SL, runP_rt rfl eo (fz_lst rfl (nrA_map nr_Q SL)), hl, hm⟩
theorem slips_OKq {k : Nat} {m : Mach} (ok : OK k m) {s l : Nat} {r : List (Nat × Nat)} {own : Nat × Nat} (h1 : m[s]? = some r) (h2 : r[l]? = some own) {q : Slip} (hq : q ∈ slipsAt m s l own) : OKq k m q ∧ q.s = s ∧ q.l = l ∧ (q.a, q.g) ≠ own := by
  obtain ⟨e1, e2, h3, h4, h5⟩ := slipsAt_mem.mp hq
  have hil := (List.getElem?_eq_some_iff.mp h1).1
  have hll := (List.getElem?_eq_some_iff.mp h2).1
  have hrk : r.length = k := ok.row r (List.mem_of_getElem? h1)
  exact ⟨⟨by omega, by omega, h3, h4⟩, e1, e2, h5⟩
end K43
namespace K43
open TB PySem
open L2 (atI ixN)

def eZ (m : Mach) (q : Slip) : D := .tup [eQ q, eM (slipM m q)]
theorem nr_Z (m : Mach) (q : Slip) : (eZ m q).nr = true := by simp only [eZ, D.nr, nrA, nr_Q, nr_M, Bool.and_self]
noncomputable def pU (k : Nat) (m : Mach) (P : List (List Nat)) (q : Slip) : Bool := (P.all fun w => decide (ans m 0 w = ans (slipM m q) 0 w)) && !(@decide (Same k m 0 (slipM m q) 0) (Classical.propDecidable _))
theorem untold_all {k : Nat} {m : Mach} (ok : OK k m) : ∃ SL : List Slip, f_slips_of [eM m] = some (.lst (SL.map eQ)) ∧ SL.length ≤ 400 ∧ (∀ q, q ∈ SL ↔ ∃ s r l own, m[s]? = some r ∧ r[l]? = some own ∧ q ∈ slipsAt m s l own) ∧
    ∀ P : List (List Nat), (∀ w ∈ P, Wd k w) → f_untold_slips [eM m, eP P] = some (.lst ((SL.filter (pU k m P)).map eQ)) := by
  obtain ⟨SL, esl, hl, hm⟩ := slips_of_eq ok
  have hok : ∀ q ∈ SL, OKq k m q := fun q hq => by
    obtain ⟨s, r, l, own, h1, h2, h3⟩ := (hm q).mp hq
    exact (slips_OKq ok h1 h2 h3).1
  refine ⟨SL, esl, hl, hm, fun P hP => ?_⟩
  have hA : eLc (iSeq (eArgs (aCons (eVar 0) aNil) (callP f_slips_of))) (gN 4) eT (eArgs (aCons (eVar 4) (aCons (eArgs (aCons (eVar 0) (aCons (eVar 4) aNil)) (callP f_with_slip)) aNil)) mkTup) [4] [some (eM m), some (eP P), none, none, none] [] = some (.lst (SL.map (eZ m)), []) := by
    refine eLc_eq (iSeq_lst (h1 := []) (xs := SL.map eQ) (by simp only [callP, nrA, nr_M, nr_W, nr_I, nr_S, nr_R, Bool.and_self, Bool.true_and, Bool.and_true, D.nr, runP, runB, start0, sSeq, sRet, sAsg, sIf, sNil, sExpr, eVar, eC, bin2, un1, eNot, eAnd, eOr, eIf, eArgs, aNil, aCons, mkTup, mkLst, gN, gT, gCons, gNil, viewT, viewL, viewQ, eIsi, tyD, subTy, eChain, ltI_i, leI_i, gtI_i, geI_i, subD_i, addD_i, List.map_cons, List.map_nil, List.length_cons, List.length_nil, List.replicate, List.cons_append, List.nil_append, List.append_nil, List.getElem?_cons_zero, List.getElem?_cons_succ, List.set_cons_zero, List.set_cons_succ, Nat.zero_add, Nat.add_zero, Nat.reduceAdd, Nat.reduceSub, if_true, if_false, ownArgs, sFor, iSeq, szl0, szl1, szl2, szl3, szl4, szl5, Nat.zero_le, Nat.reduceLeDiff, ↓reduceIte, esl])) ?_
    have := lcM_eval (e := eQ) (l := SL) (gt := gN 4) (ft := eT) (fe := eArgs (aCons (eVar 4) (aCons (eArgs (aCons (eVar 0) (aCons (eVar 4) aNil)) (callP f_with_slip)) aNil)) mkTup) (own := [4]) (σ := [some (eM m), some (eP P), none, none, none]) (h := []) (p := fun _ => true) (f := eZ m)
      (fun q hq => ⟨[some (eM m), some (eP P), none, none, some (eQ q)], rfl, rfl, fun _ => by
        have ew := with_slip_eq ok (hok q hq)
        simp only [callP, nrA, nr_M, nr_W, nr_I, nr_S, nr_R, Bool.and_self, Bool.true_and, Bool.and_true, D.nr, runP, runB, start0, sSeq, sRet, sAsg, sIf, sNil, sExpr, eVar, eC, bin2, un1, eNot, eAnd, eOr, eIf, eArgs, aNil, aCons, mkTup, mkLst, gN, gT, gCons, gNil, viewT, viewL, viewQ, eIsi, tyD, subTy, eChain, ltI_i, leI_i, gtI_i, geI_i, subD_i, addD_i, List.map_cons, List.map_nil, List.length_cons, List.length_nil, List.replicate, List.cons_append, List.nil_append, List.append_nil, List.getElem?_cons_zero, List.getElem?_cons_succ, List.set_cons_zero, List.set_cons_succ, Nat.zero_add, Nat.add_zero, Nat.reduceAdd, Nat.reduceSub, if_true, if_false, ownArgs, sFor, iSeq, szl0, szl1, szl2, szl3, szl4, szl5, Nat.zero_le, Nat.reduceLeDiff, ↓reduceIte, nr_Q, ew, eZ]⟩)
    rw [this, filter_tt]
  have hB : eLc (iSeq (eVar 2)) (gT 2 (gCons (gN 4) (gCons (gN 3) gNil))) ((eAnd ((eArgs (aCons (eVar 0) (aCons (eVar 1) (aCons (eVar 3) aNil))) (callP f_passes))) (eNot ((eArgs (aCons (eVar 0) (aCons (eVar 3) aNil)) (callP f_are_same)))))) (eVar 4) [4, 3] [some (eM m), some (eP P), some (.lst (SL.map (eZ m))), none, none] [] = some (.lst ((SL.filter (pU k m P)).map eQ), []) := by
    refine eLc_eq (iSeq_lst rfl) ?_
    refine lcM_eval (e := eZ m) (p := pU k m P) (f := eQ) fun q hq => ⟨[some (eM m), some (eP P), some (.lst (SL.map (eZ m))), some (eM (slipM m q)), some (eQ q)], rfl, ?_, fun _ => rfl⟩
    have okq := slip_ok ok (hok q hq)
    have ep := passes_eq ok okq hP
    unfold pU
    cases hb : (P.all fun w => decide (ans m 0 w = ans (slipM m q) 0 w)) with
    | false =>
      rw [hb] at ep
      simp only [callP, nrA, nr_M, nr_W, nr_I, nr_S, nr_R, Bool.and_self, Bool.true_and, Bool.and_true, D.nr, runP, runB, start0, sSeq, sRet, sAsg, sIf, sNil, sExpr, eVar, eC, bin2, un1, eNot, eAnd, eOr, eIf, eArgs, aNil, aCons, mkTup, mkLst, gN, gT, gCons, gNil, viewT, viewL, viewQ, eIsi, tyD, subTy, eChain, ltI_i, leI_i, gtI_i, geI_i, subD_i, addD_i, List.map_cons, List.map_nil, List.length_cons, List.length_nil, List.replicate, List.cons_append, List.nil_append, List.append_nil, List.getElem?_cons_zero, List.getElem?_cons_succ, List.set_cons_zero, List.set_cons_succ, Nat.zero_add, Nat.add_zero, Nat.reduceAdd, Nat.reduceSub, if_true, if_false, ownArgs, sFor, iSeq, szl0, szl1, szl2, szl3, szl4, szl5, Nat.zero_le, Nat.reduceLeDiff, ↓reduceIte, nr_P, ep]
      rfl
    | true =>
      rw [hb] at ep
      rcases are_same_eq ok okq with ⟨h1, e1⟩ | ⟨h1, e1⟩
      · rw [@decide_eq_true _ (Classical.propDecidable _) h1]
        simp only [callP, nrA, nr_M, nr_W, nr_I, nr_S, nr_R, Bool.and_self, Bool.true_and, Bool.and_true, D.nr, runP, runB, start0, sSeq, sRet, sAsg, sIf, sNil, sExpr, eVar, eC, bin2, un1, eNot, eAnd, eOr, eIf, eArgs, aNil, aCons, mkTup, mkLst, gN, gT, gCons, gNil, viewT, viewL, viewQ, eIsi, tyD, subTy, eChain, ltI_i, leI_i, gtI_i, geI_i, subD_i, addD_i, List.map_cons, List.map_nil, List.length_cons, List.length_nil, List.replicate, List.cons_append, List.nil_append, List.append_nil, List.getElem?_cons_zero, List.getElem?_cons_succ, List.set_cons_zero, List.set_cons_succ, Nat.zero_add, Nat.add_zero, Nat.reduceAdd, Nat.reduceSub, if_true, if_false, ownArgs, sFor, iSeq, szl0, szl1, szl2, szl3, szl4, szl5, Nat.zero_le, Nat.reduceLeDiff, ↓reduceIte, nr_P, ep, e1]
      · rw [@decide_eq_false _ (Classical.propDecidable _) h1]
        simp only [callP, nrA, nr_M, nr_W, nr_I, nr_S, nr_R, Bool.and_self, Bool.true_and, Bool.and_true, D.nr, runP, runB, start0, sSeq, sRet, sAsg, sIf, sNil, sExpr, eVar, eC, bin2, un1, eNot, eAnd, eOr, eIf, eArgs, aNil, aCons, mkTup, mkLst, gN, gT, gCons, gNil, viewT, viewL, viewQ, eIsi, tyD, subTy, eChain, ltI_i, leI_i, gtI_i, geI_i, subD_i, addD_i, List.map_cons, List.map_nil, List.length_cons, List.length_nil, List.replicate, List.cons_append, List.nil_append, List.append_nil, List.getElem?_cons_zero, List.getElem?_cons_succ, List.set_cons_zero, List.set_cons_succ, Nat.zero_add, Nat.add_zero, Nat.reduceAdd, Nat.reduceSub, if_true, if_false, ownArgs, sFor, iSeq, szl0, szl1, szl2, szl3, szl4, szl5, Nat.zero_le, Nat.reduceLeDiff, ↓reduceIte, nr_P, ep, e1]
  have key : b_untold_slips [some (eM m), some (eP P), none, none, none] [] = some (.rt (.lst ((SL.filter (pU k m P)).map eQ)) []) := by
    unfold b_untold_slips
    exact (seq_nx (asg_N (i := 2) hA)).trans (ret_eq hB)
  exact runP_rt rfl key (fz_nr (nrA_map nr_Q _))
theorem pU_iff {k : Nat} {m : Mach} {P : List (List Nat)} {q : Slip} : pU k m P q = true ↔ (∀ w ∈ P, ans m 0 w = ans (slipM m q) 0 w) ∧ ¬ Same k m 0 (slipM m q) 0 := by
  unfold pU
  simp only [Bool.and_eq_true, List.all_eq_true, decide_eq_true_eq, Bool.not_eq_true', decide_eq_false_iff_not]
end K43
namespace K43
open TB PySem
open L2 (atI ixN)

theorem ix_P {l : List (List Nat)} {i : Nat} {w : List Nat} {h : Hs} (e : l[i]? = some w) : ixD h (eP l) (.int (i : Nat)) = some (eW w) := by
  have z := atI_map (f := eW) l i
  rw [e] at z
  simp only [ixD, orOp, ixS, eP, viewQ, z, Option.map_some]
def Rise (l : List (List Nat)) : Prop := ∀ i x y, l[i]? = some x → l[i + 1]? = some y → D.lt (eW x) (eW y) = true
theorem rise_sort {l : List (List Nat)} (nd : l.Nodup) : Rise (sortF eW l) := fun _ _ _ h1 h2 => sortF_rise pl_W (fun _ _ => inj_W) nd h1 h2
theorem is_ascending_eq {l : List (List Nat)} (hl : l.length ≤ 100000) (hr : Rise l) : f_is_ascending [eP l] = some (.bl true) := by
  have hi : iR2 (aCons (eC (.int 1)) (aCons (eArgs (aCons (eVar 0) aNil) lenS) aNil)) [some (eP l), none] [] = some (srcR 1 (l.length - 1), l.length - 1 + 1, []) := by
    have e : (aCons (eC (.int 1)) (aCons (eArgs (aCons (eVar 0) aNil) lenS) aNil)) [some (eP l), none] [] = some ([.int 1, .int (l.length : Nat)], []) := by
      simp only [callP, nrA, nr_M, nr_W, nr_I, nr_S, nr_R, Bool.and_self, Bool.true_and, Bool.and_true, D.nr, runP, runB, start0, sSeq, sRet, sAsg, sIf, sNil, sExpr, eVar, eC, bin2, un1, eNot, eAnd, eOr, eIf, eArgs, aNil, aCons, mkTup, mkLst, gN, gT, gCons, gNil, viewT, viewL, viewQ, eIsi, tyD, subTy, eChain, ltI_i, leI_i, gtI_i, geI_i, subD_i, addD_i, List.map_cons, List.map_nil, List.length_cons, List.length_nil, List.replicate, List.cons_append, List.nil_append, List.append_nil, List.getElem?_cons_zero, List.getElem?_cons_succ, List.set_cons_zero, List.set_cons_succ, Nat.zero_add, Nat.add_zero, Nat.reduceAdd, Nat.reduceSub, if_true, if_false, ownArgs, sFor, iSeq, szl0, szl1, szl2, szl3, szl4, szl5, Nat.zero_le, Nat.reduceLeDiff, ↓reduceIte, eP, lenS, viewQ, List.length_map]
    unfold iR2
    rw [e]
    simp only
    rw [if_pos ⟨by omega, by omega, by omega, by omega⟩]
    have : (((l.length : Nat) : Int) - 1).toNat = l.length - 1 := by omega
    rw [this]
  have hA : eLc (iR2 (aCons (eC (.int 1)) (aCons (eArgs (aCons (eVar 0) aNil) lenS) aNil))) (gN 1) eT (bin2 (bin2 (eVar 0) (bin2 (eVar 1) (eC (.int 1)) subD) ixD) (bin2 (eVar 0) (eVar 1) ixD) ltT) [1] [some (eP l), none] [] = some (.lst ((List.range (l.length - 1)).map fun _ => .bl true), []) := by
    refine eLc_eq hi ?_
    have := lcR_eval (lo := 1) (n := l.length - 1) (gt := gN 1) (ft := eT) (fe := bin2 (bin2 (eVar 0) (bin2 (eVar 1) (eC (.int 1)) subD) ixD) (bin2 (eVar 0) (eVar 1) ixD) ltT) (own := [1]) (σ := [some (eP l), none]) (h := []) (p := fun _ => true) (f := fun _ => .bl true)
      (fun i hi => ⟨[some (eP l), some (.int (1 + (i : Nat)))], rfl, rfl, fun _ => by
        have h1 : l[i]? = some l[i] := List.getElem?_eq_getElem (by omega)
        have h2 : l[i + 1]? = some l[i + 1] := List.getElem?_eq_getElem (by omega)
        have e1 : ixD [] (eP l) (.int (i : Nat)) = some (eW l[i]) := ix_P h1
        have e2 : ixD [] (eP l) (.int ((i + 1 : Nat) : Nat)) = some (eW l[i + 1]) := ix_P h2
        have c1 : (1 : Int) + (i : Nat) = ((i + 1 : Nat) : Int) := by omega
        have c2 : ((i + 1 : Nat) : Int) - 1 = (i : Nat) := by omega
        have e3 : ltT [] (eW l[i]) (eW l[i + 1]) = some (.bl true) := by
          unfold ltT
          rw [pl_W, pl_W, cok_W, hr i _ _ h1 h2]
          rfl
        rw [c1]
        simp only [callP, nrA, nr_M, nr_W, nr_I, nr_S, nr_R, Bool.and_self, Bool.true_and, Bool.and_true, D.nr, runP, runB, start0, sSeq, sRet, sAsg, sIf, sNil, sExpr, eVar, eC, bin2, un1, eNot, eAnd, eOr, eIf, eArgs, aNil, aCons, mkTup, mkLst, gN, gT, gCons, gNil, viewT, viewL, viewQ, eIsi, tyD, subTy, eChain, ltI_i, leI_i, gtI_i, geI_i, subD_i, addD_i, List.map_cons, List.map_nil, List.length_cons, List.length_nil, List.replicate, List.cons_append, List.nil_append, List.append_nil, List.getElem?_cons_zero, List.getElem?_cons_succ, List.set_cons_zero, List.set_cons_succ, Nat.zero_add, Nat.add_zero, Nat.reduceAdd, Nat.reduceSub, if_true, if_false, ownArgs, sFor, iSeq, szl0, szl1, szl2, szl3, szl4, szl5, Nat.zero_le, Nat.reduceLeDiff, ↓reduceIte, c2, e1, e2, e3]⟩)
    rw [this, filter_tt]
  have key : b_is_ascending [some (eP l), none] [] = some (.rt (.bl true) []) := by
    unfold b_is_ascending
    refine ret_eq ?_
    have hall : allS [] [.lst ((List.range (l.length - 1)).map fun _ => D.bl true)] = some (.bl true) := by
      simp only [allS, viewL, bools_map (f := fun _ => true)]
      simp
    simp only [eArgs, aCons, aNil, hA, hall]
  exact runP_rt rfl key (fz_nr rfl)
theorem is_suite_eq {k : Nat} (h3 : 0 < k) {l : List (List Nat)} (hl : l.length ≤ 200) (hw : ∀ w ∈ l, Word k w ∧ w.length ≤ 20) (hr : Rise l) : f_is_suite [eI k, eP l] = some (.bl true) := by
  have ea := is_ascending_eq (by omega) hr
  have hA : eLc (iSeq (eVar 1)) (gN 2) eT ((eAnd (eArgs (aCons (eVar 0) (aCons (eVar 2) aNil)) (callP f_is_word)) (bin2 (eArgs (aCons (eVar 2) aNil) lenS) (eC (.int 20)) leI))) [2] [some (eI k), some (eP l), none] [] = some (.lst (l.map fun _ => .bl true), []) := by
    refine eLc_eq (iSeq_tup rfl) ?_
    have := lcM_eval (e := eW) (l := l) (gt := gN 2) (ft := eT) (fe := (eAnd (eArgs (aCons (eVar 0) (aCons (eVar 2) aNil)) (callP f_is_word)) (bin2 (eArgs (aCons (eVar 2) aNil) lenS) (eC (.int 20)) leI))) (own := [2]) (σ := [some (eI k), some (eP l), none]) (h := []) (p := fun _ => true) (f := fun _ => .bl true)
      (fun w hm => ⟨[some (eI k), some (eP l), some (eW w)], rfl, rfl, fun _ => by
        have ew := is_word_eq h3 (w := w) ⟨(hw w hm).1, by have := (hw w hm).2; omega⟩
        have el : lenS [] [eW w] = some (.int (w.length : Nat)) := by simp only [eW, lenS, viewQ, List.length_map]
        have hle : ((w.length : Nat) : Int) ≤ 20 := by have := (hw w hm).2; omega
        simp only [callP, nrA, nr_M, nr_W, nr_I, nr_S, nr_R, Bool.and_self, Bool.true_and, Bool.and_true, D.nr, runP, runB, start0, sSeq, sRet, sAsg, sIf, sNil, sExpr, eVar, eC, bin2, un1, eNot, eAnd, eOr, eIf, eArgs, aNil, aCons, mkTup, mkLst, gN, gT, gCons, gNil, viewT, viewL, viewQ, eIsi, tyD, subTy, eChain, ltI_i, leI_i, gtI_i, geI_i, subD_i, addD_i, List.map_cons, List.map_nil, List.length_cons, List.length_nil, List.replicate, List.cons_append, List.nil_append, List.append_nil, List.getElem?_cons_zero, List.getElem?_cons_succ, List.set_cons_zero, List.set_cons_succ, Nat.zero_add, Nat.add_zero, Nat.reduceAdd, Nat.reduceSub, if_true, if_false, ownArgs, sFor, iSeq, szl0, szl1, szl2, szl3, szl4, szl5, Nat.zero_le, Nat.reduceLeDiff, ↓reduceIte, ew, el, decide_eq_true hle]⟩)
    rw [this, filter_tt]
  have hall : allS [] [.lst (l.map fun _ => D.bl true)] = some (.bl true) := by
    simp only [allS, viewL, bools_map (f := fun _ => true)]
    simp
  have el : lenS [] [eP l] = some (.int (l.length : Nat)) := by simp only [eP, lenS, viewQ, List.length_map]
  have hgt : ¬ (((l.length : Nat) : Int) > 200) := by omega
  have ty : ∀ s, eIsi (eVar 1) s [some (eI k), some (eP l), none] [] = eIsi (eVar 1) s [some (eI k), some (.tup (l.map eW)), none] [] := fun _ => rfl
  have key : b_is_suite [some (eI k), some (eP l), none] [] = some (.rt (.bl true) []) := by
    have hall2 : eArgs (aCons (eLc (iSeq (eVar 1)) (gN 2) eT ((eAnd (eArgs (aCons (eVar 0) (aCons (eVar 2) aNil)) (callP f_is_word)) (bin2 (eArgs (aCons (eVar 2) aNil) lenS) (eC (.int 20)) leI))) [2]) aNil) allS [some (eI k), some (eP l), none] [] = some (.bl true, []) := by
      simp only [eArgs, aCons, aNil, hA, hall]
    unfold b_is_suite
    generalize hX : eArgs (aCons (eLc (iSeq (eVar 1)) (gN 2) eT ((eAnd (eArgs (aCons (eVar 0) (aCons (eVar 2) aNil)) (callP f_is_word)) (bin2 (eArgs (aCons (eVar 2) aNil) lenS) (eC (.int 20)) leI))) [2]) aNil) allS = X at hall2 ⊢
    have h1 : eIsi (eVar 1) "tuple" [some (eI k), some (eP l), none] [] = some (.bl true, []) := rfl
    simp only [sSeq, sIf, sRet, sNil, eOr, eNot, h1, hall2, bin2, eC, gtI_i, eArgs, aCons, aNil, eVar, List.getElem?_cons_zero, List.getElem?_cons_succ, el, decide_eq_false hgt, callP, nrA, nr_P, Bool.and_self, Bool.and_true, ea, if_true, if_false, Bool.not_true, Bool.not_false]
  exact runP_rt rfl key (fz_nr rfl)
end K43
namespace K43
open TB PySem
open L2 (atI ixN)

/-! ### the pool -/
def HpP (a : Nat) (xs : List Int) (t : Hs) : Hs := .lst [.int (a : Nat)] :: .lst [.lst (xs.map D.int), .ref 0] :: t
theorem cell_eq {ns : List Int} (i : Nat) : ∃ x : Int, f_p_law_cell [.scr (ns.map D.int), .int (i : Nat)] = some (.int x) := by
  have el : lenS [] [.scr (ns.map D.int)] = some (.int (ns.length : Nat)) := by simp only [lenS, viewQ, List.length_map]
  by_cases h : i < ns.length
  · have e1 : ixD [] (.scr (ns.map D.int)) (.int (i : Nat)) = some (.int ns[i]) := by
      have z := atI_map (f := D.int) ns i
      rw [List.getElem?_eq_getElem h] at z
      simp only [ixD, orOp, ixS, viewQ]
      have z' : atI (ns.map D.int) (i : Int) = some (.int ns[i]) := z
      rw [z']
    refine ⟨ns[i], runP_rt (h := []) rfl ?_ (fz_nr rfl)⟩
    show b_p_law_cell [some (.scr (ns.map D.int)), some (.int (i : Nat))] [] = _
    have hi : ((i : Nat) : Int) < (ns.length : Nat) := by omega
    unfold b_p_law_cell
    simp only [callP, nrA, nr_M, nr_W, nr_I, nr_S, nr_R, Bool.and_self, Bool.true_and, Bool.and_true, D.nr, runP, runB, start0, sSeq, sRet, sAsg, sIf, sNil, sExpr, eVar, eC, bin2, un1, eNot, eAnd, eOr, eIf, eArgs, aNil, aCons, mkTup, mkLst, gN, gT, gCons, gNil, viewT, viewL, viewQ, eIsi, tyD, subTy, eChain, ltI_i, leI_i, gtI_i, geI_i, subD_i, addD_i, List.map_cons, List.map_nil, List.length_cons, List.length_nil, List.replicate, List.cons_append, List.nil_append, List.append_nil, List.getElem?_cons_zero, List.getElem?_cons_succ, List.set_cons_zero, List.set_cons_succ, Nat.zero_add, Nat.add_zero, Nat.reduceAdd, Nat.reduceSub, if_true, if_false, ownArgs, sFor, iSeq, szl0, szl1, szl2, szl3, szl4, szl5, Nat.zero_le, Nat.reduceLeDiff, ↓reduceIte, el, decide_eq_true hi, e1]
  · refine ⟨0, runP_rt (h := []) rfl ?_ (fz_nr rfl)⟩
    show b_p_law_cell [some (.scr (ns.map D.int)), some (.int (i : Nat))] [] = _
    have hi : ¬ ((i : Nat) : Int) < (ns.length : Nat) := by omega
    unfold b_p_law_cell
    simp only [callP, nrA, nr_M, nr_W, nr_I, nr_S, nr_R, Bool.and_self, Bool.true_and, Bool.and_true, D.nr, runP, runB, start0, sSeq, sRet, sAsg, sIf, sNil, sExpr, eVar, eC, bin2, un1, eNot, eAnd, eOr, eIf, eArgs, aNil, aCons, mkTup, mkLst, gN, gT, gCons, gNil, viewT, viewL, viewQ, eIsi, tyD, subTy, eChain, ltI_i, leI_i, gtI_i, geI_i, subD_i, addD_i, List.map_cons, List.map_nil, List.length_cons, List.length_nil, List.replicate, List.cons_append, List.nil_append, List.append_nil, List.getElem?_cons_zero, List.getElem?_cons_succ, List.set_cons_zero, List.set_cons_succ, Nat.zero_add, Nat.add_zero, Nat.reduceAdd, Nat.reduceSub, if_true, if_false, ownArgs, sFor, iSeq, szl0, szl1, szl2, szl3, szl4, szl5, Nat.zero_le, Nat.reduceLeDiff, ↓reduceIte, el, decide_eq_false hi]
theorem pw18 (h : Hs) : powD h (.int 10) (.int 18) = some (.int 1000000000000000000) := by
  have e : ((10 : Int) ^ (18 : Int).toNat) = 1000000000000000000 := by decide
  unfold powD int2
  simp only []
  rw [if_pos (by decide), e]
def nStep : SF := (sSeq (sIf ((eAnd (bin2 (eVar 0) (bin2 (eC (.int 10)) (eC (.int 18)) powD) geI) (bin2 (eVar 3) (eC (.int 0)) gtI))) (sSeq (sExpr (eMeth (eVar 2) (aCons (bin2 (eArgs (aCons (eVar 3) aNil) intS) (eC (.int 4099)) modD) aNil) appM)) (sSeq (sAsg (bin2 (eVar 3) (eC (.int 4099)) divD) (gN 3)) sNil)) (sSeq (sAsg (bin2 (eArgs (aCons (bin2 (bin2 (eVar 0) (eC (.int 69621)) mulD) (bin2 (bin2 (eVar 4) (eC (.int 1)) addD) (eC (.int 48271)) mulD) addD) aNil) intS) (eC (.int 2147483647)) modD) (gN 5)) (sSeq (sAsg (bin2 (eArgs (aCons (bin2 (bin2 (bin2 (eVar 5) (eVar 5) mulD) (bin2 (eVar 5) (eC (.int 16807)) mulD) addD) (bin2 (eVar 4) (eC (.int 7919)) mulD) addD) aNil) intS) (eC (.int 2147483629)) modD) (gN 5)) (sSeq (sAsg (bin2 (eArgs (aCons (bin2 (bin2 (bin2 (eVar 5) (eVar 5) mulD) (eVar 0) addD) (bin2 (eC (.int 17)) (eVar 4) mulD) addD) aNil) intS) (eC (.int 2147483587)) modD) (gN 5)) (sSeq (sExpr (eMeth (eVar 2) (aCons (bin2 (bin2 (eVar 5) (eC (.int 5)) divD) (eC (.int 4099)) modD) aNil) appM)) sNil))))) sNil)
theorem app_i {xs : List Int} {y : Int} (hx : xs.length ≤ 10000) : appM [.lst (xs.map D.int)] (.ref 0) [.int y] = some (.non, [.lst ((xs ++ [y]).map D.int)]) := by
  simp only [appM, List.getElem?_cons_zero, List.length_map]
  rw [if_pos (lt_szL (by omega))]
  simp
theorem p64v : p64 = 18446744073709551616 := rfl
theorem bin2_eq {fa fb : EF} {op : Hs → D → D → Option D} {σ : Fr} {h h1 h2 : Hs} {a b c : D} (ea : fa σ h = some (a, h1)) (eb : fb σ h1 = some (b, h2)) (eo : op h2 a b = some c) : bin2 fa fb op σ h = some (c, h2) := by
  unfold bin2
  rw [ea]
  simp only
  rw [eb]
  simp only
  rw [eo]
theorem args1_eq {fa : EF} {op : Hs → List D → Option D} {σ : Fr} {h h1 : Hs} {a c : D} (ea : fa σ h = some (a, h1)) (eo : op h1 [a] = some c) : eArgs (aCons fa aNil) op σ h = some (c, h1) := by
  unfold eArgs aCons aNil
  rw [ea]
  simp only
  rw [eo]
theorem var_eq {i : Nat} {σ : Fr} {h : Hs} {d : D} (e : σ[i]? = some (some d)) : eVar i σ h = some (d, h) := by
  unfold eVar
  rw [e]
theorem nS_A1 {x y : Int} {σ : Fr} {h : Hs} (e0 : σ[0]? = some (some (.int x))) (e4 : σ[4]? = some (some (.int y))) :
    bin2 (bin2 (eVar 0) (eC (.int 69621)) mulD) (bin2 (bin2 (eVar 4) (eC (.int 1)) addD) (eC (.int 48271)) mulD) addD σ h = some (.int (x * 69621 + (y + 1) * 48271), h) :=
  bin2_eq (bin2_eq (var_eq e0) rfl (mulD_i (by rw [p64v]; omega))) (bin2_eq (bin2_eq (var_eq e4) rfl addD_i) rfl (mulD_i (by rw [p64v]; omega))) addD_i
theorem nS_A {x r : Int} {i n : Nat} {c5 : Option D} {h : Hs} :
    sAsg (bin2 (eArgs (aCons (bin2 (bin2 (eVar 0) (eC (.int 69621)) mulD) (bin2 (bin2 (eVar 4) (eC (.int 1)) addD) (eC (.int 48271)) mulD) addD) aNil) intS) (eC (.int 2147483647)) modD) (gN 5) [some (.int x), some (.int (n : Nat)), some (.ref 0), some (.int r), some (.int (i : Nat)), c5] h = some (.nx [some (.int x), some (.int (n : Nat)), some (.ref 0), some (.int r), some (.int (i : Nat)), some (.int ((x * 69621 + ((i : Nat) + 1) * 48271) % 2147483647))] h) :=
  asg_N (i := 5) (bin2_eq (args1_eq (nS_A1 rfl rfl) rfl) rfl (modD_i (by omega)))
theorem nS_t {x r : Int} {i n : Nat} {c5 : Option D} {xs : List Int} (hx : xs.length ≤ 1000) (h1 : decide ((1000000000000000000 : Int) ≤ x) = true) (h2 : decide (0 < r) = true) :
    nStep [some (.int x), some (.int (n : Nat)), some (.ref 0), some (.int r), some (.int (i : Nat)), c5] [.lst (xs.map D.int)] = some (.nx [some (.int x), some (.int (n : Nat)), some (.ref 0), some (.int (r / 4099)), some (.int (i : Nat)), c5] [.lst ((xs ++ [r % 4099]).map D.int)]) := by
  have ei : ∀ (h : Hs) (j : Int), intS h [.int j] = some (.int j) := fun _ _ => rfl
  have d1 : ∀ (h : Hs) (j : Int), modD h (.int j) (.int 4099) = some (.int (j % 4099)) := fun _ _ => modD_i (by omega)
  have d2 : ∀ (h : Hs) (j : Int), divD h (.int j) (.int 4099) = some (.int (j / 4099)) := fun _ _ => divD_i (by omega) (by omega)
  unfold nStep
  simp only [callP, nrA, nr_M, nr_W, nr_I, nr_S, nr_R, Bool.and_self, Bool.true_and, Bool.and_true, D.nr, runP, runB, start0, sSeq, sRet, sAsg, sIf, sNil, sExpr, eVar, eC, bin2, un1, eNot, eAnd, eOr, eIf, eArgs, aNil, aCons, mkTup, mkLst, gN, gT, gCons, gNil, viewT, viewL, viewQ, eIsi, tyD, subTy, eChain, ltI_i, leI_i, gtI_i, geI_i, subD_i, addD_i, List.map_cons, List.map_nil, List.length_cons, List.length_nil, List.replicate, List.cons_append, List.nil_append, List.append_nil, List.getElem?_cons_zero, List.getElem?_cons_succ, List.set_cons_zero, List.set_cons_succ, Nat.zero_add, Nat.add_zero, Nat.reduceAdd, Nat.reduceSub, if_true, if_false, ownArgs, sFor, iSeq, szl0, szl1, szl2, szl3, szl4, szl5, Nat.zero_le, Nat.reduceLeDiff, ↓reduceIte, pw18, h1, h2, ei, eMeth, d1, d2, app_i (xs := xs) (by omega)]
theorem nS_m {v : Int} (b1 : 0 ≤ v) (b2 : v < 2147483647) (h : Hs) : mulD h (.int v) (.int v) = some (.int (v * v)) := mulD_i (by rw [p64v]; omega)
theorem nS_f {x r : Int} {i n : Nat} {c5 : Option D} {xs : List Int} (hb : (decide ((1000000000000000000 : Int) ≤ x) && decide (0 < r)) = false) : eAnd (bin2 (eVar 0) (bin2 (eC (.int 10)) (eC (.int 18)) powD) geI) (bin2 (eVar 3) (eC (.int 0)) gtI) [some (.int x), some (.int (n : Nat)), some (.ref 0), some (.int r), some (.int (i : Nat)), c5] [.lst (xs.map D.int)] = some (.bl false, [.lst (xs.map D.int)]) := by
  simp only [callP, nrA, nr_M, nr_W, nr_I, nr_S, nr_R, Bool.and_self, Bool.true_and, Bool.and_true, D.nr, runP, runB, start0, sSeq, sRet, sAsg, sIf, sNil, sExpr, eVar, eC, bin2, un1, eNot, eAnd, eOr, eIf, eArgs, aNil, aCons, mkTup, mkLst, gN, gT, gCons, gNil, viewT, viewL, viewQ, eIsi, tyD, subTy, eChain, ltI_i, leI_i, gtI_i, geI_i, subD_i, addD_i, List.map_cons, List.map_nil, List.length_cons, List.length_nil, List.replicate, List.cons_append, List.nil_append, List.append_nil, List.getElem?_cons_zero, List.getElem?_cons_succ, List.set_cons_zero, List.set_cons_succ, Nat.zero_add, Nat.add_zero, Nat.reduceAdd, Nat.reduceSub, if_true, if_false, ownArgs, sFor, iSeq, szl0, szl1, szl2, szl3, szl4, szl5, Nat.zero_le, Nat.reduceLeDiff, ↓reduceIte, pw18]
  cases h1 : decide ((1000000000000000000 : Int) ≤ x) with
  | false => rfl
  | true =>
    rw [h1, Bool.true_and] at hb
    simp only [hb]
theorem nS_B {x r v : Int} {i n : Nat} {h : Hs} (b1 : 0 ≤ v) (b2 : v < 2147483647) :
    sAsg (bin2 (eArgs (aCons (bin2 (bin2 (bin2 (eVar 5) (eVar 5) mulD) (bin2 (eVar 5) (eC (.int 16807)) mulD) addD) (bin2 (eVar 4) (eC (.int 7919)) mulD) addD) aNil) intS) (eC (.int 2147483629)) modD) (gN 5) [some (.int x), some (.int (n : Nat)), some (.ref 0), some (.int r), some (.int (i : Nat)), some (.int v)] h = some (.nx [some (.int x), some (.int (n : Nat)), some (.ref 0), some (.int r), some (.int (i : Nat)), some (.int ((v * v + v * 16807 + (i : Nat) * 7919) % 2147483629))] h) :=
  asg_N (i := 5) (bin2_eq (args1_eq (bin2_eq (bin2_eq (bin2_eq (var_eq rfl) (var_eq rfl) (nS_m b1 b2 h)) (bin2_eq (var_eq rfl) rfl (mulD_i (by rw [p64v]; omega))) addD_i) (bin2_eq (var_eq rfl) rfl (mulD_i (by rw [p64v]; omega))) addD_i) rfl) rfl (modD_i (by omega)))
theorem nS_C {x r v : Int} {i n : Nat} {h : Hs} (b1 : 0 ≤ v) (b2 : v < 2147483647) :
    sAsg (bin2 (eArgs (aCons (bin2 (bin2 (bin2 (eVar 5) (eVar 5) mulD) (eVar 0) addD) (bin2 (eC (.int 17)) (eVar 4) mulD) addD) aNil) intS) (eC (.int 2147483587)) modD) (gN 5) [some (.int x), some (.int (n : Nat)), some (.ref 0), some (.int r), some (.int (i : Nat)), some (.int v)] h = some (.nx [some (.int x), some (.int (n : Nat)), some (.ref 0), some (.int r), some (.int (i : Nat)), some (.int ((v * v + x + 17 * (i : Nat)) % 2147483587))] h) :=
  asg_N (i := 5) (bin2_eq (args1_eq (bin2_eq (bin2_eq (bin2_eq (var_eq rfl) (var_eq rfl) (nS_m b1 b2 h)) (var_eq rfl) addD_i) (bin2_eq rfl (var_eq rfl) (mulD_j (by rw [p64v]; omega))) addD_i) rfl) rfl (modD_i (by omega)))
theorem nS_D {x r v : Int} {i n : Nat} {xs : List Int} (hx : xs.length ≤ 1000) :
    sSeq (sExpr (eMeth (eVar 2) (aCons (bin2 (bin2 (eVar 5) (eC (.int 5)) divD) (eC (.int 4099)) modD) aNil) appM)) sNil [some (.int x), some (.int (n : Nat)), some (.ref 0), some (.int r), some (.int (i : Nat)), some (.int v)] [.lst (xs.map D.int)] = some (.nx [some (.int x), some (.int (n : Nat)), some (.ref 0), some (.int r), some (.int (i : Nat)), some (.int v)] [.lst ((xs ++ [v / 5 % 4099]).map D.int)]) := by
  have e : bin2 (bin2 (eVar 5) (eC (.int 5)) divD) (eC (.int 4099)) modD [some (.int x), some (.int (n : Nat)), some (.ref 0), some (.int r), some (.int (i : Nat)), some (.int v)] [.lst (xs.map D.int)] = some (.int (v / 5 % 4099), [.lst (xs.map D.int)]) := bin2_eq (bin2_eq (var_eq rfl) rfl (divD_i (by omega) (by omega))) rfl (modD_i (by omega))
  have ea := app_i (xs := xs) (y := v / 5 % 4099) (by omega)
  generalize v / 5 % 4099 = y at e ea ⊢
  generalize bin2 (bin2 (eVar 5) (eC (.int 5)) divD) (eC (.int 4099)) modD = f at e ⊢
  unfold sSeq sExpr eMeth aCons aNil eVar sNil
  simp only [List.getElem?_cons_zero, List.getElem?_cons_succ, e, ea, viewL]
theorem sIf_f {c : EF} {f g : SF} {σ : Fr} {h h1 : Hs} (e : c σ h = some (.bl false, h1)) : sIf c f g σ h = g σ h1 := by
  unfold sIf
  rw [e]
theorem seq_nil {g : SF} {σ σ1 : Fr} {h h1 : Hs} (e : g σ h = some (.nx σ1 h1)) : sSeq g sNil σ h = some (.nx σ1 h1) := by
  rw [seq_nx e]; rfl
theorem nStep_eq (x r : Int) {i n : Nat} (c5 : Option D) {xs : List Int} (hx : xs.length ≤ 1000) :
    ∃ (r' y : Int) (c5' : Option D), nStep [some (.int x), some (.int (n : Nat)), some (.ref 0), some (.int r), some (.int (i : Nat)), c5] [.lst (xs.map D.int)] = some (.nx [some (.int x), some (.int (n : Nat)), some (.ref 0), some (.int r'), some (.int (i : Nat)), c5'] [.lst ((xs ++ [y]).map D.int)]) := by
  cases hb : (decide ((1000000000000000000 : Int) ≤ x) && decide (0 < r)) with
  | true =>
    rw [Bool.and_eq_true] at hb
    exact ⟨_, _, _, nS_t hx hb.1 hb.2⟩
  | false =>
    have b1 := Int.emod_nonneg (x * 69621 + ((i : Nat) + 1) * 48271) (show (2147483647 : Int) ≠ 0 by omega)
    have b2 := Int.emod_lt_of_pos (x * 69621 + ((i : Nat) + 1) * 48271) (show (0 : Int) < 2147483647 by omega)
    have hA := nS_A (x := x) (r := r) (i := i) (n := n) (c5 := c5) (h := [.lst (xs.map D.int)])
    generalize (x * 69621 + ((i : Nat) + 1) * 48271) % 2147483647 = v at b1 b2 hA
    have hB := nS_B (x := x) (r := r) (i := i) (n := n) (h := [.lst (xs.map D.int)]) b1 b2
    have b3 := Int.emod_nonneg (v * v + v * 16807 + (i : Nat) * 7919) (show (2147483629 : Int) ≠ 0 by omega)
    have b4 := Int.emod_lt_of_pos (v * v + v * 16807 + (i : Nat) * 7919) (show (0 : Int) < 2147483629 by omega)
    generalize (v * v + v * 16807 + (i : Nat) * 7919) % 2147483629 = w at b3 b4 hB
    have hC := nS_C (x := x) (r := r) (i := i) (n := n) (h := [.lst (xs.map D.int)]) b3 (show w < 2147483647 by omega)
    generalize (w * w + x + 17 * (i : Nat)) % 2147483587 = u at hC
    refine ⟨r, u / 5 % 4099, some (.int u), ?_⟩
    exact seq_nil ((sIf_f (nS_f hb)).trans ((seq_nx hA).trans ((seq_nx hB).trans ((seq_nx hC).trans (nS_D hx)))))
theorem numbers_eq (x : Int) {n : Nat} (hn : n ≤ 1000) : ∃ xs : List Int, xs.length = n ∧ f_p_law_numbers [.int x, .int (n : Nat)] = some (.lst (xs.map D.int)) := by
  have key : ∃ o, b_p_law_numbers [some (.int x), some (.int (n : Nat)), none, none, none, none] [] = some o ∧ ∃ (xs : List Int) (h : Hs), o = .rt (.ref 0) h ∧ h = [.lst (xs.map D.int)] ∧ xs.length = n := by
    have hA : sAsg (ownArgs aNil) (gN 2) [some (.int x), some (.int (n : Nat)), none, none, none, none] [] = some (.nx [some (.int x), some (.int (n : Nat)), some (.ref 0), none, none, none] [.lst []]) := rfl
    have hB : sAsg (eVar 0) (gN 3) [some (.int x), some (.int (n : Nat)), some (.ref 0), none, none, none] [.lst []] = some (.nx [some (.int x), some (.int (n : Nat)), some (.ref 0), some (.int x), none, none] [.lst []]) := rfl
    have hC : iR1 (aCons (eVar 1) aNil) [some (.int x), some (.int (n : Nat)), some (.ref 0), some (.int x), none, none] [.lst []] = some (srcR 0 n, n + 1, [.lst []]) := iR1_eq rfl (by omega)
    obtain ⟨o, eo, xs, r, c4, c5, rfl, hl⟩ := forR_inv (n := n) (gt := gN 4) (fb := nStep) (σ := [some (.int x), some (.int (n : Nat)), some (.ref 0), some (.int x), none, none]) (h := [.lst []])
      (Q := fun o => ∃ (xs : List Int) (r : Int) (c4 c5 : Option D), o = .nx [some (.int x), some (.int (n : Nat)), some (.ref 0), some (.int r), c4, c5] [.lst (xs.map D.int)] ∧ xs.length = n)
      (fun i σ h => ∃ (xs : List Int) (r : Int) (c4 c5 : Option D), σ = [some (.int x), some (.int (n : Nat)), some (.ref 0), some (.int r), c4, c5] ∧ h = [.lst (xs.map D.int)] ∧ xs.length = i)
      (fun i σ h hi ⟨xs, r, c4, c5, eσ, eh, hl⟩ => by
        subst eσ eh
        obtain ⟨r', y, c5', e⟩ := nStep_eq x r (i := i) (n := n) c5 (xs := xs) (by omega)
        exact ⟨_, _, rfl, _, e, xs ++ [y], r', _, c5', rfl, rfl, by rw [List.length_append, hl]; rfl⟩)
      (fun σ h ⟨xs, r, c4, c5, eσ, eh, hl⟩ => ⟨xs, r, c4, c5, by rw [eσ, eh], hl⟩)
      ⟨[], x, none, none, rfl, rfl, rfl⟩
    refine ⟨.rt (.ref 0) [.lst (xs.map D.int)], ?_, xs, _, rfl, rfl, hl⟩
    exact (seq_nx hA).trans ((seq_nx hB).trans ((seq_nx ((sFor_eq hC).trans eo)).trans (ret_eq rfl)))
  obtain ⟨o, eo, xs, h, rfl, rfl, hl⟩ := key
  exact ⟨xs, hl, runP_rt rfl eo (fz_lst rfl (nrA_map (fun _ => rfl) xs))⟩
end K43
namespace K43
open TB PySem
open L2 (atI ixN)
theorem args2_eq {fa fb : EF} {op : Hs → List D → Option D} {σ : Fr} {h h1 h2 : Hs} {a b c : D} (ea : fa σ h = some (a, h1)) (eb : fb σ h1 = some (b, h2)) (eo : op h2 [a, b] = some c) : eArgs (aCons fa (aCons fb aNil)) op σ h = some (c, h2) := by
  unfold eArgs aCons aNil
  rw [ea]
  simp only
  rw [eb]
  simp only
  rw [eo]
theorem addD_lst {h : Hs} {xs ys : List Int} (hz : xs.length + ys.length ≤ 100000) : addD h (.lst (xs.map D.int)) (.lst (ys.map D.int)) = some (.lst ((xs ++ ys).map D.int)) := by
  unfold addD addI addT addL
  simp only [viewT, viewL, List.length_map]
  rw [if_pos (le_szL (by omega)), List.map_append]
theorem acons1 {fa : EF} {σ : Fr} {h h1 : Hs} {a : D} (ea : fa σ h = some (a, h1)) : aCons fa aNil σ h = some ([a], h1) := by
  unfold aCons aNil
  rw [ea]
theorem pool_eq {ns : List Int} (hns : ns.length ≤ 63) : ∃ xs : List Int, 0 < xs.length ∧ xs.length ≤ 200 ∧ f_p_law_pool [] [.scr (ns.map D.int)] = some (.ref 1, HpP 0 xs []) := by
  have key : ∃ o, b_p_law_pool [some (.scr (ns.map D.int)), none, none] [] = some o ∧ ∃ xs : List Int, 0 < xs.length ∧ xs.length ≤ 200 ∧ o = .rt (.ref 1) (HpP 0 xs []) := by
    obtain ⟨n, hn0, hn6, hC⟩ : ∃ n : Nat, 0 < n ∧ n ≤ 6 ∧ iR1 (aCons (eArgs (aCons (eC (.int 6)) (aCons (eArgs (aCons (eC (.int 1)) (aCons (eArgs (aCons (eVar 0) aNil) lenS) aNil)) maxS) aNil)) minS) aNil) [some (.scr (ns.map D.int)), some (.lst []), none] [] = some (srcR 0 n, n + 1, []) := by
      have el : lenS [] [.scr (ns.map D.int)] = some (.int (ns.length : Nat)) := by simp only [lenS, viewQ, List.length_map]
      refine ⟨min 6 (max 1 ns.length), by omega, by omega, iR1_eq ?_ (by omega)⟩
      have e1 : maxS [] [.int 1, .int (ns.length : Nat)] = some (.int (max 1 ns.length : Nat)) := by
        unfold maxS
        simp only [Option.some.injEq, D.int.injEq]
        split <;> omega
      have e2 : minS [] [.int 6, .int (max 1 ns.length : Nat)] = some (.int (min 6 (max 1 ns.length) : Nat)) := by
        unfold minS
        simp only [Option.some.injEq, D.int.injEq]
        split <;> omega
      have e3 := args2_eq (fa := eC (.int 6)) (σ := [some (.scr (ns.map D.int)), some (.lst []), none]) (h := []) rfl (args2_eq (fa := eC (.int 1)) rfl (args1_eq (var_eq (i := 0) rfl) el) e1) e2
      exact acons1 e3
    have hA : sAsg (eArgs aNil mkLst) (gN 1) [some (.scr (ns.map D.int)), none, none] [] = some (.nx [some (.scr (ns.map D.int)), some (.lst []), none] []) := rfl
    obtain ⟨o, eo, xs, c2, rfl, hl⟩ := forR_inv (n := n) (gt := gN 2) (fb := (sSeq (sAsg (bin2 (eVar 1) (eArgs (aCons (bin2 (eArgs (aCons (eVar 0) (aCons (eVar 2) aNil)) (callP f_p_law_cell)) (bin2 (eC (.int 11)) (eVar 2) mulD) addD) (aCons (eC (.int 24)) aNil)) (callP f_p_law_numbers)) addD) (gN 1)) sNil)) (σ := [some (.scr (ns.map D.int)), some (.lst []), none]) (h := [])
      (Q := fun o => ∃ (xs : List Int) (c2 : Option D), o = .nx [some (.scr (ns.map D.int)), some (.lst (xs.map D.int)), c2] [] ∧ xs.length = n * 24)
      (fun i σ h => ∃ (xs : List Int) (c2 : Option D), σ = [some (.scr (ns.map D.int)), some (.lst (xs.map D.int)), c2] ∧ h = [] ∧ xs.length = i * 24)
      (fun i σ h hi ⟨xs, c2, eσ, eh, hl⟩ => by
        subst eσ eh
        obtain ⟨x, ex⟩ := cell_eq (ns := ns) i
        obtain ⟨ys, yl, ey⟩ := numbers_eq (x + 11 * (i : Nat)) (n := 24) (by omega)
        have c1 : callP f_p_law_cell [] [.scr (ns.map D.int), .int (i : Nat)] = some (.int x) := by simp only [callP, nrA, D.nr, ex]; rw [nrA_map (fun _ => rfl)]; rfl
        have c3 : callP f_p_law_numbers [] [.int (x + 11 * (i : Nat)), .int (24 : Nat)] = some (.lst (ys.map D.int)) := by simp only [callP, nrA, D.nr, ey]; rfl
        refine ⟨[some (.scr (ns.map D.int)), some (.lst (xs.map D.int)), some (.int (i : Nat))], [], rfl, _, seq_nil (asg_N (i := 1) (bin2_eq (var_eq rfl) (args2_eq (bin2_eq (args2_eq (var_eq rfl) (var_eq rfl) c1) (bin2_eq rfl (var_eq rfl) (mulD_j (by rw [p64v]; omega))) addD_i) rfl c3) (addD_lst (by omega)))), xs ++ ys, _, rfl, rfl, by rw [List.length_append]; omega⟩)
      (fun σ h ⟨xs, c2, eσ, eh, hl⟩ => ⟨xs, c2, by rw [eσ, eh], hl⟩)
      ⟨[], none, rfl, rfl, by simp⟩
    refine ⟨.rt (.ref 1) (HpP 0 xs []), ?_, xs, by omega, by omega, rfl⟩
    exact (seq_nx hA).trans ((seq_nx ((sFor_eq hC).trans eo)).trans (ret_eq rfl))
  obtain ⟨o, eo, xs, h1, h2, rfl⟩ := key
  refine ⟨xs, h1, h2, ?_⟩
  unfold f_p_law_pool runK
  have e : b_p_law_pool (start0 3 [.scr (ns.map D.int)]) [] = some (.rt (.ref 1) (HpP 0 xs [])) := eo
  rw [e]
  rfl
end K43
namespace K43
open TB PySem
open L2 (atI ixN)
/-- what may stand behind the pool -/
def Clean (t : Hs) : Prop := ∀ n, t.all (Ob.rl n) = true
theorem ints_rl (n : Nat) : ∀ xs : List Int, rlA n (xs.map D.int) = true
  | [] => rfl
  | x :: xs => by simp only [List.map_cons, rlA, D.rl, ints_rl n xs, Bool.and_self]
theorem HpP_rl {a : Nat} {xs : List Int} {t : Hs} (ht : Clean t) : (HpP a xs t).all (Ob.rl (HpP a xs t).length) = true := by
  have h0 : 0 < (HpP a xs t).length := by simp [HpP]
  generalize (HpP a xs t).length = n at h0
  simp only [HpP, List.all_cons, ht n, Bool.and_true, Ob.rl, rlA, D.rl, ints_rl, decide_eq_true h0, Bool.and_self]
theorem ixh {h : Hs} {n i : Nat} {xs : List D} {x : D} (e0 : h[n]? = some (.lst xs)) (hx : xs[i]? = some x) : ixD h (.ref n) (.int (i : Nat)) = some x := by
  have := ix_list (e := fun d : D => d) (h := h) (n := n) (i := i) (xs := xs) (x := x) (by rw [e0, List.map_id']) hx
  exact this
theorem draw_eq {a many : Nat} {xs : List Int} {t : Hs} (hx : 0 < xs.length) (hx2 : xs.length ≤ 200) (ha : a ≤ 1000000) (hm : 0 < many) (hm2 : many ≤ 100) (ht : Clean t) :
    ∃ v : Nat, v < many ∧ f_p_law_draw (HpP a xs t) [.ref 1, .int (many : Nat)] = some (.int (v : Nat), HpP (a + 1) xs t) := by
  have hmod : a % xs.length < xs.length := Nat.mod_lt _ hx
  have g1 : ∀ (b : Nat) (c d : Option D), bin2 (eVar 0) (eC (.int 1)) ixD [some (.ref 1), some (.int (many : Nat)), c, d] (HpP b xs t) = some (.ref 0, HpP b xs t) := fun b c d => bin2_eq (var_eq rfl) rfl (ixh (i := 1) rfl rfl)
  have g0 : ∀ (b : Nat) (c d : Option D), bin2 (eVar 0) (eC (.int 0)) ixD [some (.ref 1), some (.int (many : Nat)), c, d] (HpP b xs t) = some (.lst (xs.map D.int), HpP b xs t) := fun b c d => bin2_eq (var_eq rfl) rfl (ixh (i := 0) rfl rfl)
  have gl : ∀ (b : Nat) (c d : Option D), eArgs (aCons (bin2 (eVar 0) (eC (.int 0)) ixD) aNil) lenS [some (.ref 1), some (.int (many : Nat)), c, d] (HpP b xs t) = some (.int (xs.length : Nat), HpP b xs t) := fun b c d => args1_eq (g0 b c d) (by simp only [lenS, viewQ, viewL, List.length_map])
  have s1 : sAsg (bin2 (bin2 (eVar 0) (eC (.int 1)) ixD) (eC (.int 0)) ixD) (gN 2) [some (.ref 1), some (.int (many : Nat)), none, none] (HpP a xs t) = some (.nx [some (.ref 1), some (.int (many : Nat)), some (.int (a : Nat)), none] (HpP a xs t)) := asg_N (i := 2) (bin2_eq (g1 a none none) rfl (ixh (i := 0) rfl rfl))
  have s2 : sAsg (bin2 (eVar 2) (eC (.int 1)) addD) (gSub (bin2 (eVar 0) (eC (.int 1)) ixD) (eC (.int 0))) [some (.ref 1), some (.int (many : Nat)), some (.int (a : Nat)), none] (HpP a xs t) = some (.nx [some (.ref 1), some (.int (many : Nat)), some (.int (a : Nat)), none] (HpP (a + 1) xs t)) := by
    have e1 : bin2 (eVar 2) (eC (.int 1)) addD [some (.ref 1), some (.int (many : Nat)), some (.int (a : Nat)), none] (HpP a xs t) = some (.int ((a + 1 : Nat) : Nat), HpP a xs t) := bin2_eq (var_eq rfl) rfl addD_i
    have e2 : setS (HpP a xs t) (.ref 0) (.int 0) (.int ((a + 1 : Nat) : Nat)) = some (HpP (a + 1) xs t) := by
      simp only [setS, HpP, List.getElem?_cons_zero]
      rfl
    unfold sAsg
    rw [e1]
    simp only [gSub, g1]
    rw [show eC (.int 0) [some (.ref 1), some (.int (many : Nat)), some (.int (a : Nat)), none] (HpP a xs t) = some (.int 0, HpP a xs t) from rfl]
    simp only [e2]
  have s3 : sAsg (bin2 (eVar 2) (eArgs (aCons (bin2 (eVar 0) (eC (.int 0)) ixD) aNil) lenS) divD) (gN 3) [some (.ref 1), some (.int (many : Nat)), some (.int (a : Nat)), none] (HpP (a + 1) xs t) = some (.nx [some (.ref 1), some (.int (many : Nat)), some (.int (a : Nat)), some (.int ((a : Int) / (xs.length : Nat)))] (HpP (a + 1) xs t)) := asg_N (i := 3) (bin2_eq (var_eq rfl) (gl _ _ _) (divD_i (by omega) (by omega)))
  generalize ((a : Int) / (xs.length : Nat)) = q at s3
  have emod : ((a : Nat) : Int) % (xs.length : Nat) = ((a % xs.length : Nat) : Int) := by omega
  have e1 : bin2 (bin2 (eVar 0) (eC (.int 0)) ixD) (bin2 (eVar 2) (eArgs (aCons (bin2 (eVar 0) (eC (.int 0)) ixD) aNil) lenS) modD) ixD [some (.ref 1), some (.int (many : Nat)), some (.int (a : Nat)), some (.int q)] (HpP (a + 1) xs t) = some (.int xs[a % xs.length], HpP (a + 1) xs t) := by
    refine bin2_eq (g0 _ _ _) (bin2_eq (var_eq rfl) (gl _ _ _) (modD_i (by omega))) ?_
    rw [emod]
    have z := atI_map (f := D.int) xs (a % xs.length)
    rw [List.getElem?_eq_getElem hmod] at z
    simp only [ixD, orOp, ixS, viewQ, viewL]
    have z' : atI (xs.map D.int) ((a % xs.length : Nat) : Int) = some (.int xs[a % xs.length]) := z
    rw [z']
  obtain ⟨z, e2⟩ : ∃ z : Int, bin2 (eArgs (aCons (bin2 (bin2 (bin2 (bin2 (eVar 0) (eC (.int 0)) ixD) (bin2 (eVar 2) (eArgs (aCons (bin2 (eVar 0) (eC (.int 0)) ixD) aNil) lenS) modD) ixD) (bin2 (eVar 3) (eC (.int 1013)) mulD) addD) (bin2 (bin2 (eVar 3) (eVar 2) mulD) (eC (.int 7)) mulD) addD) aNil) intS) (eVar 1) modD [some (.ref 1), some (.int (many : Nat)), some (.int (a : Nat)), some (.int q)] (HpP (a + 1) xs t) = some (.int (z % (many : Nat)), HpP (a + 1) xs t) :=
    ⟨_, bin2_eq (args1_eq (bin2_eq (bin2_eq e1 (bin2_eq (var_eq rfl) rfl (mulD_i (by rw [p64v]; omega))) addD_i) (bin2_eq (bin2_eq (var_eq rfl) (var_eq rfl) (mulD_i (by rw [p64v]; omega))) rfl (mulD_i (by rw [p64v]; omega))) addD_i) rfl) (var_eq rfl) (modD_i (by omega))⟩
  have b1 := Int.emod_nonneg z (show ((many : Nat) : Int) ≠ 0 by omega)
  have b2 := Int.emod_lt_of_pos z (show (0 : Int) < (many : Nat) by omega)
  refine ⟨(z % (many : Nat)).toNat, by omega, ?_⟩
  have e3 : (((z % (many : Nat)).toNat : Nat) : Int) = z % (many : Nat) := Int.toNat_of_nonneg b1
  have key : b_p_law_draw (start0 4 [.ref 1, .int (many : Nat)]) (HpP a xs t) = some (.rt (.int ((z % (many : Nat)).toNat : Nat)) (HpP (a + 1) xs t)) := by
    rw [e3]
    exact (seq_nx s1).trans ((seq_nx s2).trans ((seq_nx s3).trans (ret_eq e2)))
  unfold f_p_law_draw runG
  rw [key]
  have hlen : (HpP a xs t).length = (HpP (a + 1) xs t).length := rfl
  simp only [List.length_cons, List.length_nil, if_true, fzN, D.nr, hlen, List.take_length, HpP_rl ht]
end K43
local macro_rules | `(tactic| array_get_dec) => `(tactic| repeat (first | (with_reducible first | refine TB.ws_seq ?_ | refine TB.ws_asgN ?_ | refine TB.ws_asg ?_ | refine TB.ws_ret ?_ | refine TB.ws_expr ?_ | refine TB.ws_nil ?_ | refine TB.ws_brk ?_ | refine TB.ws_cnt ?_ | refine TB.ws_retN ?_ | refine TB.we_C ?_ | refine TB.we_bin ?_ | refine TB.we_args ?_ | refine TB.we_argsH ?_ | refine TB.wa_cons ?_ | refine TB.wa_nil ?_ | refine TB.we_and ?_ | refine TB.we_or ?_ | refine TB.we_not ?_ | refine TB.we_if ?_ | refine TB.wg_N ?_ | refine TB.wgs_cons ?_ | refine TB.wgs_nil ?_ | refine TB.wg_sub ?_ | refine TB.we_dic0 ?_ | refine TB.t_nx ?_ | refine TB.t_rt ?_ | refine TB.t_bk ?_ | refine TB.t_ct ?_ | refine TB.l_nx ?_ | refine TB.l_ct ?_ | refine TB.l_bk ?_ | refine TB.l_rt ?_ | refine TB.wg_T rfl ?_) | focus ((with_reducible refine TB.we_var (d := ?_) ?_ ?_); rotate_left; rfl)))
namespace K43
open TB PySem
open L2 (atI ixN)
theorem addD_tup {h : Hs} {xs ys : List D} (hz : xs.length + ys.length ≤ 10000000) : addD h (.tup xs) (.tup ys) = some (.tup (xs ++ ys)) := by
  unfold addD addI addT
  simp only [viewT]
  rw [if_pos (le_szL hz)]
theorem mkTup_eq {h : Hs} {ds : List D} (hz : ds.length ≤ 10000000) : mkTup h ds = some (.tup ds) := by
  unfold mkTup
  rw [if_pos (le_szL hz)]
theorem addR {h : Hs} {r : List (Nat × Nat)} {v w : Nat} (hz : r.length ≤ 10000) : addD h (eR r) (.tup [.tup [.int (v : Nat), .int (w : Nat)]]) = some (eR (r ++ [(v, w)])) := by
  unfold eR
  rw [addD_tup (by simp; omega), List.map_append]
  rfl
theorem addM {h : Hs} {m : Mach} {r : List (Nat × Nat)} (hz : m.length ≤ 10000) : addD h (eM m) (.tup [eR r]) = some (eM (m ++ [r])) := by
  unfold eM
  rw [addD_tup (by simp; omega), List.map_append]
  rfl
theorem addW {h : Hs} {w : List Nat} {v : Nat} (hz : w.length ≤ 10000) : addD h (eW w) (.tup [.int (v : Nat)]) = some (eW (w ++ [v])) := by
  unfold eW
  rw [addD_tup (by simp; omega), List.map_append]
  rfl
/-- the pool's list, and what stands behind it -/
structure Pl (xs : List Int) (t : Hs) : Prop where
  p : 0 < xs.length
  z : xs.length ≤ 200
  c : Clean t
theorem dr {xs : List Int} {t : Hs} (L : Pl xs t) {a many : Nat} (ha : a ≤ 1000000) (hm : 0 < many) (hm2 : many ≤ 100) {R : D → Hs → Prop} (k : ∀ v : Nat, v < many → R (.int (v : Nat)) (HpP (a + 1) xs t)) :
    ∃ c h2, f_p_law_draw (HpP a xs t) [.ref 1, .int (many : Nat)] = some (c, h2) ∧ R c h2 := by
  obtain ⟨v, hv, e⟩ := draw_eq L.p L.z ha hm hm2 L.c
  exact ⟨_, _, e, k v hv⟩
theorem wp_runG {np n : Nat} {f : SF} {a : Nat} {xs : List Int} {t : Hs} {ds : List D} (L : Pl xs t) (hl : ds.length = np) {R : D → Hs → Prop}
    (w : WS f (start0 n ds) (HpP a xs t) fun o => ∃ d b u, o = .rt d (HpP b xs (t ++ u)) ∧ d.nr = true ∧ R d (HpP b xs t)) : ∃ c h2, runG np n f (HpP a xs t) ds = some (c, h2) ∧ R c h2 := by
  obtain ⟨o, e, d, b, u, rfl, nr, r⟩ := w
  refine ⟨d, HpP b xs t, ?_, r⟩
  unfold runG
  rw [if_pos hl, e]
  simp only
  rw [fzN_nr nr]
  simp only
  have e1 : (HpP b xs (t ++ u)).take (HpP a xs t).length = HpP b xs t := by
    show (HpP b xs t ++ u).take (HpP b xs t).length = HpP b xs t
    exact List.take_left
  rw [e1, if_pos]
  exact HpP_rl (a := b) L.c
theorem wp_runP {np n : Nat} {f : SF} {ds : List D} (hl : ds.length = np) {R : D → Prop} (w : WS f (start0 n ds) [] fun o => ∃ d h d', o = .rt d h ∧ fz h d = some d' ∧ R d') : ∃ c, runP np n f ds = some c ∧ R c := by
  obtain ⟨o, e, d, h, d', rfl, z, r⟩ := w
  exact ⟨d', runP_rt hl e z, r⟩
/-- a table of steps -/
structure Tab (k n c : Nat) (m : Mach) : Prop where
  len : m.length = n
  row : ∀ r ∈ m, r.length = k
  goal : ∀ r ∈ m, ∀ p ∈ r, p.2 < n
  ans : ∀ r ∈ m, ∀ p ∈ r, p.1 < c
theorem Tab.ok {k n c : Nat} {m : Mach} (T : Tab k n c m) (hk : 0 < k) (hk3 : k ≤ 3) (hn : 0 < n) (hn6 : n ≤ 6) (hc : c ≤ 3) : OK k m :=
  ⟨hk, hk3, fun e => by have := T.len; rw [e] at this; simp at this; omega, by have := T.len; omega, T.row, fun r hr p hp => by rw [T.len]; exact T.goal r hr p hp, fun r hr p hp => Nat.lt_of_lt_of_le (T.ans r hr p hp) hc⟩
theorem tb {xs : List Int} {t : Hs} (L : Pl xs t) {a k n c : Nat} (ha : a ≤ 100000) (hk : k ≤ 3) (hn : 0 < n) (hn2 : n ≤ 6) (hc : 0 < c) (hc2 : c ≤ 3) {R : D → Hs → Prop} (q : ∀ m a', Tab k n c m → a' ≤ a + 36 → R (eM m) (HpP a' xs t)) :
    ∃ c' h2, f_p_law_table (HpP a xs t) [.ref 1, eI k, eI n, eI c] = some (c', h2) ∧ R c' h2 := by
  refine wp_runG L rfl ?_
  unfold b_p_law_table
  array_get_dec
  refine ⟨_, rfl, ?_⟩
  array_get_dec
  refine ws_forR (fun i σ h => ∃ m a' d5 d6 d7, σ = [some (.ref 1), some (eI k), some (eI n), some (eI c), some (eM m), d5, d6, d7] ∧ h = HpP a' xs t ∧ m.length = i ∧ (∀ r ∈ m, r.length = k) ∧ (∀ r ∈ m, ∀ p ∈ r, p.2 < n ∧ p.1 < c) ∧ a' ≤ a + i * 6) n ?_ ?_ ?_
  · refine wi_R1 ?_
    array_get_dec
    exact ⟨n, rfl, by omega, rfl, by omega, [], a, _, _, _, rfl, rfl, rfl, by simp, by simp, by omega⟩
  · rintro i σ h hi ⟨m, a', d5, d6, d7, rfl, rfl, hl, hr, hp, hb⟩
    array_get_dec
    refine ⟨_, rfl, ?_⟩
    array_get_dec
    refine ws_forR (fun j σ h => ∃ r a2 d7, σ = [some (.ref 1), some (eI k), some (eI n), some (eI c), some (eM m), some (eI i), some (eR r), d7] ∧ h = HpP a2 xs t ∧ r.length = j ∧ (∀ p ∈ r, p.2 < n ∧ p.1 < c) ∧ a2 ≤ a' + j * 2) k ?_ ?_ ?_
    · refine wi_R1 ?_
      array_get_dec
      exact ⟨k, rfl, by omega, rfl, by omega, [], a', _, rfl, rfl, rfl, by simp, by omega⟩
    · rintro j σ h hj ⟨r, a2, d7, rfl, rfl, hl2, hp2, hb2⟩
      array_get_dec
      refine dr L (many := c) (by omega) hc (by omega) fun v hv => ?_
      array_get_dec
      refine dr L (many := n) (by omega) hn (by omega) fun w hw => ?_
      array_get_dec
      refine ⟨_, mkTup_eq (by simp), ?_⟩
      array_get_dec
      refine ⟨_, mkTup_eq (by simp), ?_⟩
      refine ⟨_, addR (by omega), ?_⟩
      array_get_dec
      refine ⟨r ++ [(v, w)], a2 + 2, _, rfl, rfl, by simp [hl2], ?_, by omega⟩
      · intro p hp
        rcases List.mem_append.mp hp with h | h
        · exact hp2 p h
        · rw [List.mem_singleton.mp h]; exact ⟨hw, hv⟩
    · rintro σ h ⟨r, a2, d7, rfl, rfl, hl2, hp2, hb2⟩
      array_get_dec
      refine ⟨_, mkTup_eq (by simp), ?_⟩
      refine ⟨_, addM (by omega), ?_⟩
      array_get_dec
      refine ⟨m ++ [r], a2, _, _, _, rfl, rfl, by simp [hl], ?_, ?_, by omega⟩
      · intro x hx
        rcases List.mem_append.mp hx with h | h
        · exact hr x h
        · rw [List.mem_singleton.mp h]; exact hl2
      · intro x hx
        rcases List.mem_append.mp hx with h | h
        · exact hp x h
        · rw [List.mem_singleton.mp h]; exact hp2
  · rintro σ h ⟨m, a', d5, d6, d7, rfl, rfl, hl, hr, hp, hb⟩
    array_get_dec
    refine ⟨_, a', [], by rw [List.append_nil], nr_M m, q m a' ⟨hl, hr, fun r h p hq => (hp r h p hq).1, fun r h p hq => (hp r h p hq).2⟩ (by omega)⟩
end K43
namespace K43
open TB PySem
open L2 (atI ixN)
theorem Word.snoc {k l : Nat} {w : List Nat} (h : Word k w) (hl : l < k) : Word k (w ++ [l]) := fun x hx => by
  rcases List.mem_append.mp hx with h' | h'
  · exact h x h'
  · rw [List.mem_singleton.mp h']; exact hl
theorem wd {xs : List Int} {t : Hs} (L : Pl xs t) {a k most : Nat} (ha : a ≤ 100000) (hk : 0 < k) (hk3 : k ≤ 3) (hm : most ≤ 60) {R : D → Hs → Prop} (q : ∀ w a', Word k w → w.length ≤ most → a' ≤ a + 61 → R (eW w) (HpP a' xs t)) :
    ∃ c' h2, f_p_law_word (HpP a xs t) [.ref 1, eI k, eI most] = some (c', h2) ∧ R c' h2 := by
  refine wp_runG L rfl ?_
  unfold b_p_law_word
  array_get_dec
  refine ⟨_, rfl, ?_⟩
  array_get_dec
  refine ws_forRx (wi_R1 ?_)
  array_get_dec
  refine ⟨_, rfl, ?_⟩
  array_get_dec
  refine dr L (many := most + 1) (by omega) (by omega) (by omega) fun n hn => ?_
  array_get_dec
  refine ⟨n, rfl, by omega, n, fun i σ h => ∃ w a' d4, σ = [some (.ref 1), some (eI k), some (eI most), some (eW w), d4] ∧ h = HpP a' xs t ∧ w.length = i ∧ Word k w ∧ a' ≤ a + 1 + i, rfl, by omega, ?_, ?_, ?_⟩
  · exact ⟨[], a + 1, _, rfl, rfl, rfl, fun x hx => by simp at hx, by omega⟩
  · rintro i σ h hin ⟨w, a', d4, rfl, rfl, hl, hw, hb⟩
    array_get_dec
    refine dr L (many := k) (by omega) hk (by omega) fun v hv => ?_
    array_get_dec
    refine ⟨_, mkTup_eq (by simp), ?_⟩
    refine ⟨_, addW (by omega), ?_⟩
    array_get_dec
    exact ⟨w ++ [v], a' + 1, _, rfl, rfl, by simp [hl], hw.snoc hv, by omega⟩
  · rintro σ h ⟨w, a', d4, rfl, rfl, hl, hw, hb⟩
    array_get_dec
    exact ⟨_, a', [], by rw [List.append_nil], nr_W w, q w a' hw (by omega) (by omega)⟩
/-- what stands behind the pool -/
theorem HpP_new {a b : Nat} {xs : List Int} {t : Hs} {o : Ob} : (HpP a xs (t ++ [o]))[(HpP b xs t).length]? = some o := by
  show (HpP a xs t ++ [o])[(HpP a xs t).length]? = some o
  rw [List.getElem?_append_right (Nat.le_refl _), Nat.sub_self]
  rfl
theorem HpP_set {a b : Nat} {xs : List Int} {t : Hs} {o u : Ob} : (HpP a xs (t ++ [o])).set (HpP b xs t).length u = HpP a xs (t ++ [u]) := by
  show (HpP a xs t ++ [o]).set (HpP a xs t).length u = HpP a xs t ++ [u]
  rw [List.set_append_right _ _ (Nat.le_refl _), Nat.sub_self]
  rfl
theorem rl_nr {n : Nat} : (∀ {d : D}, d.nr = true → d.rl n = true) ∧ ∀ {l : List D}, nrA l = true → rlA n l = true := by
  suffices h : ∀ d : D, (d.nr = true → d.rl n = true) from ⟨fun {d} => h d, fun {l} => by
    induction l with
    | nil => intro _; rfl
    | cons x l ih =>
      intro e
      simp only [nrA, Bool.and_eq_true] at e
      simp only [rlA, h x e.1, ih e.2, Bool.and_self]⟩
  intro d
  refine D.rec (motive_1 := fun d => d.nr = true → d.rl n = true) (motive_2 := fun l => nrA l = true → rlA n l = true) ?_ ?_ ?_ ?_ ?_ ?_ ?_ ?_ ?_ ?_ ?_ d
  · intro _; rfl
  · intro _ _; rfl
  · intro _ _; rfl
  · intro _ _; rfl
  · intro l ih e; simp only [D.nr] at e; simp only [D.rl]; exact ih e
  · intro l ih e; simp only [D.nr] at e; simp only [D.rl]; exact ih e
  · intro ks vs i1 i2 e; simp only [D.nr, Bool.and_eq_true] at e; simp only [D.rl, i1 e.1, i2 e.2, Bool.and_self]
  · intro k e; simp [D.nr] at e
  · intro l ih e; simp only [D.nr] at e; simp only [D.rl]; exact ih e
  · intro _; rfl
  · intro x l i1 i2 e
    simp only [nrA, Bool.and_eq_true] at e
    simp only [rlA, i1 e.1, i2 e.2, Bool.and_self]
theorem Pl.lst {xs : List Int} {t : Hs} (L : Pl xs t) {l : List D} (n : nrA l = true) : Pl xs (t ++ [.lst l]) :=
  ⟨L.p, L.z, fun k => by rw [List.all_append, L.c k]; simp only [List.all_cons, List.all_nil, Ob.rl, rl_nr.2 n, Bool.and_self]⟩
theorem notin_own {α : Type} [DecidableEq α] {e : α → D} (he : ∀ x y, (e x).eqv (e y) = decide (x = y)) (hf : ∀ x, (e x).fit 59 = true) {h : Hs} {n : Nat} {l : List α} (e0 : h[n]? = some (.lst (l.map e))) (q : α) (hq : (e q).fit 60 = true) : notInD h (e q) (.ref n) = some (.bl (!decide (q ∈ l))) := by
  have z : inQ h (e q) (.ref n) = some (.bl (decide (q ∈ l))) := by
    unfold inQ
    simp only [viewL, e0, hq, fitA_map hf l, Bool.and_self, if_true]
    rw [any_map (e := e) he q l]
  unfold notInD orOp notQ
  rw [z]
theorem sort_own {α : Type} {e : α → D} {h : Hs} {n : Nat} {l : List α} (e0 : h[n]? = some (.lst (l.map e))) (h1 : ∀ x, plN lvN (e x) = true) (h2 : ∀ x y, cokN lvN (e x) (e y) = true) : sortS h [.ref n] = some (.lst ((sortF e l).map e)) := by
  simp only [sortS, viewL, e0, okSort_map h1 h2, if_true, sortF_map]
theorem sort_lst {α : Type} {e : α → D} {h : Hs} {l : List α} (h1 : ∀ x, plN lvN (e x) = true) (h2 : ∀ x y, cokN lvN (e x) (e y) = true) : sortS h [.lst (l.map e)] = some (.lst ((sortF e l).map e)) := by
  simp only [sortS, viewL, okSort_map h1 h2, if_true, sortF_map]
theorem st {xs : List Int} {t : Hs} (L : Pl xs t) {a k many most : Nat} (ha : a ≤ 10000) (hk : 0 < k) (hk3 : k ≤ 3) (hm : most ≤ 60) (hmy : many ≤ 60) {R : D → Hs → Prop} (q : ∀ ws a', ws.Nodup → ws.length ≤ many → (∀ w ∈ ws, Word k w ∧ w.length ≤ most) → a' ≤ a + 4000 → R (eP (sortF eW ws)) (HpP a' xs t)) :
    ∃ c' h2, f_p_law_suite (HpP a xs t) [.ref 1, eI k, eI many, eI most] = some (c', h2) ∧ R c' h2 := by
  refine wp_runG L rfl ?_
  unfold b_p_law_suite
  array_get_dec
  refine we_own (wa_nil ⟨Nat.zero_le _, ?_⟩)
  array_get_dec
  show WS _ [some (.ref 1), some (eI k), some (eI many), some (eI most), some (.ref (HpP a xs t).length), none, none] (HpP a xs (t ++ [.lst ([].map eW)])) _
  have L0 := L.lst (l := [].map eW) rfl
  array_get_dec
  refine ws_forRx (wi_R1 ?_)
  array_get_dec
  refine ⟨_, rfl, ?_⟩
  array_get_dec
  refine dr L0 (many := many + 1) (by omega) (by omega) (by omega) fun n hn => ?_
  array_get_dec
  refine ⟨n, rfl, by omega, n, fun i σ h => ∃ (ws : List (List Nat)) (a' : Nat) (d5 d6 : Option D), σ = [some (.ref 1), some (eI k), some (eI many), some (eI most), some (.ref (HpP a xs t).length), d5, d6] ∧ h = HpP a' xs (t ++ [.lst (ws.map eW)]) ∧ ws.length ≤ i ∧ ws.Nodup ∧ (∀ w ∈ ws, Word k w ∧ w.length ≤ most) ∧ a' ≤ a + 1 + i * 61, rfl, by omega, ?_, ?_, ?_⟩
  · exact ⟨[], a + 1, _, _, rfl, rfl, by simp, by simp, by simp, by omega⟩
  · rintro i σ h hin ⟨ws, a', d5, d6, rfl, rfl, hl, hnd, hw, hb⟩
    have L' := L.lst (l := ws.map eW) (nrA_W ws)
    array_get_dec
    refine wd L' (k := k) (most := most) (by omega) hk hk3 hm fun w a2 h1 h2 h3 => ?_
    array_get_dec
    refine ws_if ?_
    array_get_dec
    refine ⟨_, notin_own (l := ws) eqv_W (fun w => fit_W w 58) HpP_new w (fit_W w 59), ?_⟩
    refine ifn (fun hn => ?_) (fun hn => ?_)
    · array_get_dec
      refine we_meth ?_
      array_get_dec
      refine ⟨by simp only [viewL, HpP_new]; rfl, ?_⟩
      array_get_dec
      refine ⟨.non, HpP a2 xs (t ++ [.lst ((ws ++ [w]).map eW)]), ?_, ?_⟩
      · simp only [appM, HpP_new, List.length_map]
        rw [if_pos (lt_szL (by omega)), HpP_set]
        simp
      · array_get_dec
        refine ⟨ws ++ [w], a2, _, _, rfl, rfl, by simp; omega, ?_, ?_, by omega⟩
        · exact List.nodup_append.mpr ⟨hnd, by simp, fun x hx y hy => by rw [List.mem_singleton.mp hy]; exact fun z => hn (z ▸ hx)⟩
        · intro x hx
          rcases List.mem_append.mp hx with h | h
          · exact hw x h
          · rw [List.mem_singleton.mp h]; exact ⟨h1, h2⟩
    · array_get_dec
      exact ⟨ws, a2, _, _, rfl, rfl, by omega, hnd, hw, by omega⟩
  · rintro σ h ⟨ws, a', d5, d6, rfl, rfl, hl, hnd, hw, hb⟩
    array_get_dec
    refine ⟨_, sort_own (e := eW) HpP_new pl_W cok_W, ?_⟩
    array_get_dec
    refine ⟨eP (sortF eW ws), rfl, ?_⟩
    array_get_dec
    exact ⟨_, a', [.lst (ws.map eW)], rfl, nr_P _, q ws a' hnd (by omega) hw (by omega)⟩
end K43
namespace K43
open TB PySem
open L2 (atI ixN)
theorem maxN {h : Hs} {i j : Nat} : maxS h [.int (i : Nat), .int (j : Nat)] = some (.int (max i j : Nat)) := by
  unfold maxS
  simp only [Option.some.injEq, D.int.injEq]
  split <;> omega
theorem minN {h : Hs} {i j : Nat} : minS h [.int (i : Nat), .int (j : Nat)] = some (.int (min i j : Nat)) := by
  unfold minS
  simp only [Option.some.injEq, D.int.injEq]
  split <;> omega
theorem divN {h : Hs} {i j : Nat} (hj : 0 < j) (hk : j < 1000000000) : divD h (.int (i : Nat)) (.int (j : Nat)) = some (.int (i / j : Nat)) := by
  rw [divD_i (by omega) (by omega)]
  rfl
theorem modN {h : Hs} {i j : Nat} (hj : 0 < j) : modD h (.int (i : Nat)) (.int (j : Nat)) = some (.int (i % j : Nat)) := by
  rw [modD_i (by omega)]
  rfl
theorem ltN {h : Hs} {i j : Nat} : ltI h (.int (i : Nat)) (.int (j : Nat)) = some (.bl (decide (i < j))) := by
  rw [ltI_i]
  by_cases e : i < j
  · rw [decide_eq_true e, decide_eq_true (by omega)]
  · rw [decide_eq_false e, decide_eq_false (by omega)]
theorem gtN {h : Hs} {i j : Nat} : gtI h (.int (i : Nat)) (.int (j : Nat)) = some (.bl (decide (j < i))) := by
  rw [gtI_i]
  by_cases e : j < i
  · rw [decide_eq_true e, decide_eq_true (by omega)]
  · rw [decide_eq_false e, decide_eq_false (by omega)]
/-- each thing once -/
def onceF (l : List (List Nat)) : List (List Nat) := ((List.range l.length).filter fun i => !decide (l[i]?.getD [] ∈ l.take i)).map fun i => l[i]?.getD []
theorem onceF_mem {l : List (List Nat)} {x : List Nat} : x ∈ onceF l ↔ x ∈ l := by
  constructor
  · intro h
    obtain ⟨i, hi, rfl⟩ := List.mem_map.mp h
    have := List.mem_range.mp (List.mem_filter.mp hi).1
    rw [List.getElem?_eq_getElem this]
    exact List.getElem_mem this
  · intro h
    have key : ∀ (n : Nat), n < l.length → l[n]? = some x → x ∈ onceF l := by
      intro n
      induction n using Nat.strongRecOn with
      | ind n ih =>
        intro hn e
        by_cases hx : x ∈ l.take n
        · obtain ⟨j, hj, ej⟩ := List.getElem_of_mem hx
          have hj' : j < n := by rw [List.length_take] at hj; omega
          refine ih j hj' (by omega) ?_
          rw [← ej, List.getElem_take, List.getElem?_eq_getElem]
        · refine List.mem_map.mpr ⟨n, List.mem_filter.mpr ⟨List.mem_range.mpr hn, ?_⟩, by rw [e]; rfl⟩
          rw [e]
          simp [hx]
    obtain ⟨n, hn, e⟩ := List.getElem_of_mem h
    exact key n hn (by rw [List.getElem?_eq_getElem hn, e])
theorem onceF_nodup {l : List (List Nat)} : (onceF l).Nodup := by
  unfold onceF
  refine List.pairwise_map.mpr ?_
  have h := List.Pairwise.filter (fun i => !decide (l[i]?.getD [] ∈ l.take i)) (List.pairwise_lt_range (n := l.length))
  refine List.Pairwise.imp_of_mem (fun {i j} hi hj hij e => ?_) h
  have hi' := List.mem_range.mp (List.mem_filter.mp hi).1
  have hj' := (List.mem_filter.mp hj).2
  simp only [Bool.not_eq_true', decide_eq_false_iff_not] at hj'
  refine hj' ?_
  rw [← e, List.getElem?_eq_getElem hi']
  exact List.mem_take_iff_getElem.mpr ⟨i, by omega, rfl⟩
theorem ix_LW {l : List (List Nat)} {i : Nat} (hi : i < l.length) {h : Hs} : ixD h (.lst (l.map eW)) (.int (i : Nat)) = some (eW (l[i]?.getD [])) := by
  have z := atI_map (f := eW) l i
  rw [List.getElem?_eq_getElem hi] at z
  simp only [ixD, orOp, ixS, viewQ, viewL]
  rw [show atI (l.map eW) ((i : Nat) : Int) = some (eW l[i]) from z, List.getElem?_eq_getElem hi]
  rfl
theorem notin_lst {α : Type} [DecidableEq α] {e : α → D} (he : ∀ x y, (e x).eqv (e y) = decide (x = y)) (hf : ∀ x, (e x).fit 59 = true) {h : Hs} {l : List α} (q : α) (hq : (e q).fit 60 = true) : notInD h (e q) (.lst (l.map e)) = some (.bl (!decide (q ∈ l))) := by
  have z : inQ h (e q) (.lst (l.map e)) = some (.bl (decide (q ∈ l))) := by
    unfold inQ
    simp only [viewL, hq, fitA_map hf l, Bool.and_self, if_true]
    rw [any_map (e := e) he q l]
  unfold notInD orOp notQ
  rw [z]
theorem notin_tup {α : Type} [DecidableEq α] {e : α → D} (he : ∀ x y, (e x).eqv (e y) = decide (x = y)) (hf : ∀ x, (e x).fit 59 = true) {h : Hs} {l : List α} (q : α) (hq : (e q).fit 60 = true) : notInD h (e q) (.tup (l.map e)) = some (.bl (!decide (q ∈ l))) := by
  have z : inQ h (e q) (.tup (l.map e)) = some (.bl (decide (q ∈ l))) := by
    unfold inQ
    simp only [viewL, hq, fitA_map hf l, Bool.and_self, if_true]
    rw [any_map (e := e) he q l]
  unfold notInD orOp notQ
  rw [z]
theorem once_eq {l : List (List Nat)} (hl : l.length ≤ 1000) : f_p_law_once [.lst (l.map eW)] = some (.lst ((onceF l).map eW)) := by
  have : ∃ c, f_p_law_once [.lst (l.map eW)] = some c ∧ c = .lst ((onceF l).map eW) := by
    refine wp_runP rfl ?_
    unfold b_p_law_once
    array_get_dec
    refine we_lc (fun i : Nat => D.int (i : Nat)) (List.range l.length) (fun i => !decide (l[i]?.getD [] ∈ l.take i)) (fun i => eW (l[i]?.getD [])) (wi_R1 ?_)
    array_get_dec
    refine ⟨.int (l.length : Nat), by simp only [lenS, viewQ, viewL, List.length_map], ?_⟩
    array_get_dec
    refine ⟨l.length, rfl, by omega, srcR_at _, by simp, ?_, fun i hi => ?_⟩
    · refine ⟨_, _, _, rfl, fz_nr ?_, ?_⟩
      · have e : ∀ ns : List Nat, nrA (ns.map fun i => eW (l[i]?.getD [])) = true := fun ns => nrA_map (fun i => nr_W _) ns
        exact e _
      · unfold onceF
        rw [List.map_map]
        rfl
    · have hi' := List.mem_range.mp hi
      array_get_dec
      refine ⟨rfl, ?_⟩
      array_get_dec
      refine ⟨_, ix_LW hi', we_slL ?_⟩
      array_get_dec
      refine wo_none (wo_some ?_)
      array_get_dec
      refine ⟨_, rfl, _, rfl, rfl, ?_⟩
      rw [cut_take]
      refine ⟨_, notin_lst (e := eW) eqv_W (fun w => fit_W w 58) _ (fit_W _ 59), ?_, rfl, fun _ => ?_⟩
      · congr 3
      array_get_dec
      exact ⟨_, ix_LW hi', rfl, rfl⟩
  obtain ⟨c, e, rfl⟩ := this
  exact e
theorem db {xs : List Int} {t : Hs} (L : Pl xs t) {a k n : Nat} (ha : a ≤ 10000) (hk : k ≤ 3) (hn : 0 < n) (hn2 : n ≤ 6) {R : D → Hs → Prop} (q : ∀ m a', Tab k n 3 m → a' ≤ a + 60 → R (eM m) (HpP a' xs t)) :
    ∃ c' h2, f_p_law_doubled (HpP a xs t) [.ref 1, eI k, eI n] = some (c', h2) ∧ R c' h2 := by
  refine wp_runG L rfl ?_
  unfold b_p_law_doubled
  array_get_dec
  refine ⟨_, divN (j := 2) (by omega) (by omega), ?_⟩
  array_get_dec
  refine ⟨_, maxN (i := 1), ?_⟩
  array_get_dec
  generalize hhalf : max 1 (n / 2) = half
  have hh0 : 0 < half := by omega
  have hhn : half ≤ n := by omega
  refine tb L (k := k) (n := half) (c := 2) (by omega) hk hh0 (by omega) (by omega) (by omega) fun base a1 T h1 => ?_
  array_get_dec
  refine ⟨_, rfl, ?_⟩
  array_get_dec
  refine ws_forR (fun i σ h => ∃ m a' d6 d7 d8 d9 d10, σ = [some (.ref 1), some (eI k), some (eI n), some (eI half), some (eM base), some (eM m), d6, d7, d8, d9, d10] ∧ h = HpP a' xs t ∧ m.length = i ∧ (∀ r ∈ m, r.length = k) ∧ (∀ r ∈ m, ∀ p ∈ r, p.2 < n ∧ p.1 < 3) ∧ a' ≤ a1 + i * 3) n ?_ ?_ ?_
  · refine wi_R1 ?_
    array_get_dec
    exact ⟨n, rfl, by omega, rfl, by omega, [], a1, _, _, _, _, _, rfl, rfl, rfl, by simp, by simp, by omega⟩
  · rintro i σ h hi ⟨m, a', d6, d7, d8, d9, d10, rfl, rfl, hl, hr, hp, hb⟩
    array_get_dec
    refine ⟨_, rfl, ?_⟩
    array_get_dec
    have hm : i % half < base.length := by rw [T.len]; exact Nat.mod_lt _ hh0
    have hrow := T.row _ (List.getElem_mem hm)
    have hgo := T.goal _ (List.getElem_mem hm)
    have han := T.ans _ (List.getElem_mem hm)
    have er := List.getElem?_eq_getElem hm
    generalize base[i % half] = r at hrow hgo han er
    refine ws_forM eS r (fun ys σ h => ∃ u a2 d8 d9 d10, σ = [some (.ref 1), some (eI k), some (eI n), some (eI half), some (eM base), some (eM m), some (eI i), some (eR u), d8, d9, d10] ∧ h = HpP a2 xs t ∧ u.length = ys.length ∧ (∀ p ∈ u, p.2 < n ∧ p.1 < 3) ∧ a2 ≤ a' + ys.length) ?_ ?_ ?_
    · refine wi_tup ?_
      array_get_dec
      refine ⟨_, rfl, ?_⟩
      array_get_dec
      refine ⟨_, modN hh0, ⟨_, ix_M er, _, rfl, rfl, by simp, [], a', _, _, _, rfl, rfl, rfl, by simp, by simp⟩⟩
    · rintro ys p zs σ h el ⟨u, a2, d8, d9, d10, rfl, rfl, hu, hp2, hb2⟩
      have hpr : p ∈ r := by rw [el]; simp
      have hg := hgo p hpr
      have haa := han p hpr
      have hyl : ys.length ≤ k := by rw [← hrow, el]; simp
      refine wg_T rfl ?_
      array_get_dec
      refine ws_join (fun o => ∃ (v a3 : Nat), o = .nx [some (.ref 1), some (eI k), some (eI n), some (eI half), some (eM base), some (eM m), some (eI i), some (eR u), some (eI p.1), some (eI p.2), some (eI v)] (HpP a3 xs t) ∧ v < n ∧ a3 ≤ a2 + 1) (ws_if ?_) ?_
      · array_get_dec
        refine ⟨_, rfl, ?_⟩
        array_get_dec
        refine ⟨_, ltN (i := p.2 + half), ifd (fun hlt => ?_) (fun hlt => ?_)⟩
        · array_get_dec
          refine dr L (many := 2) (by omega) (by omega) (by omega) fun v hv => ?_
          array_get_dec
          refine ⟨_, eq_I _ v 0, ifd (fun h0 => ?_) (fun h0 => ?_)⟩
          · array_get_dec
            refine ⟨_, rfl, ?_⟩
            array_get_dec
            exact ⟨p.2 + half, a2 + 1, rfl, hlt, by omega⟩
          · array_get_dec
            exact ⟨p.2, a2 + 1, rfl, by omega, by omega⟩
        · refine iff0 ?_
          array_get_dec
          exact ⟨p.2, a2, rfl, by omega, by omega⟩
      · rintro _ ⟨v, a3, rfl, hv, h3⟩
        array_get_dec
        refine ⟨_, mkTup_eq (by simp), ?_⟩
        array_get_dec
        refine ⟨_, mkTup_eq (by simp), ?_⟩
        refine ⟨_, addR (by omega), ?_⟩
        array_get_dec
        refine ⟨u ++ [(p.1, v)], a3, _, _, _, rfl, rfl, by simp [hu], ?_, by simp; omega⟩
        intro x hx
        rcases List.mem_append.mp hx with h | h
        · exact hp2 x h
        · rw [List.mem_singleton.mp h]; exact ⟨hv, by omega⟩
    · rintro σ h ⟨u, a2, d8, d9, d10, rfl, rfl, hu, hp2, hb2⟩
      array_get_dec
      refine ⟨_, mkTup_eq (by simp), ?_⟩
      refine ⟨_, addM (by omega), ?_⟩
      array_get_dec
      refine ⟨m ++ [u], a2, _, _, _, _, _, rfl, rfl, by simp [hl], ?_, ?_, by omega⟩
      · intro x hx
        rcases List.mem_append.mp hx with h | h
        · exact hr x h
        · rw [List.mem_singleton.mp h]; omega
      · intro x hx
        rcases List.mem_append.mp hx with h | h
        · exact hp x h
        · rw [List.mem_singleton.mp h]; exact hp2
  · rintro σ h ⟨m, a', d6, d7, d8, d9, d10, rfl, rfl, hl, hr, hp, hb⟩
    array_get_dec
    refine ⟨_, a', [], by rw [List.append_nil], nr_M m, q m a' ⟨hl, hr, fun r h p hq => (hp r h p hq).1, fun r h p hq => (hp r h p hq).2⟩ (by omega)⟩
end K43
namespace K43
open TB PySem
open L2 (atI ixN)
theorem lenM {h : Hs} {m : Mach} : lenS h [eM m] = some (.int (m.length : Nat)) := by simp only [eM, lenS, viewQ, List.length_map]
theorem lenR {h : Hs} {r : List (Nat × Nat)} : lenS h [eR r] = some (.int (r.length : Nat)) := by simp only [eR, lenS, viewQ, List.length_map]
theorem lenW {h : Hs} {w : List Nat} : lenS h [eW w] = some (.int (w.length : Nat)) := by simp only [eW, lenS, viewQ, List.length_map]
theorem ix_S0 {h : Hs} {p : Nat × Nat} : ixD h (eS p) (.int 0) = some (eI p.1) := rfl
theorem ix_S1 {h : Hs} {p : Nat × Nat} : ixD h (eS p) (.int 1) = some (eI p.2) := rfl
theorem set_cut {α : Type} {l : List α} {i : Nat} {x : α} (h : i < l.length) : l.take i ++ [x] ++ l.drop (i + 1) = l.set i x := by
  rw [List.set_eq_take_append_cons_drop, if_pos h]
  simp
theorem ch {xs : List Int} {t : Hs} (L : Pl xs t) {a k n : Nat} {m : Mach} (ok : OK k m) (ha : a ≤ 10000) (hn : n ≤ 10) {R : D → Hs → Prop} (q : ∀ m' a', OK k m' → m'.length = m.length → a' ≤ a + 50 → R (eM m') (HpP a' xs t)) :
    ∃ c' h2, f_p_law_changed (HpP a xs t) [.ref 1, eM m, eI n] = some (c', h2) ∧ R c' h2 := by
  refine wp_runG L rfl ?_
  unfold b_p_law_changed
  array_get_dec
  refine ws_forR (fun i σ h => ∃ m' a' d4 d5 d6 d7 d8, σ = [some (.ref 1), some (eM m), some (eI n), some (eM m'), d4, d5, d6, d7, d8] ∧ h = HpP a' xs t ∧ OK k m' ∧ m'.length = m.length ∧ a' ≤ a + i * 5) n ?_ ?_ ?_
  · refine wi_R1 ?_
    array_get_dec
    exact ⟨n, rfl, by omega, rfl, by omega, m, a, _, _, _, _, _, rfl, rfl, ok, rfl, by omega⟩
  · rintro i σ h hi ⟨m', a', d4, d5, d6, d7, d8, rfl, rfl, ok', hl, hb⟩
    have hm0 : 0 < m'.length := List.length_pos_iff.mpr ok'.ne
    have hm6 := ok'.le
    have e0 : m'[0]? = some m'[0] := List.getElem?_eq_getElem hm0
    have hk0 := ok'.row _ (List.getElem_mem hm0)
    have kp := ok'.pos
    have k3 := ok'.k3
    array_get_dec
    refine ⟨_, lenM, ?_⟩
    array_get_dec
    refine dr L (many := m'.length) (by omega) (by omega) (by omega) fun s hs => ?_
    array_get_dec
    refine ⟨_, ix_M (s := 0) e0, ?_⟩
    array_get_dec
    refine ⟨_, lenR, ?_⟩
    array_get_dec
    rw [hk0]
    refine dr L (many := k) (by omega) (by omega) (by omega) fun l hl2 => ?_
    array_get_dec
    refine dr L (many := 3) (by omega) (by omega) (by omega) fun v hv => ?_
    array_get_dec
    refine ⟨_, lenM, ?_⟩
    array_get_dec
    refine dr L (many := m'.length) (by omega) (by omega) (by omega) fun g hg => ?_
    array_get_dec
    refine ⟨_, mkTup_eq (by simp), ?_⟩
    array_get_dec
    have es : m'[s]? = some m'[s] := List.getElem?_eq_getElem hs
    have hrow := ok'.row _ (List.getElem_mem hs)
    have hl' : l < m'[s].length := by omega
    have el : m'[s][l]? = some m'[s][l] := List.getElem?_eq_getElem hl'
    have hans := ok'.ans _ (List.getElem_mem hs) _ (List.getElem_mem hl')
    refine ws_join (fun o => ∃ (v : Nat), o = .nx [some (.ref 1), some (eM m), some (eI n), some (eM m'), some (eI i), some (eI s), some (eI l), some (eS (v, g)), d8] (HpP (a' + 5) xs t) ∧ v < 3) (ws_if ?_) ?_
    · array_get_dec
      refine dr L (many := 2) (by omega) (by omega) (by omega) fun z hz => ?_
      array_get_dec
      refine ⟨_, eq_I _ z 0, ifd (fun h0 => ?_) (fun h0 => ?_)⟩
      · array_get_dec
        refine ⟨_, ix_M es, ?_⟩
        array_get_dec
        refine ⟨_, ix_R el, ?_⟩
        array_get_dec
        refine ⟨_, ix_S0, ?_⟩
        array_get_dec
        refine ⟨_, ix_S1 (p := (v, g)), ?_⟩
        array_get_dec
        refine ⟨_, mkTup_eq (by simp), ?_⟩
        array_get_dec
        exact ⟨_, rfl, hans⟩
      · array_get_dec
        exact ⟨v, rfl, hv⟩
    · rintro _ ⟨v, rfl, hv⟩
      array_get_dec
      refine we_sl ?_
      array_get_dec
      refine ⟨_, ix_M es, wo_none (wo_some ?_)⟩
      array_get_dec
      refine ⟨_, rfl, _, rfl, ?_⟩
      rw [cut_take]
      array_get_dec
      refine ⟨_, mkTup_eq (by simp), ?_⟩
      refine ⟨eR (m'[s].take l ++ [(v, g)]), addR (by rw [List.length_take]; omega), ?_⟩
      refine we_sl ?_
      array_get_dec
      refine ⟨_, ix_M es, wo_some ?_⟩
      array_get_dec
      refine ⟨_, rfl, _, rfl, wo_none ⟨_, rfl, ?_⟩⟩
      rw [show (↑l + 1 : Int) = ((l + 1 : Nat) : Int) from rfl, cut_drop]
      refine ⟨eR (slipR m'[s] (s, l, v, g)), ?_, ?_⟩
      · unfold eR
        rw [addD_tup (by simp; omega), ← List.map_append]
        rfl
      array_get_dec
      refine we_sl ?_
      array_get_dec
      refine wo_none (wo_some ?_)
      array_get_dec
      refine ⟨_, rfl, _, rfl, ?_⟩
      rw [cut_take]
      array_get_dec
      refine ⟨_, mkTup_eq (by simp), ?_⟩
      refine ⟨eM (m'.take s ++ [slipR m'[s] (s, l, v, g)]), addM (by rw [List.length_take]; omega), ?_⟩
      refine we_sl ?_
      array_get_dec
      refine wo_some ?_
      array_get_dec
      refine ⟨_, rfl, _, rfl, wo_none ⟨_, rfl, ?_⟩⟩
      rw [show (↑s + 1 : Int) = ((s + 1 : Nat) : Int) from rfl, cut_drop]
      refine ⟨eM (slipM m' (s, l, v, g)), ?_, ?_⟩
      · unfold eM
        rw [addD_tup (by simp; omega), ← List.map_append, set_cut hs]
        unfold slipM
        rw [show m'[Slip.s (s, l, v, g)]? = some m'[s] from es]
        rfl
      array_get_dec
      refine ⟨slipM m' (s, l, v, g), a' + 5, _, _, _, _, _, rfl, rfl, slip_ok ok' ⟨hs, hl2, hv, hg⟩, ?_, by omega⟩
      unfold slipM
      rw [List.length_set, hl]
  · rintro σ h ⟨m', a', d4, d5, d6, d7, d8, rfl, rfl, ok', hl, hb⟩
    array_get_dec
    exact ⟨_, a', [], by rw [List.append_nil], nr_M m', q m' a' ok' hl (by omega)⟩
def gridM (n k : Nat) (A G : Nat → Nat → Nat) : Mach := (List.range n).map fun i => (List.range k).map fun j => (A i j, G i j)
theorem gridT {n k c : Nat} {A G : Nat → Nat → Nat} (h : ∀ i j, i < n → j < k → A i j < c ∧ G i j < n) : Tab k n c (gridM n k A G) := by
  unfold gridM
  refine ⟨by simp, fun r hr => ?_, fun r hr p hp => ?_, fun r hr p hp => ?_⟩
  · obtain ⟨i, hi, rfl⟩ := List.mem_map.mp hr
    simp
  · obtain ⟨i, hi, rfl⟩ := List.mem_map.mp hr
    obtain ⟨j, hj, rfl⟩ := List.mem_map.mp hp
    exact (h i j (List.mem_range.mp hi) (List.mem_range.mp hj)).2
  · obtain ⟨i, hi, rfl⟩ := List.mem_map.mp hr
    obtain ⟨j, hj, rfl⟩ := List.mem_map.mp hp
    exact (h i j (List.mem_range.mp hi) (List.mem_range.mp hj)).1
theorem grid {h : Hs} {n k : Nat} {d0 d2 d3 d5 d6 d7 d8 d9 : Option D} {fa fg : EF} {A G : Nat → Nat → Nat} (hn : n ≤ 100) (hk : k ≤ 100)
    (he : ∀ i j, i < n → j < k → WE fa [d0, some (eI k), d2, d3, some (eI n), d5, d6, d7, some (eI j), some (eI i)] h (fun d h' => d = eI (A i j) ∧ h' = h) ∧ WE fg [d0, some (eI k), d2, d3, some (eI n), d5, d6, d7, some (eI j), some (eI i)] h (fun d h' => d = eI (G i j) ∧ h' = h)) {R : D → Hs → Prop} (q : R (eM (gridM n k A G)) h) :
    WE (eArgs (aCons (eLc (iR1 (aCons (eVar 4) aNil)) (gN 9) eT (eArgs (aCons (eLc (iR1 (aCons (eVar 1) aNil)) (gN 8) eT (eArgs (aCons fa (aCons fg aNil)) mkTup) [8]) aNil) tupS) [9]) aNil) tupS) [d0, some (eI k), d2, d3, some (eI n), d5, d6, d7, d8, d9] h R := by
  array_get_dec
  refine we_lc (fun i : Nat => D.int (i : Nat)) (List.range n) (fun _ => true) (fun i => eR ((List.range k).map fun j => (A i j, G i j))) (wi_R1 ?_)
  array_get_dec
  refine ⟨n, rfl, by omega, srcR_at _, by simp, ?_, fun i hi => ?_⟩
  · rw [filter_tt]
    array_get_dec
    refine ⟨_, rfl, ?_⟩
    rw [show D.tup ((List.range n).map fun i => eR ((List.range k).map fun j => (A i j, G i j))) = eM (gridM n k A G) by unfold eM gridM; rw [List.map_map]; rfl]
    exact q
  · have hi' := List.mem_range.mp hi
    array_get_dec
    refine ⟨rfl, ?_⟩
    refine we_of (d := .bl true) (h1 := h) rfl ⟨rfl, rfl, fun _ => ?_⟩
    array_get_dec
    refine we_lc (fun i : Nat => D.int (i : Nat)) (List.range k) (fun _ => true) (fun j => eS (A i j, G i j)) (wi_R1 ?_)
    array_get_dec
    refine ⟨k, rfl, by omega, srcR_at _, by simp, ?_, fun j hj => ?_⟩
    · rw [filter_tt]
      array_get_dec
      refine ⟨_, rfl, ?_, rfl⟩
      unfold eR
      rw [List.map_map]
      rfl
    · have hj' := List.mem_range.mp hj
      array_get_dec
      refine ⟨rfl, ?_⟩
      refine we_of (d := .bl true) (h1 := h) rfl ⟨rfl, rfl, fun _ => ?_⟩
      array_get_dec
      obtain ⟨h1, h2⟩ := he i j hi' hj'
      refine h1.imp fun d h' e => ?_
      obtain ⟨rfl, rfl⟩ := e
      array_get_dec
      refine h2.imp fun d h' e => ?_
      obtain ⟨rfl, rfl⟩ := e
      array_get_dec
      exact ⟨_, mkTup_eq (by simp), rfl, rfl⟩
theorem drawn {xs : List Int} {t : Hs} (L : Pl xs t) {a k n : Nat} {d2 d3 d5 d6 d7 d8 d9 : Option D} (ha : a ≤ 10000) (hk : k ≤ 10) (hn : 0 < n) (hn2 : n ≤ 10) {R : D → Hs → Prop} (q : ∀ (l : List Nat) (a' : Nat), l.length = k → (∀ x ∈ l, x < n) → a' ≤ a + 10 → R (.lst (l.map eI)) (HpP a' xs t)) :
    WE (eLc (iR1 (aCons (eVar 1) aNil)) (gN 8) eT (eArgsH (aCons (eVar 0) (aCons (eVar 4) aNil)) f_p_law_draw) [8]) [some (.ref 1), some (eI k), d2, d3, some (eI n), d5, d6, d7, d8, d9] (HpP a xs t) R := by
  refine we_lcI (fun i : Nat => D.int (i : Nat)) (List.range k) (fun ys out h => ∃ l : List Nat, out = l.map eI ∧ l.length = ys.length ∧ (∀ x ∈ l, x < n) ∧ h = HpP (a + l.length) xs t) (wi_R1 ?_) ?_ ?_
  · array_get_dec
    exact ⟨k, rfl, by omega, srcR_at _, by simp, [], rfl, rfl, by simp, rfl⟩
  · rintro ys x zs out h el ⟨l, rfl, hl, hx, rfl⟩
    have : (List.range k).length = (ys ++ x :: zs).length := by rw [el]
    rw [List.length_range, List.length_append, List.length_cons] at this
    array_get_dec
    refine we_of (d := .bl true) rfl (ift ?_)
    array_get_dec
    refine dr L (many := n) (by omega) (by omega) (by omega) fun v hv => ?_
    refine ⟨l ++ [v], by rw [List.map_append]; rfl, by simp [hl], ?_, by rw [List.length_append]; rfl⟩
    intro z hz
    rcases List.mem_append.mp hz with h | h
    · exact hx z h
    · rw [List.mem_singleton.mp h]; exact hv
  · rintro out h ⟨l, rfl, hl, hx, rfl⟩
    rw [List.length_range] at hl
    exact q l _ hl hx (by omega)
end K43
namespace K43
open TB PySem
open L2 (atI ixN)
theorem Tab.up {k n c : Nat} {m : Mach} (T : Tab k n c m) {c' : Nat} (h : c ≤ c') : Tab k n c' m := ⟨T.len, T.row, T.goal, fun r hr p hp => Nat.lt_of_lt_of_le (T.ans r hr p hp) h⟩
theorem Tab.at {k n c : Nat} {m : Mach} (T : Tab k n c m) {i j : Nat} (hi : i < n) (hj : j < k) : ∃ r p, m[i]? = some r ∧ r[j]? = some p ∧ step m i j = p ∧ p.1 < c ∧ p.2 < n := by
  have h1 : i < m.length := by rw [T.len]; exact hi
  have h2 : j < m[i].length := by rw [T.row _ (List.getElem_mem h1)]; exact hj
  refine ⟨m[i], m[i][j], List.getElem?_eq_getElem h1, List.getElem?_eq_getElem h2, ?_, T.ans _ (List.getElem_mem h1) _ (List.getElem_mem h2), T.goal _ (List.getElem_mem h1) _ (List.getElem_mem h2)⟩
  unfold step
  rw [List.getElem?_eq_getElem h1]
  simp only [Option.getD_some]
  rw [List.getElem?_eq_getElem h2]
  rfl
theorem ix_LI {l : List Nat} {i : Nat} (hi : i < l.length) {h : Hs} : ixD h (.lst (l.map eI)) (.int (i : Nat)) = some (eI (l[i]?.getD 0)) := by
  have z := atI_map (f := eI) l i
  rw [List.getElem?_eq_getElem hi] at z
  simp only [ixD, orOp, ixS, viewQ, viewL]
  rw [show atI (l.map eI) ((i : Nat) : Int) = some (eI l[i]) from z, List.getElem?_eq_getElem hi]
  rfl
theorem subN {h : Hs} {i j : Nat} (hij : j ≤ i) : subD h (.int (i : Nat)) (.int (j : Nat)) = some (.int ((i - j : Nat) : Nat)) := by
  rw [subD_i]
  congr 2
  omega
theorem mc {xs : List Int} {t : Hs} (L : Pl xs t) {a k most : Nat} (ha : a ≤ 9000) (hk0 : 0 < k) (hk : k ≤ 3) (hm0 : 0 < most) (hm : most ≤ 6) {R : D → Hs → Prop} (q : ∀ m a' n, Tab k n 3 m → 0 < n → n ≤ most → a' ≤ a + 200 → R (eM m) (HpP a' xs t)) :
    ∃ c' h2, f_p_law_machine (HpP a xs t) [.ref 1, eI k, eI most] = some (c', h2) ∧ R c' h2 := by
  refine wp_runG L rfl ?_
  unfold b_p_law_machine
  array_get_dec
  refine dr L (many := 9) (by omega) (by omega) (by omega) fun way hway => ?_
  array_get_dec
  refine dr L (many := most) (by omega) (by omega) (by omega) fun v hv => ?_
  array_get_dec
  refine ⟨eI (1 + v), rfl, ?_⟩
  array_get_dec
  refine ws_join (fun o => ∃ (n : Nat), o = .nx [some (.ref 1), some (eI k), some (eI most), some (eI way), some (eI n), none, none, none, none, none] (HpP (a + 3) xs t) ∧ 0 < n ∧ n ≤ most) (ws_if ?_) ?_
  · array_get_dec
    refine dr L (many := 3) (by omega) (by omega) (by omega) fun z hz => ?_
    array_get_dec
    refine ⟨_, gtN (i := z) (j := 0), ifd (fun h0 => ?_) (fun h0 => ?_)⟩
    · array_get_dec
      exact ⟨most, rfl, hm0, by omega⟩
    · array_get_dec
      exact ⟨1 + v, rfl, by omega, by omega⟩
  rintro _ ⟨n, rfl, hn0, hn⟩
  array_get_dec
  refine dr L (many := 3) (by omega) (by omega) (by omega) fun c hc => ?_
  array_get_dec
  refine ⟨eI (1 + c), rfl, ?_⟩
  array_get_dec
  refine tb L (k := k) (n := n) (c := 1 + c) (by omega) hk hn0 (by omega) (by omega) (by omega) fun m a1 T h1 => ?_
  replace T := T.up (c' := 3) (by omega)
  array_get_dec
  refine ws_join (fun o => ∃ (m : Mach) (a2 : Nat) (d6 d7 d8 d9 : Option D), o = .nx [some (.ref 1), some (eI k), some (eI most), some (eI way), some (eI n), some (eM m), d6, d7, d8, d9] (HpP a2 xs t) ∧ Tab k n 3 m ∧ a2 ≤ a1 + 10) (ws_if ?_) ?_
  · array_get_dec
    refine ⟨_, eq_I _ way 0, ifd (fun h0 => ?_) (fun h0 => ?_)⟩
    · array_get_dec
      refine drawn L (k := k) (n := n) (by omega) (by omega) hn0 (by omega) fun l a2 hl hx h2 => ?_
      refine t_nx (ws_seq (ws_asgN ?_))
      refine grid (n := n) (k := k) (A := fun i j => (step m i j).1) (G := fun i j => (i + l[j]?.getD 0) % n) (by omega) (by omega) (fun i j hi hj => ?_) ?_
      · obtain ⟨r, p, e1, e2, e3, e4, e5⟩ := T.at hi hj
        constructor
        · array_get_dec
          refine ⟨_, ix_M e1, ?_⟩
          array_get_dec
          refine ⟨_, ix_R e2, ?_⟩
          array_get_dec
          exact ⟨_, ix_S0, by rw [e3], rfl⟩
        · array_get_dec
          refine ⟨_, ix_LI (i := j) (by omega), ?_⟩
          refine ⟨eI (i + l[j]?.getD 0), rfl, ?_⟩
          array_get_dec
          refine ⟨eI (i + l[j]?.getD 0), rfl, ?_⟩
          array_get_dec
          exact ⟨_, modN hn0, rfl, rfl⟩
      · array_get_dec
        exact ⟨_, a2, _, _, _, _, rfl, gridT fun i j hi hj => ⟨by obtain ⟨r, p, e1, e2, e3, e4, e5⟩ := T.at hi hj; rw [e3]; exact e4, Nat.mod_lt _ hn0⟩, by omega⟩
    · array_get_dec
      exact ⟨m, a1, _, _, _, _, rfl, T, by omega⟩
  clear T
  rintro _ ⟨m, a2, d6, d7, d8, d9, rfl, T, h2⟩
  array_get_dec
  refine ws_join (fun o => ∃ (m : Mach) (a3 : Nat), o = .nx [some (.ref 1), some (eI k), some (eI most), some (eI way), some (eI n), some (eM m), d6, d7, d8, d9] (HpP a3 xs t) ∧ Tab k n 3 m ∧ a3 ≤ a2 + 60) (ws_if ?_) ?_
  · array_get_dec
    refine ⟨_, eq_I _ way 1, ifd (fun h0 => ?_) (fun h0 => ?_)⟩
    · array_get_dec
      refine db L (k := k) (n := n) (by omega) hk hn0 (by omega) fun m a3 T h3 => ?_
      array_get_dec
      exact ⟨m, a3, rfl, T, by omega⟩
    · array_get_dec
      exact ⟨m, a2, rfl, T, by omega⟩
  clear T
  rintro _ ⟨m, a3, rfl, T, h3⟩
  array_get_dec
  refine ws_join (fun o => ∃ (m : Mach) (a2 : Nat) (d6 d7 d8 d9 : Option D), o = .nx [some (.ref 1), some (eI k), some (eI most), some (eI way), some (eI n), some (eM m), d6, d7, d8, d9] (HpP a2 xs t) ∧ Tab k n 3 m ∧ a2 ≤ a3 + 10) (ws_if ?_) ?_
  · array_get_dec
    refine ⟨_, eq_I _ way 2, ifd (fun h0 => ?_) (fun h0 => ?_)⟩
    · array_get_dec
      refine drawn L (k := k) (n := n) (by omega) (by omega) hn0 (by omega) fun l a2 hl hx h2 => ?_
      refine t_nx (ws_seq (ws_asgN ?_))
      refine grid (n := n) (k := k) (A := fun i j => (step m i j).1) (G := fun i j => l[j]?.getD 0) (by omega) (by omega) (fun i j hi hj => ?_) ?_
      · obtain ⟨r, p, e1, e2, e3, e4, e5⟩ := T.at hi hj
        constructor
        · array_get_dec
          refine ⟨_, ix_M e1, ?_⟩
          array_get_dec
          refine ⟨_, ix_R e2, ?_⟩
          array_get_dec
          exact ⟨_, ix_S0, by rw [e3], rfl⟩
        · array_get_dec
          exact ⟨_, ix_LI (i := j) (by omega), rfl, rfl⟩
      · array_get_dec
        refine ⟨_, a2, _, _, _, _, rfl, gridT fun i j hi hj => ⟨by obtain ⟨r, p, e1, e2, e3, e4, e5⟩ := T.at hi hj; rw [e3]; exact e4, ?_⟩, by omega⟩
        have : j < l.length := by omega
        rw [List.getElem?_eq_getElem this]
        exact hx _ (List.getElem_mem this)
    · array_get_dec
      exact ⟨m, a3, _, _, _, _, rfl, T, by omega⟩
  clear T
  rintro _ ⟨m, a4, d6, d7, d8, d9, rfl, T, h4⟩
  array_get_dec
  refine ws_join (fun o => ∃ (m : Mach) (d8 d9 : Option D), o = .nx [some (.ref 1), some (eI k), some (eI most), some (eI way), some (eI n), some (eM m), d6, d7, d8, d9] (HpP a4 xs t) ∧ Tab k n 3 m) (ws_if ?_) ?_
  · array_get_dec
    refine ⟨_, eq_I _ way 3, ifd (fun h0 => ?_) (fun h0 => ?_)⟩
    · refine ws_seq (ws_asgN ?_)
      refine grid (n := n) (k := k) (A := fun i j => ((step m i 0).1 + j) % 3) (G := fun i j => (step m i j).2) (by omega) (by omega) (fun i j hi hj => ?_) ?_
      · obtain ⟨r, p, e1, e2, e3, e4, e5⟩ := T.at hi hj
        obtain ⟨r', p', e1', e2', e3', e4', e5'⟩ := T.at hi hk0
        rw [e1] at e1'
        cases e1'
        constructor
        · array_get_dec
          refine ⟨_, ix_M e1, ?_⟩
          array_get_dec
          refine ⟨_, ix_R (l := 0) e2', ?_⟩
          array_get_dec
          refine ⟨_, ix_S0, ?_⟩
          array_get_dec
          refine ⟨eI (p'.1 + j), rfl, ?_⟩
          array_get_dec
          refine ⟨eI (p'.1 + j), rfl, ?_⟩
          array_get_dec
          exact ⟨_, modN (j := 3) (by omega), by rw [e3']; rfl, rfl⟩
        · array_get_dec
          refine ⟨_, ix_M e1, ?_⟩
          array_get_dec
          refine ⟨_, ix_R e2, ?_⟩
          array_get_dec
          exact ⟨_, ix_S1, by rw [e3], rfl⟩
      · array_get_dec
        exact ⟨_, _, _, rfl, gridT fun i j hi hj => ⟨Nat.mod_lt _ (by omega), by obtain ⟨r, p, e1, e2, e3, e4, e5⟩ := T.at hi hj; rw [e3]; exact e5⟩⟩
    · array_get_dec
      exact ⟨m, _, _, rfl, T⟩
  clear T
  rintro _ ⟨m, d8, d9, rfl, T⟩
  array_get_dec
  refine ws_join (fun o => ∃ (m : Mach) (d8 d9 : Option D), o = .nx [some (.ref 1), some (eI k), some (eI most), some (eI way), some (eI n), some (eM m), d6, d7, d8, d9] (HpP a4 xs t) ∧ Tab k n 3 m) (ws_if ?_) ?_
  · array_get_dec
    refine ⟨_, eq_I _ way 4, ifd (fun h0 => ?_) (fun h0 => ?_)⟩
    · refine ws_seq (ws_asgN ?_)
      refine grid (n := n) (k := k) (A := fun i j => (i + j) % 3) (G := fun i j => i - j) (by omega) (by omega) (fun i j hi hj => ?_) ?_
      · constructor
        · array_get_dec
          refine ⟨eI (i + j), rfl, ?_⟩
          array_get_dec
          refine ⟨eI (i + j), rfl, ?_⟩
          array_get_dec
          exact ⟨_, modN (j := 3) (by omega), rfl, rfl⟩
        · array_get_dec
          refine ⟨_, subD_i, ?_⟩
          array_get_dec
          refine ⟨.int (i - j : Nat), ?_, rfl, rfl⟩
          unfold maxS
          simp only [Option.some.injEq, D.int.injEq]
          split <;> omega
      · array_get_dec
        exact ⟨_, _, _, rfl, gridT fun i j hi hj => ⟨Nat.mod_lt _ (by omega), by omega⟩⟩
    · array_get_dec
      exact ⟨m, _, _, rfl, T⟩
  clear T
  rintro _ ⟨m, d8', d9', rfl, T⟩
  array_get_dec
  exact ⟨_, a4, [], by rw [List.append_nil], nr_M m, q m a4 n T hn0 hn (by omega)⟩
end K43
namespace K43
open TB PySem
open L2 (atI ixN)
/-! ### the law's facts -/
theorem agree {k : Nat} {m : Mach} (ok : OK k m) {q : Slip} (hq : OKq k m q) : ∀ (w : List Nat) (s : Nat), s < m.length → Word k w → (∀ j, j < w.length → goal m s (w.take j) ≠ q.s) → ans (slipM m q) s w = ans m s w ∧ goal (slipM m q) s w = goal m s w
  | [], _, _, _, _ => ⟨rfl, rfl⟩
  | l :: w, s, hs, hw, hj => by
    have hl := hw l List.mem_cons_self
    have h0 : s ≠ q.s := hj 0 (by simp)
    have e : step (slipM m q) s l = step m s l := by rw [slip_step ok hq hs hl, if_neg (fun z => h0 z.1)]
    obtain ⟨r, p, _, _, e3, h4, _⟩ := step_at ok hs hl
    have ih := agree ok hq w (step m s l).2 (by rw [e3]; exact h4) (fun x hx => hw x (List.mem_cons_of_mem _ hx)) fun j hjl => by
      have := hj (j + 1) (by simpa using hjl)
      simpa only [List.take_succ_cons, goal] using this
    simp only [ans, goal, e, ih.1, ih.2, and_self]
theorem goal_in {k : Nat} {m : Mach} {ks : List Nat} (cl : ∀ s ∈ ks, ∀ l, l < k → (step m s l).2 ∈ ks) : ∀ (w : List Nat) (s : Nat), s ∈ ks → Word k w → goal m s w ∈ ks
  | [], _, hs, _ => hs
  | l :: w, s, hs, hw => by
    simp only [goal]
    exact goal_in cl w _ (cl s hs l (hw l List.mem_cons_self)) fun x hx => hw x (List.mem_cons_of_mem _ hx)
theorem take_word {k : Nat} {w : List Nat} (h : Word k w) (n : Nat) : Word k (w.take n) := fun x hx => h x (List.mem_of_mem_take hx)
theorem WI.way {k : Nat} {m : Mach} {ks : List Nat} {ws : List (List Nat)} (I : WI k m ks ws) {s : Nat} (hs : s ∈ ks) : ∃ w, lk ks ws s = some w ∧ w ∈ ws ∧ Word k w ∧ goal m 0 w = s ∧ w.length ≤ m.length ∧ ∀ j, j < w.length → goal m 0 (w.take j) ≠ s := by
  obtain ⟨i, hi, es⟩ := List.getElem_of_mem hs
  have h1 : ks[i]? = some s := by rw [List.getElem?_eq_getElem hi, es]
  have hi2 : i < ws.length := by rw [← I.len]; exact hi
  have h2 : ws[i]? = some ws[i] := List.getElem?_eq_getElem hi2
  obtain ⟨a1, a2, a3⟩ := I.wrd i s _ h1 h2
  refine ⟨ws[i], lk_at I.nd h1 h2, List.getElem_mem hi2, a1, a2, by have := I.le; omega, fun j hj e => ?_⟩
  obtain ⟨i', hi', e'⟩ := I.pre i s _ h1 h2 j hj
  rw [e] at e'
  have := (List.getElem?_inj (by omega) I.nd).mp (e'.trans h1.symm)
  omega
structure Cov (k : Nat) (m : Mach) (ks : List Nat) (ws cs : List (List Nat)) : Prop where
  I : WI k m ks ws
  cl : ∀ s ∈ ks, ∀ l, l < k → (step m s l).2 ∈ ks
  nd : cs.Nodup
  len : cs.length ≤ 24
  mem : ∀ x, x ∈ cs ↔ ∃ w ∈ ws, x = w ∨ ∃ l, l < k ∧ x = w ++ [l]
theorem Cov.wd {k : Nat} {m : Mach} {ks : List Nat} {ws cs : List (List Nat)} (ok : OK k m) (C : Cov k m ks ws cs) : ∀ w ∈ cs, Word k w ∧ w.length ≤ 7 := by
  intro x hx
  obtain ⟨w, hw, h⟩ := (C.mem x).mp hx
  obtain ⟨i, hi, ew⟩ := List.getElem_of_mem hw
  have hi2 : i < ks.length := by rw [C.I.len]; exact hi
  obtain ⟨a1, a2, a3⟩ := C.I.wrd i ks[i] w (List.getElem?_eq_getElem hi2) (by rw [List.getElem?_eq_getElem hi, ew])
  have hle := C.I.le
  have h6 := ok.le
  rcases h with rfl | ⟨l, hl, rfl⟩
  · exact ⟨a1, by omega⟩
  · exact ⟨a1.snoc hl, by simp; omega⟩
theorem cover_tells {k : Nat} {m : Mach} (ok : OK k m) {ks : List Nat} {ws cs : List (List Nat)} (C : Cov k m ks ws cs) {q : Slip} (hq : OKq k m q) (hs : ∀ w ∈ cs, ans m 0 w = ans (slipM m q) 0 w) (hn : ¬ Same k m 0 (slipM m q) 0) : q.s ∈ ks ∧ q.a = (step m q.s q.l).1 := by
  have hk0 : 0 ∈ ks := List.mem_of_getElem? C.I.k0
  have h0 : 0 < m.length := C.I.lt 0 hk0
  have hin : q.s ∈ ks := by
    refine Classical.byContradiction fun h => hn fun w hw => ?_
    exact (agree ok hq w 0 h0 hw fun j hj e => h (by rw [← e]; exact goal_in C.cl _ 0 hk0 (take_word hw j))).1.symm
  refine ⟨hin, ?_⟩
  obtain ⟨w, _, hw, a1, a2, _, a4⟩ := C.I.way hin
  have ag := agree ok hq w 0 h0 a1 (by rw [← a2] at a4; simpa [a2] using a4)
  have := hs (w ++ [q.l]) ((C.mem _).mpr ⟨w, hw, .inr ⟨q.l, hq.l, rfl⟩⟩)
  rw [ans_app, ans_app, ag.1, ag.2, a2] at this
  have e := List.append_cancel_left this
  simp only [ans, List.cons.injEq, and_true] at e
  rw [slip_step ok hq hq.s hq.l, if_pos ⟨rfl, rfl⟩] at e
  exact e.symm
theorem slip_seen {k : Nat} {m : Mach} (ok : OK k m) {ks : List Nat} {ws cs : List (List Nat)} (C : Cov k m ks ws cs) {q : Slip} (hq : OKq k m q) {w : List Nat} (a1 : Word k w) (a2 : goal m 0 w = q.s) (a4 : ∀ j, j < w.length → goal m 0 (w.take j) ≠ q.s) (hne : q.a ≠ (step m q.s q.l).1) :
    (∀ j, j < w.length → (ans m 0 (w ++ [q.l]))[j]? = (ans (slipM m q) 0 (w ++ [q.l]))[j]?) ∧ (ans m 0 (w ++ [q.l]))[w.length]? ≠ (ans (slipM m q) 0 (w ++ [q.l]))[w.length]? := by
  have hk0 : 0 ∈ ks := List.mem_of_getElem? C.I.k0
  have h0 : 0 < m.length := C.I.lt 0 hk0
  have ag := agree ok hq w 0 h0 a1 a4
  have e1 : ans m 0 (w ++ [q.l]) = ans m 0 w ++ [(step m q.s q.l).1] := by rw [ans_app, a2]; rfl
  have e2 : ans (slipM m q) 0 (w ++ [q.l]) = ans m 0 w ++ [q.a] := by
    rw [ans_app, ag.1, ag.2, a2]
    simp only [ans]
    rw [slip_step ok hq hq.s hq.l, if_pos ⟨rfl, rfl⟩]
  rw [e1, e2]
  have hl : (ans m 0 w).length = w.length := ans_len m w 0
  refine ⟨fun j hj => ?_, ?_⟩
  · rw [List.getElem?_append_left (by omega), List.getElem?_append_left (by omega)]
  · rw [List.getElem?_append_right (by omega), List.getElem?_append_right (by omega), hl, Nat.sub_self]
    intro e
    simp only [List.getElem?_cons_zero, Option.some.injEq] at e
    exact hne e.symm
theorem ans_take (m : Mach) : ∀ (w : List Nat) (s n : Nat), ans m s (w.take n) = (ans m s w).take n
  | [], _, _ => by simp [ans]
  | l :: w, s, 0 => by simp [ans]
  | l :: w, s, n + 1 => by simp only [List.take_succ_cons, ans, ans_take m w]
theorem trim_mem {l : List (List Nat)} : ∀ (n : Nat) (w : List Nat), w ∈ l → (∀ o ∈ l, o.length ≤ w.length + n) → ∃ o ∈ trim l, o.take w.length = w := by
  intro n
  induction n with
  | zero =>
    intro w hw hb
    refine ⟨w, List.mem_filter.mpr ⟨hw, ?_⟩, List.take_length⟩
    simp only [Bool.not_eq_true', List.any_eq_false, longer, Bool.and_eq_true, decide_eq_true_eq, not_and]
    intro o ho hlt
    have := hb o ho
    omega
  | succ n ih =>
    intro w hw hb
    by_cases h : (l.any fun o => longer w o) = true
    · obtain ⟨o, ho, hlo⟩ := List.any_eq_true.mp h
      simp only [longer, Bool.and_eq_true, decide_eq_true_eq] at hlo
      obtain ⟨o', ho', e'⟩ := ih o ho (fun x hx => by have := hb x hx; omega)
      refine ⟨o', ho', ?_⟩
      have e2 : o'.take w.length = (o'.take o.length).take w.length := by rw [List.take_take, Nat.min_eq_left (Nat.le_of_lt hlo.1)]
      rw [e2, e', hlo.2]
    · exact ⟨w, List.mem_filter.mpr ⟨hw, by simpa using h⟩, List.take_length⟩
theorem exists_bound (l : List (List Nat)) : ∃ n, ∀ o ∈ l, o.length ≤ n := by
  induction l with
  | nil => exact ⟨0, by simp⟩
  | cons x l ih =>
    obtain ⟨n, hn⟩ := ih
    exact ⟨n + x.length, fun o ho => by
      rcases List.mem_cons.mp ho with rfl | h
      · omega
      · have := hn o h; omega⟩
theorem trim_all {l : List (List Nat)} {m m' : Mach} : (∀ w ∈ trim l, ans m 0 w = ans m' 0 w) ↔ ∀ w ∈ l, ans m 0 w = ans m' 0 w := by
  constructor
  · intro h w hw
    obtain ⟨n, hn⟩ := exists_bound l
    obtain ⟨o, ho, e⟩ := trim_mem n w hw (fun o ho => by have := hn o ho; omega)
    rw [← e, ans_take, ans_take, h o ho]
  · intro h w hw
    exact h w (List.mem_filter.mp hw).1
theorem trim_pU {k : Nat} {m : Mach} {l : List (List Nat)} : pU k m (trim l) = pU k m l := by
  funext q
  have h : pU k m (trim l) q = true ↔ pU k m l q = true := by rw [pU_iff, pU_iff, trim_all]
  cases h1 : pU k m (trim l) q <;> cases h2 : pU k m l q <;> simp_all
theorem sortF_mem {α : Type} {f : α → D} {l : List α} {x : α} : x ∈ sortF f l ↔ x ∈ l := (sortF_perm f l).mem_iff
theorem sortF_len {α : Type} {f : α → D} {l : List α} : (sortF f l).length = l.length := (sortF_perm f l).length_eq
end K43
namespace K43
open TB PySem
open L2 (atI ixN)
theorem cp {f : List D → Option D} {h : Hs} {ds : List D} {d : D} {R : D → Prop} (n : nrA ds = true) (e : f ds = some d) (r : R d) : ∃ c, callP f h ds = some c ∧ R c := ⟨d, by rw [callP_nr n]; exact e, r⟩
theorem sub_chk {α : Type} (e : α → D) {σ : Fr} {h : Hs} {A : List α} {fa : EF} {i j : Nat} {dB : D} {R : D → Hs → Prop} (hi : WIt (iSeq fa) σ h fun g m h1 => g = srcL (A.map e) ∧ A.length < m ∧ h1 = h) (hj : σ[j]? = some (some dB)) (hij : i ≠ j) (hil : i < σ.length)
    (hin : ∀ x ∈ A, notInD h (e x) dB = some (.bl false)) (r : R (.bl false) h) : WE (bin2 (eArgs (aCons (eLc (iSeq fa) (gN i) (bin2 (eVar i) (eVar j) notInD) (eVar i) [i]) aNil) lenS) (eC (.int 0)) gtI) σ h R := by
  array_get_dec
  refine we_lc e A (fun _ => false) e ?_
  obtain ⟨g, m, h1, e1, rfl, hm, rfl⟩ := hi
  refine ⟨_, _, _, e1, srcL_at _ _, hm, ?_, fun x hx => ?_⟩
  · array_get_dec
    refine ⟨.int 0, ?_, ?_⟩
    · rw [show (A.filter fun _ => false) = [] from List.filter_eq_nil_iff.mpr fun _ _ => by simp]
      rfl
    · array_get_dec
      exact ⟨.bl false, by rw [gtI_i]; rfl, r⟩
  · refine wg_N ⟨rfl, ?_⟩
    refine we_bin (we_var (d := e x) ?_ (we_var (d := dB) ?_ ⟨_, hin x hx, rfl, rfl, fun h => by cases h⟩))
    · simp only [wipeD, List.set_set]
      exact List.getElem?_set_self hil
    · simp only [wipeD, List.set_set]
      rw [List.getElem?_set_ne hij]
      exact hj
theorem notin_P {h : Hs} {w : List Nat} {l : List (List Nat)} (hw : w ∈ l) : notInD h (eW w) (eP l) = some (.bl false) := by
  have := notin_tup (e := eW) eqv_W (fun w => fit_W w 58) (h := h) (l := l) w (fit_W w 59)
  exact this.trans (by simp [hw])
theorem eqv_Q (p q : Slip) : (eQ p).eqv (eQ q) = decide (p = q) := by
  obtain ⟨a, b, c, d⟩ := p
  obtain ⟨a', b', c', d'⟩ := q
  simp only [eQ, D.eqv, eqvA, eqv_I, Prod.mk.injEq, Slip.s, Slip.l, Slip.a, Slip.g]
  by_cases h : a = a' <;> by_cases h2 : b = b' <;> by_cases h3 : c = c' <;> by_cases h4 : d = d' <;> simp [h, h2, h3, h4]
theorem fit_Q (q : Slip) (k : Nat) : (eQ q).fit (k + 1) = true := by simp only [eQ, D.fit, fitA, fit_I, Bool.and_self]
theorem notin_Q {h : Hs} {q : Slip} {l : List Slip} (hw : q ∈ l) : notInD h (eQ q) (.lst (l.map eQ)) = some (.bl false) := by
  have := notin_lst (e := eQ) eqv_Q (fun w => fit_Q w 58) (h := h) (l := l) q (fit_Q q 59)
  exact this.trans (by simp [hw])
theorem ne_LQ (h : Hs) (l : List Slip) : neD h (.lst (l.map eQ)) (.lst (l.map eQ)) = some (.bl false) := by
  unfold neD
  have e1 : (D.lst (l.map eQ)).fit 60 = true := by
    simp only [D.fit]
    exact fitA_map (fun q => fit_Q q 58) l
  have e2 : (D.lst (l.map eQ)).eqv (.lst (l.map eQ)) = true := by
    simp only [D.eqv]
    rw [eqvA_map eqv_Q]
    simp
  rw [e1, e2]
  rfl
theorem ne_WI (h : Hs) (w : List Nat) (i : Nat) : neD h (.tup [eW w, eI i]) (.tup [eW w, eI i]) = some (.bl false) := by
  unfold neD
  have e1 : (D.tup [eW w, eI i]).fit 60 = true := by simp only [D.fit, fitA, fit_W w 58, fit_I i 59, Bool.and_self]
  have e2 : (D.tup [eW w, eI i]).eqv (.tup [eW w, eI i]) = true := by simp [D.eqv, eqvA, eqv_W, eqv_I]
  rw [e1, e2]
  rfl
theorem is_tt (h : Hs) (b c : Bool) : isN h (.bl b) (.bl c) = some (.bl (decide (b = c))) := rfl
theorem not_tt (h : Hs) (b c : Bool) : notN h (.bl b) (.bl c) = some (.bl (!decide (b = c))) := rfl
theorem law_is_eq (b c : Bool) : f_p_law_is [.bl b, .bl c] = some (.bl (decide (b = c))) := by cases b <;> cases c <;> rfl
theorem wd_P {k : Nat} {l : List (List Nat)} {n : Nat} (h : ∀ w ∈ l, Word k w ∧ w.length ≤ n) (hn : n ≤ 1000) : ∀ w ∈ l, Wd k w := fun w hw => ⟨(h w hw).1, Nat.le_trans (h w hw).2 hn⟩
theorem add_LW {h : Hs} {l l' : List (List Nat)} (hz : l.length + l'.length ≤ 10000) : addD h (.lst (l.map eW)) (.lst (l'.map eW)) = some (.lst ((l ++ l').map eW)) := by
  unfold addD addI addT addL
  simp only [viewT, viewL, List.length_map]
  rw [if_pos (le_szL (by omega)), List.map_append]
theorem law_true (ns : List Int) (hns : ns.length ≤ 63) : f_law [.scr (ns.map D.int)] = some (.bl true) := by
  have : ∃ c, f_law [.scr (ns.map D.int)] = some c ∧ c = .bl true := by
    refine wp_runP rfl ?_
    unfold b_law
    obtain ⟨xs, hx0, hx2, ep⟩ := pool_eq hns
    have L : Pl xs [] := ⟨hx0, hx2, fun _ => rfl⟩
    array_get_dec
    refine ⟨_, _, ep, ?_⟩
    array_get_dec
    refine dr L (many := 3) (by omega) (by omega) (by omega) fun v hv => ?_
    array_get_dec
    refine ⟨eI (1 + v), rfl, ?_⟩
    have hk0 : 0 < 1 + v := by omega
    have hk3 : 1 + v ≤ 3 := by omega
    generalize 1 + v = k at hk0 hk3
    clear hv v
    array_get_dec
    refine mc L (k := k) (most := 4) (by omega) hk0 hk3 (by omega) (by omega) fun m a n T hn0 hn ha => ?_
    have ok : OK k m := T.ok hk0 hk3 hn0 (by omega) (by omega)
    have hmn := T.len
    have hm0 : 0 < m.length := by omega
    obtain ⟨ks, ws, ew, I, cl⟩ := ways_eq ok
    obtain ⟨cs, ec, cnd, clen, cmem⟩ := cover_eq ok ew I
    have C : Cov k m ks ws cs := ⟨I, cl, cnd, clen, cmem⟩
    have hcw : ∀ w ∈ sortF eW cs, Word k w ∧ w.length ≤ 7 := fun w hw => C.wd ok w (sortF_mem.mp hw)
    obtain ⟨ts, et, tnd, tw, tlen, _⟩ := telling_eq ok ew I
    have htw : ∀ w ∈ sortF eW ts, Word k w ∧ w.length ≤ 37 := fun w hw => tw w (sortF_mem.mp hw)
    obtain ⟨f0, e0, _, f0len, f0m⟩ := full_eq ok (x := 0) (by omega) ec et (fun c hc => Nat.le_trans (hcw c hc).2 (by omega)) (fun t ht => (htw t ht).2) (by rw [sortF_len]; exact clen) (by rw [sortF_len]; exact tlen)
    obtain ⟨f1, e1, _, f1len, f1m⟩ := full_eq ok (x := 1) (by omega) ec et (fun c hc => Nat.le_trans (hcw c hc).2 (by omega)) (fun t ht => (htw t ht).2) (by rw [sortF_len]; exact clen) (by rw [sortF_len]; exact tlen)
    obtain ⟨SL, esl, sll, slm, unt⟩ := untold_all ok
    have hfull : ∀ x fs, x ≤ 1 → (∀ u, u ∈ fs ↔ ∃ c ∈ sortF eW cs, ∃ d ∈ mids k x, Ext (sortF eW ts) c d u) → ∀ w ∈ sortF eW fs, Word k w ∧ w.length ≤ 50 := by
      intro x fs hx hm w hw
      obtain ⟨c, hc, d, hd, h⟩ := (hm w).mp (sortF_mem.mp hw)
      have h1 := hcw c hc
      have h2 := mids_mem.mp hd
      have hcd : Word k (c ++ d) := fun z hz => (List.mem_append.mp hz).elim (h1.1 z) (h2.1 z)
      rcases h with rfl | ⟨t, ht, rfl⟩
      · exact ⟨hcd, by rw [List.length_append]; omega⟩
      · have h3 := htw t ht
        exact ⟨fun z hz => (List.mem_append.mp hz).elim (hcd z) (h3.1 z), by rw [List.length_append, List.length_append]; omega⟩
    have hf0 := hfull 0 f0 (by omega) f0m
    have hf1 := hfull 1 f1 (by omega) f1m
    have h01 : ∀ w ∈ sortF eW f0, w ∈ sortF eW f1 := fun w hw => by
      obtain ⟨c, hc, d, hd, h⟩ := (f0m w).mp (sortF_mem.mp hw)
      have h2 := mids_mem.mp hd
      exact sortF_mem.mpr ((f1m w).mpr ⟨c, hc, d, mids_mem.mpr ⟨h2.1, by omega⟩, h⟩)
    have hnil : ([] : List Nat) ∈ mids k 0 := mids_mem.mpr ⟨fun x hx => by simp at hx, by simp⟩
    have hc0 : ∀ w ∈ sortF eW cs, w ∈ sortF eW f0 := fun w hw => sortF_mem.mpr ((f0m w).mpr ⟨w, hw, [], hnil, .inl (by simp)⟩)
    have ht0 : ∀ w ∈ sortF eW ts, w ∈ sortF eW f0 := fun w hw => sortF_mem.mpr ((f0m w).mpr ⟨[], sortF_mem.mpr ((cmem []).mpr ⟨[], List.mem_of_getElem? I.w0, .inl rfl⟩), [], hnil, .inr ⟨w, hw, by simp⟩⟩)
    array_get_dec
    refine cp (by simp only [nrA, nr_M, nr_P, nr_W, nr_I, nr_Q, nr_S, nr_R, D.nr, Bool.and_self, Bool.and_true]) ec ?_
    array_get_dec
    refine cp (by simp only [nrA, nr_M, nr_P, nr_W, nr_I, nr_Q, nr_S, nr_R, D.nr, Bool.and_self, Bool.and_true]) (reached_eq (k := k) ew) ?_
    array_get_dec
    generalize hCV : sortF eW cs = CV at *
    refine ws_forM eQ (SL.filter (pU k m CV)) (fun ys σ h => ∃ d6 d7 d8 d9, σ = [some (.scr (ns.map D.int)), some (.ref 1), some (eI k), some (eM m), some (eP CV), some (.tup ((sortF eI ks).map eI)), d6, d7, d8, d9, none, none, none, none, none, none, none, none] ∧ h = HpP a xs []) (wi_lst ?_) ?_ ?_
    · array_get_dec
      refine cp (by simp only [nrA, nr_M, nr_P, nr_W, nr_I, nr_Q, nr_S, nr_R, D.nr, Bool.and_self, Bool.and_true]) (unt CV (wd_P hcw (by omega))) ?_
      exact ⟨_, rfl, rfl, by simp, _, _, _, _, rfl, rfl⟩
    · rintro ys q zs σ h el ⟨d6, d7, d8, d9, rfl, rfl⟩
      have hq := List.mem_filter.mp (show q ∈ SL.filter (pU k m CV) by rw [el]; simp)
      obtain ⟨s, r, l, own, h1, h2, h3⟩ := (slm q).mp hq.1
      obtain ⟨okq, rfl, rfl, hne⟩ := slips_OKq ok h1 h2 h3
      have hp := pU_iff.mp hq.2
      obtain ⟨t1, t2⟩ := cover_tells ok C okq (fun w hw => hp.1 w (by rw [← hCV]; exact sortF_mem.mpr hw)) hp.2
      have est : step m q.s q.l = own := by unfold step; rw [h1]; simp only [Option.getD_some]; rw [h2]; rfl
      rw [est] at t2
      refine wg_T rfl ?_
      array_get_dec
      refine ws_if ?_
      array_get_dec
      refine ⟨_, notin_tup (e := eI) eqv_I (fun x => fit_I x 59) q.s (fit_I _ 60), ifn (fun hn => absurd (sortF_mem.mpr t1) hn) fun _ => ?_⟩
      array_get_dec
      refine ⟨_, ix_M h1, ?_⟩
      array_get_dec
      refine ⟨_, ix_R h2, ?_⟩
      array_get_dec
      refine ⟨_, ix_S0, ?_⟩
      refine ⟨_, ne_I _ q.a own.1, ifn (fun hn => absurd t2 hn) fun _ => ?_⟩
      array_get_dec
      refine ⟨_, ix_M h1, ?_⟩
      array_get_dec
      refine ⟨_, ix_R h2, ?_⟩
      array_get_dec
      refine ⟨_, ix_S1, ?_⟩
      refine ⟨_, eq_I _ q.g own.2, ifd (fun he => absurd (show (q.a, q.g) = own by rw [t2, he]) hne) fun _ => ?_⟩
      array_get_dec
      exact ⟨_, _, _, _, rfl, rfl⟩
    rintro σ h ⟨d6, d7, d8, d9, rfl, rfl⟩
    array_get_dec
    refine ws_forM eI (sortF eI ks) (fun ys σ h => ∃ a' d6 d7 d15 d16 d17, σ = [some (.scr (ns.map D.int)), some (.ref 1), some (eI k), some (eM m), some (eP CV), some (.tup ((sortF eI ks).map eI)), d6, d7, d8, d9, none, none, none, none, none, d15, d16, d17] ∧ h = HpP a' xs [] ∧ a' ≤ a + 2 * ys.length) (wi_tup ?_) ?_ ?_
    · array_get_dec
      exact ⟨_, rfl, rfl, by simp, a, _, _, _, _, _, rfl, rfl, by simp⟩
    · rintro ys s zs σ h el ⟨a', d6, d7, d15, d16, d17, rfl, rfl, ha'⟩
      have hlen : (sortF eI ks).length = (ys ++ s :: zs).length := by rw [el]
      have hle := I.le
      rw [sortF_len, List.length_append, List.length_cons] at hlen
      have hs : s ∈ ks := sortF_mem.mp (by rw [el]; simp)
      have hsm := I.lt s hs
      obtain ⟨w, hlk, hww, w1, w2, w3, w4⟩ := I.way hs
      have hwc : w ∈ CV := by rw [← hCV]; exact sortF_mem.mpr ((cmem w).mpr ⟨w, hww, .inl rfl⟩)
      have hwl : ∀ l, l < k → w ++ [l] ∈ CV := fun l hl => by rw [← hCV]; exact sortF_mem.mpr ((cmem _).mpr ⟨w, hww, .inr ⟨l, hl, rfl⟩⟩)
      refine wg_N ?_
      array_get_dec
      refine cp (by simp only [nrA, nr_M, nr_P, nr_W, nr_I, nr_Q, nr_S, nr_R, D.nr, Bool.and_self, Bool.and_true]) (way_to_eq (k := k) ew hlk) ?_
      array_get_dec
      refine ws_if ?_
      array_get_dec
      refine ⟨_, notin_P hwc, iff0 ?_⟩
      array_get_dec
      refine we_lc (fun i : Nat => D.int (i : Nat)) (List.range k) (fun _ => false) (fun i => D.int (i : Nat)) (wi_R1 ?_)
      array_get_dec
      refine ⟨k, rfl, by omega, srcR_at _, by simp, ?_, fun i hi => ?_⟩
      · array_get_dec
        refine ⟨.int 0, ?_, ?_⟩
        · rw [show ((List.range k).filter fun _ => false) = [] from List.filter_eq_nil_iff.mpr fun _ _ => by simp]
          rfl
        array_get_dec
        refine ⟨.bl false, by rw [gtI_i]; rfl, iff0 ?_⟩
        array_get_dec
        refine dr L (many := k) (by omega) (by omega) (by omega) fun l hl => ?_
        array_get_dec
        obtain ⟨r, p, h1, h2, h3, h4, h5, h6, h7⟩ := step_at ok hsm hl
        refine ⟨_, ix_M h1, ?_⟩
        array_get_dec
        refine ⟨_, ix_R h2, ?_⟩
        array_get_dec
        refine ⟨_, ix_S0, ?_⟩
        array_get_dec
        refine ⟨eI (p.1 + 1), rfl, ?_⟩
        array_get_dec
        refine ⟨eI (p.1 + 1), rfl, ?_⟩
        array_get_dec
        refine ⟨_, modN (j := 3) (by omega), ?_⟩
        array_get_dec
        refine ⟨_, lenM, ?_⟩
        array_get_dec
        refine dr L (many := m.length) (by omega) (by omega) (by omega) fun g hg => ?_
        array_get_dec
        refine ⟨eQ (s, l, (p.1 + 1) % 3, g), mkTup_eq (by simp), ?_⟩
        have okq : OKq k m (s, l, (p.1 + 1) % 3, g) := ⟨hsm, hl, Nat.mod_lt _ (by omega), hg⟩
        have oks := slip_ok ok okq
        obtain ⟨sn1, sn2⟩ := slip_seen ok C okq w1 w2 w4 (show (p.1 + 1) % 3 ≠ (step m s l).1 by rw [h3]; omega)
        array_get_dec
        refine cp (by simp only [nrA, nr_M, nr_P, nr_W, nr_I, nr_Q, nr_S, nr_R, D.nr, Bool.and_self, Bool.and_true]) (with_slip_eq ok okq) ?_
        array_get_dec
        refine ws_if ?_
        array_get_dec
        refine cp (by simp only [nrA, nr_M, nr_P, nr_W, nr_I, nr_Q, nr_S, nr_R, D.nr, Bool.and_self, Bool.and_true]) (passes_eq ok oks (wd_P hcw (by omega))) ?_
        have hpf : (CV.all fun w => decide (ans m 0 w = ans (slipM m (s, l, (p.1 + 1) % 3, g)) 0 w)) = false := by
          rw [List.all_eq_false]
          refine ⟨w ++ [l], hwl l hl, ?_⟩
          intro z
          exact sn2 (congrArg (fun x => x[w.length]?) (of_decide_eq_true z))
        rw [hpf]
        array_get_dec
        refine ⟨_, rfl, iff0 ?_⟩
        array_get_dec
        refine ⟨_, mkTup_eq (by simp), ?_⟩
        refine ⟨_, addW (by omega), ?_⟩
        array_get_dec
        refine ⟨_, mkTup_eq (by simp), ?_⟩
        array_get_dec
        refine cp (d := .tup [eW (w ++ [l]), eI w.length]) (by simp only [nrA, nr_M, nr_P, nr_W, nr_I, nr_Q, nr_S, nr_R, D.nr, Bool.and_self, Bool.and_true]) (first_fail_eq ok oks (w := w ++ [l]) ⟨w1.snoc hl, by simp; omega⟩ (by simp) sn1 sn2) ?_
        array_get_dec
        refine ⟨_, mkTup_eq (by simp), ?_⟩
        refine ⟨_, addW (by omega), ?_⟩
        array_get_dec
        refine ⟨_, lenW, ?_⟩
        array_get_dec
        refine ⟨_, mkTup_eq (by simp), ?_⟩
        refine ⟨_, ne_WI _ _ _, iff0 ?_⟩
        array_get_dec
        exact ⟨a' + 2, _, _, _, _, _, rfl, rfl, by simp; omega⟩
      · have hi' := List.mem_range.mp hi
        refine wg_N ⟨rfl, ?_⟩
        array_get_dec
        refine ⟨_, mkTup_eq (by simp), ?_⟩
        refine ⟨_, addW (by omega), ?_⟩
        array_get_dec
        exact ⟨_, notin_P (hwl i hi'), rfl, rfl, fun h => by cases h⟩
    rintro σ h ⟨a1, d6, d7, d15, d16, d17, rfl, rfl, ha1⟩
    have ha1' : a1 ≤ 300 := by rw [sortF_len] at ha1; have := I.le; omega
    clear ha1 ha
    array_get_dec
    refine cp (by simp only [nrA, nr_M, nr_P, nr_W, nr_I, nr_Q, nr_S, nr_R, D.nr, Bool.and_self, Bool.and_true]) e0 ?_
    array_get_dec
    refine cp (by simp only [nrA, nr_M, nr_P, nr_W, nr_I, nr_Q, nr_S, nr_R, D.nr, Bool.and_self, Bool.and_true]) e1 ?_
    array_get_dec
    generalize sortF eW f0 = F0 at *
    generalize sortF eW f1 = F1 at *
    generalize sortF eW ts = TS at *
    refine ws_if ?_
    refine we_or (sub_chk eW (A := F0) (wi_tup ?_) rfl (by omega) (by simp) (fun x hx => notin_P (h01 x hx)) (iff0 ?_))
    · array_get_dec
      exact ⟨_, rfl, rfl, by simp, rfl⟩
    refine we_or (sub_chk eW (A := CV) (wi_tup ?_) rfl (by omega) (by simp) (fun x hx => notin_P (hc0 x hx)) (iff0 ?_))
    · array_get_dec
      exact ⟨_, rfl, rfl, by simp, rfl⟩
    refine sub_chk eW (A := TS) (wi_tup ?_) rfl (by omega) (by simp) (fun x hx => notin_P (ht0 x hx)) (iff0 ?_)
    · array_get_dec
      refine cp (by simp only [nrA, nr_M, nr_P, nr_W, nr_I, nr_Q, nr_S, nr_R, D.nr, Bool.and_self, Bool.and_true]) et ?_
      exact ⟨_, rfl, rfl, by simp, rfl⟩
    array_get_dec
    refine st L (k := k) (many := 6) (most := 4) (by omega) hk0 hk3 (by omega) (by omega) fun s1 a2 n1 l1 w1 h1 => ?_
    array_get_dec
    refine ⟨_, rfl, ?_⟩
    array_get_dec
    refine st L (k := k) (many := 4) (most := 5) (by omega) hk0 hk3 (by omega) (by omega) fun s2 a3 n2 l2 w2 h2 => ?_
    array_get_dec
    refine ⟨_, rfl, ?_⟩
    refine ⟨_, add_LW (by rw [sortF_len, sortF_len]; omega), ?_⟩
    array_get_dec
    refine cp (by simp only [nrA, D.nr, nrA_W, Bool.and_self]) (once_eq (by rw [List.length_append, sortF_len, sortF_len]; omega)) ?_
    array_get_dec
    refine ⟨_, sort_lst pl_W cok_W, ?_⟩
    array_get_dec
    have hwS : ∀ w ∈ sortF eW s1, Word k w ∧ w.length ≤ 5 := fun w hw => ⟨(w1 w (sortF_mem.mp hw)).1, by have := (w1 w (sortF_mem.mp hw)).2; omega⟩
    have hnd : (onceF (sortF eW s1 ++ sortF eW s2)).Nodup := onceF_nodup
    have hwL : ∀ w ∈ sortF eW (onceF (sortF eW s1 ++ sortF eW s2)), Word k w ∧ w.length ≤ 5 := fun w hw => by
      rcases List.mem_append.mp (onceF_mem.mp (sortF_mem.mp hw)) with h | h
      · exact hwS w h
      · exact w2 w (sortF_mem.mp h)
    have hSL : ∀ w ∈ sortF eW s1, w ∈ sortF eW (onceF (sortF eW s1 ++ sortF eW s2)) := fun w hw => sortF_mem.mpr (onceF_mem.mpr (List.mem_append_left _ hw))
    have hlenL : (sortF eW (onceF (sortF eW s1 ++ sortF eW s2))).length ≤ 10 := by
      rw [sortF_len]
      have := (onceF (sortF eW s1 ++ sortF eW s2)).length
      have h3 : (onceF (sortF eW s1 ++ sortF eW s2)).length ≤ (sortF eW s1 ++ sortF eW s2).length := by
        unfold onceF
        rw [List.length_map]
        refine Nat.le_trans (List.length_filter_le _ _) ?_
        rw [List.length_range]
        exact Nat.le_refl _
      rw [List.length_append, sortF_len, sortF_len] at h3
      omega
    have hrise := rise_sort hnd
    refine ⟨eP (sortF eW (onceF (sortF eW s1 ++ sortF eW s2))), rfl, ?_⟩
    generalize sortF eW (onceF (sortF eW s1 ++ sortF eW s2)) = LG at *
    generalize sortF eW s1 = SU at *
    array_get_dec
    refine cp (by simp only [nrA, nr_M, nr_P, nr_W, nr_I, nr_Q, nr_S, nr_R, D.nr, Bool.and_self, Bool.and_true]) (unt SU (wd_P hwS (by omega))) ?_
    array_get_dec
    refine ws_if ?_
    refine we_or (sub_chk eQ (A := SL.filter (pU k m LG)) (wi_lst ?_) rfl (by omega) (by simp) (fun q hq => notin_Q (List.mem_filter.mpr ⟨(List.mem_filter.mp hq).1, pU_iff.mpr ⟨fun w hw => (pU_iff.mp (List.mem_filter.mp hq).2).1 w (hSL w hw), (pU_iff.mp (List.mem_filter.mp hq).2).2⟩⟩)) (iff0 ?_))
    · array_get_dec
      refine cp (by simp only [nrA, nr_M, nr_P, nr_W, nr_I, nr_Q, nr_S, nr_R, D.nr, Bool.and_self, Bool.and_true]) (unt LG (wd_P hwL (by omega))) ?_
      exact ⟨_, rfl, rfl, by simp, rfl⟩
    array_get_dec
    refine cp (by simp only [nrA, nr_M, nr_P, nr_W, nr_I, nr_Q, nr_S, nr_R, D.nr, Bool.and_self, Bool.and_true]) (trimmed_eq LG) ?_
    array_get_dec
    refine cp (by simp only [nrA, nr_M, nr_P, nr_W, nr_I, nr_Q, nr_S, nr_R, D.nr, Bool.and_self, Bool.and_true]) (unt (trim LG) (wd_P (fun w hw => hwL w (List.mem_filter.mp hw).1) (by omega))) ?_
    array_get_dec
    refine cp (by simp only [nrA, nr_M, nr_P, nr_W, nr_I, nr_Q, nr_S, nr_R, D.nr, Bool.and_self, Bool.and_true]) (unt LG (wd_P hwL (by omega))) ?_
    rw [trim_pU]
    refine ⟨_, ne_LQ _ _, iff0 ?_⟩
    array_get_dec
    refine dr L (many := 2) (by omega) (by omega) (by omega) fun v hv => ?_
    array_get_dec
    refine ⟨eI (1 + v), rfl, ?_⟩
    array_get_dec
    refine ch L ok (n := 1 + v) (by omega) (by omega) fun m' a4 ok' hm' h4 => ?_
    array_get_dec
    have eL := passes_eq ok ok' (wd_P hwL (by omega))
    have eS := passes_eq ok ok' (wd_P hwS (by omega))
    have eM1 := passes_eq ok ok' (wd_P hf1 (by omega))
    have eM0 := passes_eq ok ok' (wd_P hf0 (by omega))
    have eC := passes_eq ok ok' (wd_P hcw (by omega))
    have eB := passes_eq ok' ok (wd_P hwL (by omega))
    have eLL := passes_eq ok ok (wd_P hwL (by omega))
    have hall : ∀ (A B : List (List Nat)), (∀ w ∈ A, w ∈ B) → (B.all fun w => decide (ans m 0 w = ans m' 0 w)) = true → (A.all fun w => decide (ans m 0 w = ans m' 0 w)) = true := fun A B hs hB => List.all_eq_true.mpr fun w hw => List.all_eq_true.mp hB w (hs w hw)
    have iLS := hall SU LG hSL
    have iMF := hall F0 F1 h01
    have iMC := hall CV F1 fun w hw => h01 w (hc0 w hw)
    have eBL : (LG.all fun w => decide (ans m' 0 w = ans m 0 w)) = LG.all fun w => decide (ans m 0 w = ans m' 0 w) := by
      congr 1
      funext w
      exact decide_eq_decide.mpr ⟨Eq.symm, Eq.symm⟩
    have eTT : (LG.all fun w => decide (ans m 0 w = ans m 0 w)) = true := List.all_eq_true.mpr fun w _ => decide_eq_true rfl
    rw [eBL] at eB
    rw [eTT] at eLL
    generalize (LG.all fun w => decide (ans m 0 w = ans m' 0 w)) = bL at *
    generalize (SU.all fun w => decide (ans m 0 w = ans m' 0 w)) = bS at *
    generalize (F1.all fun w => decide (ans m 0 w = ans m' 0 w)) = bM at *
    generalize (F0.all fun w => decide (ans m 0 w = ans m' 0 w)) = bF at *
    generalize (CV.all fun w => decide (ans m 0 w = ans m' 0 w)) = bC at *
    refine ws_join (fun o => o = .nx [some (.scr (ns.map D.int)), some (.ref 1), some (eI k), some (eM m), some (eP CV), some (.tup ((sortF eI ks).map eI)), d6, d7, d8, d9, some (eP F0), some (eP F1), some (eP SU), some (eP LG), some (.lst ((SL.filter (pU k m SU)).map eQ)), some (eM m'), d16, d17] (HpP a4 xs [])) (ws_if ?_) ?_
    · array_get_dec
      refine cp (by simp only [nrA, nr_M, nr_P, nr_W, nr_I, nr_Q, nr_S, nr_R, D.nr, Bool.and_self, Bool.and_true]) eL ?_
      array_get_dec
      refine ⟨_, is_tt _ _ _, ifd (fun h => ?_) (fun h => iff0 ?_)⟩
      · array_get_dec
        refine cp (by simp only [nrA, nr_M, nr_P, nr_W, nr_I, nr_Q, nr_S, nr_R, D.nr, Bool.and_self, Bool.and_true]) eS ?_
        array_get_dec
        refine ⟨_, not_tt _ _ _, ifn (fun hn => absurd (iLS h) hn) (fun _ => ?_)⟩
        array_get_dec
        rfl
      · array_get_dec
        rfl
    rintro _ rfl
    array_get_dec
    refine ws_join (fun o => o = .nx [some (.scr (ns.map D.int)), some (.ref 1), some (eI k), some (eM m), some (eP CV), some (.tup ((sortF eI ks).map eI)), d6, d7, d8, d9, some (eP F0), some (eP F1), some (eP SU), some (eP LG), some (.lst ((SL.filter (pU k m SU)).map eQ)), some (eM m'), d16, d17] (HpP a4 xs [])) (ws_if ?_) ?_
    · array_get_dec
      refine cp (by simp only [nrA, nr_M, nr_P, nr_W, nr_I, nr_Q, nr_S, nr_R, D.nr, Bool.and_self, Bool.and_true]) eM1 ?_
      array_get_dec
      refine ⟨_, is_tt _ _ _, ifd (fun h => ?_) (fun h => iff0 ?_)⟩
      · array_get_dec
        refine cp (by simp only [nrA, nr_M, nr_P, nr_W, nr_I, nr_Q, nr_S, nr_R, D.nr, Bool.and_self, Bool.and_true]) eM0 ?_
        array_get_dec
        refine ⟨_, not_tt _ _ _, ifn (fun hn => absurd (iMF h) hn) (fun _ => ?_)⟩
        array_get_dec
        refine cp (by simp only [nrA, nr_M, nr_P, nr_W, nr_I, nr_Q, nr_S, nr_R, D.nr, Bool.and_self, Bool.and_true]) eC ?_
        array_get_dec
        refine ⟨_, not_tt _ _ _, ifn (fun hn => absurd (iMC h) hn) (fun _ => ?_)⟩
        array_get_dec
        rfl
      · array_get_dec
        rfl
    rintro _ rfl
    array_get_dec
    refine ws_if ?_
    array_get_dec
    refine cp (by simp only [nrA, nr_M, nr_P, nr_W, nr_I, nr_Q, nr_S, nr_R, D.nr, Bool.and_self, Bool.and_true]) (is_suite_eq hk0 (by omega) (fun w hw => ⟨(hwL w hw).1, by have := (hwL w hw).2; omega⟩) hrise) ?_
    array_get_dec
    refine ⟨_, is_tt _ _ _, ifd (fun _ => ?_) (fun h => absurd rfl h)⟩
    array_get_dec
    refine cp (by simp only [nrA, nr_M, nr_P, nr_W, nr_I, nr_Q, nr_S, nr_R, D.nr, Bool.and_self, Bool.and_true]) eB ?_
    array_get_dec
    refine cp (by simp only [nrA, nr_M, nr_P, nr_W, nr_I, nr_Q, nr_S, nr_R, D.nr, Bool.and_self, Bool.and_true]) eL ?_
    array_get_dec
    refine ⟨_, is_tt _ _ _, ?_⟩
    array_get_dec
    refine cp (by simp only [nrA, D.nr, Bool.and_self]) (law_is_eq _ _) ?_
    refine ⟨_, rfl, ?_⟩
    rw [show (!decide (bL = decide (bL = true))) = false by cases bL <;> rfl]
    refine iff0 ?_
    array_get_dec
    refine cp (by simp only [nrA, nr_M, nr_P, nr_W, nr_I, nr_Q, nr_S, nr_R, D.nr, Bool.and_self, Bool.and_true]) eLL ?_
    array_get_dec
    refine ⟨_, is_tt _ _ _, ift ?_⟩
    array_get_dec
    rcases are_same_eq ok ok with ⟨_, e⟩ | ⟨h, _⟩
    · refine cp (by simp only [nrA, nr_M, nr_P, nr_W, nr_I, nr_Q, nr_S, nr_R, D.nr, Bool.and_self, Bool.and_true]) e ?_
      array_get_dec
      refine ⟨_, is_tt _ _ _, ?_⟩
      array_get_dec
      exact ⟨_, _, _, rfl, fz_nr rfl, rfl⟩
    · exact absurd (fun w _ => rfl) h
  obtain ⟨c, e, rfl⟩ := this
  exact e
end K43
open PySem PySem.W PyProof.Rows
set_option maxHeartbeats 0 in
theorem PySem.Challenge.cw_toldbytrials_k43_whole_covers_and_growin_holds : PySem.Challenge.rw_toldbytrials_k43_whole_covers_and_growin.Holds := by
  w_on; o_law; k_head; (case hw => w_witness2)
  k_fill
  refine L2.walk_of (l := PySem.Challenge.rw_toldbytrials_k43_whole_covers_and_growin) (n := 63) (k := 6) (x := "script") (CX := fun _ => L2.CX0) (sp := fun w => K43.spLaw _) rfl (by decide) rfl ⟨rfl, by decide, by decide⟩ (fun w h Y => PySem.W.kIn_of Y) ?F (fun _ _ a ns hl _ hS => ⟨a, ns, rfl, hS, hl, fun _ => rfl⟩) (fun _ _ _ _ _ h => h)
  case F =>
    intro w mg fa h KX G hmg
    refine' K43.all_mk KX G hmg K43.law_true ?z_all ?z_any ?z_bool ?z_enumerate ?z_int ?z_isinstance ?z_len ?z_list ?z_max ?z_min ?z_range ?z_sorted ?z_tuple ?c_ALIKE ?c_LONGEST ?c_MOST_ANSWERS ?c_MOST_WORDS ?c_WORD ?a_is_integer ?l_is_integer ?d_is_integer ?k_is_integer ?a_is_number ?l_is_number ?d_is_number ?k_is_number ?a_is_ascending ?l_is_ascending ?d_is_ascending ?k_is_ascending ?a_letters_of ?l_letters_of ?d_letters_of ?k_letters_of ?a_answers_of ?l_answers_of ?d_answers_of ?k_answers_of ?a_trial ?l_trial ?d_trial ?k_trial ?a_ways ?l_ways ?d_ways ?k_ways ?a_reached ?l_reached ?d_reached ?k_reached ?a_way_to ?l_way_to ?d_way_to ?k_way_to ?a_words_of ?l_words_of ?d_words_of ?k_words_of ?a_is_word ?l_is_word ?d_is_word ?k_is_word ?a_pair_paper ?l_pair_paper ?d_pair_paper ?k_pair_paper ?a_are_alike ?l_are_alike ?d_are_alike ?k_are_alike ?a_parting_word ?l_parting_word ?d_parting_word ?k_parting_word ?a_are_same ?l_are_same ?d_are_same ?k_are_same ?a_is_suite ?l_is_suite ?d_is_suite ?k_is_suite ?a_passes ?l_passes ?d_passes ?k_passes ?a_first_fail ?l_first_fail ?d_first_fail ?k_first_fail ?a_cover_of ?l_cover_of ?d_cover_of ?k_cover_of ?a_telling_set ?l_telling_set ?d_telling_set ?k_telling_set ?a_full_suite ?l_full_suite ?d_full_suite ?k_full_suite ?a_is_longer ?l_is_longer ?d_is_longer ?k_is_longer ?a_trimmed ?l_trimmed ?d_trimmed ?k_trimmed ?a_with_slip ?l_with_slip ?d_with_slip ?k_with_slip ?a_slips_of ?l_slips_of ?d_slips_of ?k_slips_of ?a_untold_slips ?l_untold_slips ?d_untold_slips ?k_untold_slips ?a_p_law_cell ?l_p_law_cell ?d_p_law_cell ?k_p_law_cell ?a_p_law_numbers ?l_p_law_numbers ?d_p_law_numbers ?k_p_law_numbers ?a_p_law_pool ?l_p_law_pool ?d_p_law_pool ?k_p_law_pool ?a_p_law_draw ?l_p_law_draw ?d_p_law_draw ?k_p_law_draw ?a_p_law_is ?l_p_law_is ?d_p_law_is ?k_p_law_is ?a_p_law_table ?l_p_law_table ?d_p_law_table ?k_p_law_table ?a_p_law_doubled ?l_p_law_doubled ?d_p_law_doubled ?k_p_law_doubled ?a_p_law_machine ?l_p_law_machine ?d_p_law_machine ?k_p_law_machine ?a_p_law_changed ?l_p_law_changed ?d_p_law_changed ?k_p_law_changed ?a_p_law_word ?l_p_law_word ?d_p_law_word ?k_p_law_word ?a_p_law_once ?l_p_law_once ?d_p_law_once ?k_p_law_once ?a_p_law_suite ?l_p_law_suite ?d_p_law_suite ?k_p_law_suite ?a_law ?l_law ?d_law ?k_law
    (case z_all => k_is); (case z_any => k_is); (case z_bool => k_is); (case z_enumerate => k_is); (case z_int => k_is); (case z_isinstance => k_is); (case z_len => k_is); (case z_list => k_is); (case z_max => k_is); (case z_min => k_is); (case z_range => k_is); (case z_sorted => k_is); (case z_tuple => k_is); (case c_ALIKE => k_is); (case c_LONGEST => k_is); (case c_MOST_ANSWERS => k_is); (case c_MOST_WORDS => k_is); (case c_WORD => k_is); (case a_is_integer => k_is); (case l_is_integer => k_is); (case d_is_integer => k_is); (case k_is_integer => k_is); (case a_is_number => k_is); (case l_is_number => k_is); (case d_is_number => k_is); (case k_is_number => k_is); (case a_is_ascending => k_is); (case l_is_ascending => k_is); (case d_is_ascending => k_is); (case k_is_ascending => k_is); (case a_letters_of => k_is); (case l_letters_of => k_is); (case d_letters_of => k_is); (case k_letters_of => k_is); (case a_answers_of => k_is); (case l_answers_of => k_is); (case d_answers_of => k_is); (case k_answers_of => k_is); (case a_trial => k_is); (case l_trial => k_is); (case d_trial => k_is); (case k_trial => k_is); (case a_ways => k_is); (case l_ways => k_is); (case d_ways => k_is); (case k_ways => k_is); (case a_reached => k_is); (case l_reached => k_is); (case d_reached => k_is); (case k_reached => k_is); (case a_way_to => k_is); (case l_way_to => k_is); (case d_way_to => k_is); (case k_way_to => k_is); (case a_words_of => k_is); (case l_words_of => k_is); (case d_words_of => k_is); (case k_words_of => k_is); (case a_is_word => k_is); (case l_is_word => k_is); (case d_is_word => k_is); (case k_is_word => k_is); (case a_pair_paper => k_is); (case l_pair_paper => k_is); (case d_pair_paper => k_is); (case k_pair_paper => k_is); (case a_are_alike => k_is); (case l_are_alike => k_is); (case d_are_alike => k_is); (case k_are_alike => k_is); (case a_parting_word => k_is); (case l_parting_word => k_is); (case d_parting_word => k_is); (case k_parting_word => k_is); (case a_are_same => k_is); (case l_are_same => k_is); (case d_are_same => k_is); (case k_are_same => k_is); (case a_is_suite => k_is); (case l_is_suite => k_is); (case d_is_suite => k_is); (case k_is_suite => k_is); (case a_passes => k_is); (case l_passes => k_is); (case d_passes => k_is); (case k_passes => k_is); (case a_first_fail => k_is); (case l_first_fail => k_is); (case d_first_fail => k_is); (case k_first_fail => k_is); (case a_cover_of => k_is); (case l_cover_of => k_is); (case d_cover_of => k_is); (case k_cover_of => k_is); (case a_telling_set => k_is); (case l_telling_set => k_is); (case d_telling_set => k_is); (case k_telling_set => k_is); (case a_full_suite => k_is); (case l_full_suite => k_is); (case d_full_suite => k_is); (case k_full_suite => k_is); (case a_is_longer => k_is); (case l_is_longer => k_is); (case d_is_longer => k_is); (case k_is_longer => k_is); (case a_trimmed => k_is); (case l_trimmed => k_is); (case d_trimmed => k_is); (case k_trimmed => k_is); (case a_with_slip => k_is); (case l_with_slip => k_is); (case d_with_slip => k_is); (case k_with_slip => k_is); (case a_slips_of => k_is); (case l_slips_of => k_is); (case d_slips_of => k_is); (case k_slips_of => k_is); (case a_untold_slips => k_is); (case l_untold_slips => k_is); (case d_untold_slips => k_is); (case k_untold_slips => k_is); (case a_p_law_cell => k_is); (case l_p_law_cell => k_is); (case d_p_law_cell => k_is); (case k_p_law_cell => k_is); (case a_p_law_numbers => k_is); (case l_p_law_numbers => k_is); (case d_p_law_numbers => k_is); (case k_p_law_numbers => k_is); (case a_p_law_pool => k_is); (case l_p_law_pool => k_is); (case d_p_law_pool => k_is); (case k_p_law_pool => k_is); (case a_p_law_draw => k_is); (case l_p_law_draw => k_is); (case d_p_law_draw => k_is); (case k_p_law_draw => k_is); (case a_p_law_is => k_is); (case l_p_law_is => k_is); (case d_p_law_is => k_is); (case k_p_law_is => k_is); (case a_p_law_table => k_is); (case l_p_law_table => k_is); (case d_p_law_table => k_is); (case k_p_law_table => k_is); (case a_p_law_doubled => k_is); (case l_p_law_doubled => k_is); (case d_p_law_doubled => k_is); (case k_p_law_doubled => k_is); (case a_p_law_machine => k_is); (case l_p_law_machine => k_is); (case d_p_law_machine => k_is); (case k_p_law_machine => k_is); (case a_p_law_changed => k_is); (case l_p_law_changed => k_is); (case d_p_law_changed => k_is); (case k_p_law_changed => k_is); (case a_p_law_word => k_is); (case l_p_law_word => k_is); (case d_p_law_word => k_is); (case k_p_law_word => k_is); (case a_p_law_once => k_is); (case l_p_law_once => k_is); (case d_p_law_once => k_is); (case k_p_law_once => k_is); (case a_p_law_suite => k_is); (case l_p_law_suite => k_is); (case d_p_law_suite => k_is); (case k_p_law_suite => k_is); (case a_law => k_is); (case l_law => k_is); (case d_law => k_is); (case k_law => k_is)
