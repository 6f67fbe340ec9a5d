import PyProof.Rows.All
import Wide.All
import OpenK.AllK
import Wide.FinOn
import HandS.ForMost
import HandS.ForExc
import HandS.Walk
import HandS.IsInst
import HandS.TupAny
import HandS.Deep
import HandS.DictTup
import HandS.SortInts
import HandS.TupSets
import HandS.Conv
import HandS.TupLen
import HandS.Style
import HandS.TupLe
import HandS.SetKeys
import PyProof.DictMoreH
import KE.SortData
import HandS.More
import HandS.ExcOwn
import HandS.TryMany
import HandS.SlotsOwn
import PyProof.InstEq
import KE.GoesEnum
import HandS.DictComp
import HandS.Iter
import HandS.TupMul
import HandS.Zip
import HandS.ExcIs
import KE.RegKIsAll
import HandS.ExcField
import PySem.Challenge.RW_falsedays_k29_whole_facts_hold
set_option Elab.async false
set_option linter.all false
set_option maxRecDepth 100000
namespace Mi
open PySem PySem.Spec PyProof.Rows L2

/-! ## values as data -/
inductive D where
  | non | bl (b : Bool) | int (i : Int) | str (s : Str)
  | tup (xs : List D) | lst (xs : List D) | dic (t : Bool) (ks vs : List D)
  | obj (c : Str) (ns : List Str) (vs : List D) | glo (x : Str) | ty (n : String)
instance : Inhabited D := ⟨.non⟩

/-- the key of a dict, as HandS has it -/
def keyOf : D → Option Key
  | .int i => some (.inl i)
  | .str s => some (.inr s)
  | _ => none
def keysOf : List D → Option (List Key)
  | [] => some []
  | d :: ds => match keyOf d, keysOf ds with
    | some k, some r => some (k :: r)
    | _, _ => none
def tkeyOf : D → Option (List Key)
  | .tup ds => keysOf ds
  | _ => none
def tkeysOf : List D → Option (List (List Key))
  | [] => some []
  | d :: ds => match tkeyOf d, tkeysOf ds with
    | some k, some r => some (k :: r)
    | _, _ => none

abbrev MG := Str → Option Value
/-- a dict's pairs: t tells whether its keys are tuples -/
def DicH (R : HO → Prop) (t : Bool) (ks : List D) (us : List V) : Prop := match t with
  | false => ∃ kk, keysOf ks = some kk ∧ kk.length = us.length ∧ R (.dK (kk.zip us))
  | true => ∃ kk, tkeysOf ks = some kk ∧ kk.length = us.length ∧ R (.dT (kk.zip us))
theorem DicH.imp {R R' : HO → Prop} {t : Bool} {ks : List D} {us : List V} (i : ∀ o, R o → R' o) (h : DicH R t ks us) : DicH R' t ks us := by
  cases t with
  | false => obtain ⟨kk, a, b, c⟩ := h; exact ⟨kk, a, b, i _ c⟩
  | true => obtain ⟨kk, a, b, c⟩ := h; exact ⟨kk, a, b, i _ c⟩
theorem DicH.some {R : HO → Prop} {t : Bool} {ks : List D} {us : List V} (h : DicH R t ks us) : ∃ o, R o := by
  cases t with
  | false => obtain ⟨kk, a, b, c⟩ := h; exact ⟨_, c⟩
  | true => obtain ⟨kk, a, b, c⟩ := h; exact ⟨_, c⟩
mutual
/-- v is the datum d in the heap H -/
def Fz (K : PySem.W.Frag) (mg : MG) (H : Hp) : D → V → Prop
  | .non, v => v = .non
  | .bl b, v => v = .bl b
  | .int i, v => v = .int i
  | .str s, v => v = .str s
  | .tup ds, v => ∃ a vs, v = .ref a ∧ H a = some (.tup vs) ∧ FzL K mg H ds vs
  | .lst ds, v => ∃ a vs, v = .ref a ∧ SqL K H a vs ∧ FzL K mg H ds vs
  | .dic t ks ws, v => ∃ a us, v = .ref a ∧ FzL K mg H ws us ∧ DicH (Rd H a) t ks us
  | .obj c ns ws, v => ∃ a C dx us, v = .ref a ∧ mg c = some (.ref C) ∧ H a = some (.ins C dx (ns.zip us)) ∧ ns.length = us.length ∧ FzL K mg H ws us
  | .glo x, v => ∃ a, v = .ref a ∧ mg x = some (.ref a)
  | .ty n, v => v = .ty n
def FzL (K : PySem.W.Frag) (mg : MG) (H : Hp) : List D → List V → Prop
  | [], vs => vs = []
  | d :: ds, vs => ∃ v r, vs = v :: r ∧ Fz K mg H d v ∧ FzL K mg H ds r
end
def isDct : HO → Bool
  | .dK _ => true
  | .dT _ => true
  | _ => false
/-- what can be read in H can be read in H' -/
structure Ex (H H' : Hp) : Prop where
  rd : ∀ a u, Rd H a u → Rd H' a u
  ex : ∀ a o, isDct o = false → H a = some o → H' a = some o
theorem Ex.of {H H' : Hp} (e : ∀ a o, H a = some o → H' a = some o) : Ex H H' :=
  ⟨fun a u h => h.elim (fun h => .inl (e _ _ h)) fun ⟨o, h⟩ => .inr ⟨o, e _ _ h⟩, fun a o' _ h => e _ _ h⟩
theorem Ex.refl (H : Hp) : Ex H H := .of fun _ _ h => h
theorem Ex.trans {H H1 H2 : Hp} (a : Ex H H1) (b : Ex H1 H2) : Ex H H2 := ⟨fun x u h => b.rd x u (a.rd x u h), fun x o hd h => b.ex x o hd (a.ex x o hd h)⟩
section
variable {K : PySem.W.Frag} {mg : MG} {H H' : Hp}
theorem Ex.sqL (e : Ex H H') {a : Addr} {xs : List V} (h : SqL K H a xs) : SqL K H' a xs := h.elim (fun h => .inl (e.rd _ _ h)) .inr
theorem Ex.sqT (e : Ex H H') {a : Addr} {xs : List V} (h : SqT K H a xs) : SqT K H' a xs := h.elim (fun h => .inl (e.rd _ _ h)) .inr
mutual
theorem Fz.mono (e : Ex H H') : ∀ (d : D) (v : V), Fz K mg H d v → Fz K mg H' d v
  | .non, _, h => h
  | .bl _, _, h => h
  | .int _, _, h => h
  | .str _, _, h => h
  | .glo _, _, h => h
  | .ty _, _, h => h
  | .tup ds, v, h => by
    obtain ⟨a, vs, h1, h2, h3⟩ := h
    exact ⟨a, vs, h1, e.ex _ _ rfl h2, FzL.mono e ds vs h3⟩
  | .lst ds, v, h => by
    obtain ⟨a, vs, h1, h2, h3⟩ := h
    exact ⟨a, vs, h1, e.sqL h2, FzL.mono e ds vs h3⟩
  | .dic t ks ws, v, h => by
    obtain ⟨a, us, h1, h2, h3⟩ := h
    exact ⟨a, us, h1, FzL.mono e ws us h2, h3.imp fun o => e.rd a o⟩
  | .obj c ns ws, v, h => by
    obtain ⟨a, C, dx, us, h1, h2, h3, h4, h5⟩ := h
    exact ⟨a, C, dx, us, h1, h2, e.ex _ _ rfl h3, h4, FzL.mono e ws us h5⟩
theorem FzL.mono (e : Ex H H') : ∀ (ds : List D) (vs : List V), FzL K mg H ds vs → FzL K mg H' ds vs
  | [], _, h => h
  | d :: ds, vs, h => by
    obtain ⟨v, r, h1, h2, h3⟩ := h
    exact ⟨v, r, h1, Fz.mono e d v h2, FzL.mono e ds r h3⟩
end
theorem Fz.ex {d : D} {v : V} (h : Fz K mg H d v) (e : Ex H H') : Fz K mg H' d v := Fz.mono e d v h
theorem FzL.ex {d : List D} {v : List V} (h : FzL K mg H d v) (e : Ex H H') : FzL K mg H' d v := FzL.mono e d v h
theorem FzL.length : ∀ {ds : List D} {vs : List V}, FzL K mg H ds vs → ds.length = vs.length
  | [], _, h => by
    have h : _ = [] := h
    rw [h]
    rfl
  | d :: ds, vs, h => by
    obtain ⟨v, r, rfl, _, h3⟩ := h
    simp [FzL.length h3]
theorem FzL.nil : FzL K mg H [] [] := rfl
theorem FzL.cons {d : D} {v : V} {ds : List D} {vs : List V} (h : Fz K mg H d v) (t : FzL K mg H ds vs) : FzL K mg H (d :: ds) (v :: vs) := ⟨v, vs, rfl, h, t⟩
theorem FzL.of_nil {vs : List V} (h : FzL K mg H [] vs) : vs = [] := h
theorem FzL.app : ∀ {ds es : List D} {vs us : List V}, FzL K mg H ds vs → FzL K mg H es us → FzL K mg H (ds ++ es) (vs ++ us)
  | [], _, vs, _, h, g => by
    have h : vs = [] := h
    subst h
    exact g
  | d :: ds, es, _, us, h, g => by
    obtain ⟨v, r, rfl, h2, h3⟩ := h
    exact ⟨v, r ++ us, rfl, h2, FzL.app h3 g⟩
theorem FzL.get : ∀ {ds : List D} {vs : List V} {i : Nat} {d : D}, FzL K mg H ds vs → ds[i]? = some d → ∃ v, vs[i]? = some v ∧ Fz K mg H d v
  | [], _, _, _, _, h => by simp at h
  | e :: ds, _, 0, d, h, g => by
    obtain ⟨v, r, rfl, h2, h3⟩ := h
    simp at g
    subst g
    exact ⟨v, rfl, h2⟩
  | e :: ds, _, i + 1, d, h, g => by
    obtain ⟨v, r, rfl, h2, h3⟩ := h
    exact FzL.get (i := i) h3 (by simpa using g)
theorem FzL.getV {ds : List D} {vs : List V} {i : Nat} {v : V} (h : FzL K mg H ds vs) (g : vs[i]? = some v) : ∃ d, ds[i]? = some d ∧ Fz K mg H d v := by
  have hl := h.length
  have hi : i < ds.length := by have := (List.getElem?_eq_some_iff.mp g).1; omega
  obtain ⟨v', e, f⟩ := h.get (List.getElem?_eq_getElem hi)
  rw [g] at e
  cases e
  exact ⟨_, List.getElem?_eq_getElem hi, f⟩
theorem FzL.of : ∀ {ds : List D} {vs : List V}, ds.length = vs.length → (∀ (i : Nat) d v, ds[i]? = some d → vs[i]? = some v → Fz K mg H d v) → FzL K mg H ds vs
  | [], [], _, _ => rfl
  | d :: ds, v :: vs, hl, h => ⟨v, vs, rfl, h 0 d v rfl rfl, FzL.of (by simpa using hl) fun i d' v' a b => h (i + 1) d' v' (by simpa using a) (by simpa using b)⟩
theorem FzL.take {ds : List D} {vs : List V} (h : FzL K mg H ds vs) (n : Nat) : FzL K mg H (ds.take n) (vs.take n) := by
  refine .of (by simp [h.length]) fun i d v a b => ?_
  rw [List.getElem?_take] at a b
  split at a
  · rename_i hi
    rw [if_pos hi] at b
    obtain ⟨v', e, f⟩ := h.get a
    rw [b] at e; cases e; exact f
  · cases a
theorem FzL.drop {ds : List D} {vs : List V} (h : FzL K mg H ds vs) (n : Nat) : FzL K mg H (ds.drop n) (vs.drop n) := by
  refine .of (by simp [h.length]) fun i d v a b => ?_
  rw [List.getElem?_drop] at a b
  obtain ⟨v', e, f⟩ := h.get a
  rw [b] at e; cases e; exact f
theorem FzL.set {ds : List D} {vs : List V} (h : FzL K mg H ds vs) (n : Nat) {d : D} {v : V} (hd : Fz K mg H d v) : FzL K mg H (ds.set n d) (vs.set n v) := by
  refine .of (by simp [h.length]) fun i d' v' a b => ?_
  rw [List.getElem?_set] at a b
  split at a
  · rename_i e
    rw [if_pos e] at b
    split at a <;> simp at a
    split at b <;> simp at b
    subst a; subst b; exact hd
  · rename_i e
    rw [if_neg e] at b
    obtain ⟨v'', e', f⟩ := h.get a
    rw [b] at e'; cases e'; exact f
end
end Mi

set_option Elab.async false
set_option linter.all false
set_option maxRecDepth 100000
namespace Mi
open PySem PySem.Spec PyProof.Rows L2

/-! ## slots, results -/
/-- an exception: its class, its attributes -/
structure Xc where
  c : Str
  ns : List Str
  vs : List D
/-- where a caught exception is -/
structure XA where
  a : Addr
  d : Option Addr
  c : Value
inductive Sl where
  | dead | fz (d : D) | ol (ds : List D) | od (t : Bool) (ks ws : List D) | io (ds : List D) | xc (q : XA) (x : Xc)
abbrev Env := List Sl
inductive Rs (α : Type) where
  | bad | exc (x : Xc) (env : Env) | ok (a : α)
inductive PR where
  | bad | exc (x : Xc) | ok (d : D)
inductive Fl where
  | nx | br | ct | rt (d : D) | ro (ds : List D)
def Rs.bind {α β : Type} : Rs α → (α → Rs β) → Rs β
  | .bad, _ => .bad
  | .exc x e, _ => .exc x e
  | .ok a, f => f a
@[simp] theorem Rs.bind_ok {α β : Type} (a : α) (f : α → Rs β) : (Rs.ok a).bind f = f a := rfl
@[simp] theorem Rs.bind_bad {α β : Type} (f : α → Rs β) : (Rs.bad : Rs α).bind f = .bad := rfl
@[simp] theorem Rs.bind_exc {α β : Type} (x : Xc) (e : Env) (f : α → Rs β) : (Rs.exc x e : Rs α).bind f = .exc x e := rfl
/-- a pure function's result where the Env is e -/
def PR.at (e : Env) : PR → Rs (D × Env)
  | .bad => .bad
  | .exc x => .exc x e
  | .ok d => .ok (d, e)
def optR {α : Type} (e : Env) : Option α → Rs (α × Env)
  | none => .bad
  | some a => .ok (a, e)
@[simp] theorem PR.at_ok (e : Env) (d : D) : (PR.ok d).at e = .ok (d, e) := rfl
@[simp] theorem PR.at_exc (e : Env) (x : Xc) : (PR.exc x).at e = .exc x e := rfl
@[simp] theorem optR_some {α : Type} (e : Env) (a : α) : optR e (some a) = .ok (a, e) := rfl
abbrev ME := Env → Rs (D × Env)
abbrev MT := Env → Rs (Bool × Env)
abbrev MA := Env → Rs (List D × Env)
abbrev MS := Env → Rs (Fl × Env)

/-! ## the state -/
structure Base where
  F0 : Hp
  H0 : Hp
  io : List Addr
/-- the attributes of an exception -/
def ExcAt (K : PySem.W.Frag) (mg : MG) (F H : Hp) (x : Xc) (d : Option Addr) : Prop :=
  (x.ns = [] ∧ d = none) ∨ ∃ dx us, x.ns ≠ [] ∧ d = some dx ∧ H dx = some (.xd (x.ns.zip us)) ∧ x.ns.length = us.length ∧ FzL K mg F x.vs us
section
variable (K : PySem.W.Frag) (mg : MG) (B : Base) (F H : Hp)
def SlOk : Sl → Option V → Prop
  | .dead, _ => True
  | .fz d, o => ∃ v, o = some v ∧ Fz K mg F d v
  | .ol ds, o => ∃ p vs, o = some (.ref p) ∧ F p = none ∧ B.H0 p = none ∧ H p = some (.lst vs) ∧ FzL K mg F ds vs
  | .od t ks ws, o => ∃ p us, o = some (.ref p) ∧ F p = none ∧ B.H0 p = none ∧ DicH (fun o => H p = some o) t ks us ∧ FzL K mg F ws us
  | .io ds, o => ∃ p vs, o = some (.ref p) ∧ F p = none ∧ p ∈ B.io ∧ H p = some (.lst vs) ∧ FzL K mg F ds vs
  | .xc q x, o => o = some (.ref q.a) ∧ mg x.c = some q.c ∧ ExcAt K mg F H x q.d
end
def slotV (σ : L2.St) (i : Nat) : Option V := (show Option (Option V) from (show List (Option V) from σ)[i]?).join
def Sl.owned : Sl → Bool
  | .ol _ => true
  | .od _ _ _ => true
  | .io _ => true
  | _ => false
def OwnAt (env : Env) (σ : L2.St) (i : Nat) (p : Addr) : Prop := σ[i]? = some (some (.ref p)) ∧ ∃ s, env[i]? = some s ∧ s.owned = true
structure Sta (K : PySem.W.Frag) (mg : MG) (B : Base) (F : Hp) (env : Env) (σ : L2.St) (H : Hp) : Prop where
  f0 : Ex B.F0 F
  fH : Ex F H
  new : ∀ a, B.H0 a ≠ none → B.F0 a = none → F a = none
  kee : ∀ a o, B.H0 a = some o → a ∉ B.io → H a = some o
  ios : ∀ a ∈ B.io, H a ≠ none
  len : env.length = σ.length
  sl : ∀ i s, env[i]? = some s → SlOk K mg B F H s (slotV σ i)
  own : ∀ i j p, OwnAt env σ i p → OwnAt env σ j p → i = j
  ioh : ∀ a ∈ B.io, B.H0 a ≠ none
/-- from (F, H) on: what stands is kept but for the addresses io -/
structure Step (io : List Addr) (F H F' H' : Hp) : Prop where
  fF : Ex F F'
  fH : Ex F' H'
  kH : ∀ a o, H a = some o → a ∉ io → H' a = some o
  new : ∀ a, H a ≠ none → F a = none → F' a = none

theorem Step.refl {io : List Addr} {F H : Hp} (h : Ex F H) : Step io F H F H := ⟨Ex.refl F, h, fun _ _ e _ => e, fun _ _ e => e⟩
theorem Step.trans {io : List Addr} {F H F1 H1 F2 H2 : Hp} (a : Step io F H F1 H1) (hio : ∀ p ∈ io, H1 p ≠ none) (b : Step io F1 H1 F2 H2) : Step io F H F2 H2 := by
  refine ⟨a.fF.trans b.fF, b.fH, fun p o e n => b.kH p o (a.kH p o e n) n, fun p e n => ?_⟩
  by_cases hp : p ∈ io
  · exact b.new p (hio p hp) (a.new p e n)
  · cases q : H p with
    | none => exact absurd q e
    | some o =>
      refine b.new p ?_ (a.new p e n)
      rw [a.kH p o q hp]; simp
section
variable {K : PySem.W.Frag} {mg : MG} {B : Base} {F H F' H' : Hp} {env : Env} {σ : L2.St}
theorem ExcAt.keep {x : Xc} {d : Option Addr} (e : Ex F F') (k : ∀ dx fs, H dx = some (.xd fs) → H' dx = some (.xd fs)) (h : ExcAt K mg F H x d) : ExcAt K mg F' H' x d := by
  rcases h with h | ⟨dx, us, h1, h2, h3, h4, h5⟩
  · exact .inl h
  · exact .inr ⟨dx, us, h1, h2, k _ _ h3, h4, h5.ex e⟩
theorem SlOk.step {s : Sl} {o : Option V} (st : Step [] F H F' H') (h : SlOk K mg B F H s o) : SlOk K mg B F' H' s o := by
  cases s with
  | dead => trivial
  | fz d => obtain ⟨v, e, f⟩ := h; exact ⟨v, e, f.ex st.fF⟩
  | ol ds =>
    obtain ⟨p, vs, e, h1, h2, h3, h4⟩ := h
    exact ⟨p, vs, e, st.new p (by rw [h3]; simp) h1, h2, st.kH p _ h3 (by simp), h4.ex st.fF⟩
  | od t ks ws =>
    obtain ⟨p, us, e, h1, h2, h3, h4⟩ := h
    refine ⟨p, us, e, ?_, h2, h3.imp fun o q => st.kH p o q (by simp), h4.ex st.fF⟩
    obtain ⟨o, q⟩ := h3.some
    exact st.new p (by rw [q]; simp) h1
  | io ds =>
    obtain ⟨p, vs, e, h1, h2, h3, h4⟩ := h
    exact ⟨p, vs, e, st.new p (by rw [h3]; simp) h1, h2, st.kH p _ h3 (by simp), h4.ex st.fF⟩
  | xc q x => exact ⟨h.1, h.2.1, h.2.2.keep st.fF fun dx fs z => st.kH dx _ z (by simp)⟩
/-- new things are laid: the state stands -/
theorem Sta.step (s : Sta K mg B F env σ H) (st : Step [] F H F' H') : Sta K mg B F' env σ H' where
  f0 := s.f0.trans st.fF
  fH := st.fH
  new := fun a h1 h2 => by
    have hF := s.new a h1 h2
    by_cases ha : H a = none
    · by_cases hio : a ∈ B.io
      · exact absurd ha (s.ios a hio)
      · cases q : B.H0 a with
        | none => exact absurd q h1
        | some o => rw [s.kee a o q hio] at ha; cases ha
    · exact st.new a ha hF
  kee := fun a o e n => st.kH a o (s.kee a o e n) (by simp)
  ios := fun a ha => by
    cases q : H a with
    | none => exact absurd q (s.ios a ha)
    | some o => rw [st.kH a o q (by simp)]; simp
  len := s.len
  sl := fun i x e => (s.sl i x e).step st
  own := s.own
  ioh := s.ioh
/-- one new object at p -/
theorem Step.laid {p : Addr} {o : HO} (h : Ex F H) (hp : H p = none) : Step [] F H (upd F p o) (upd H p o) := by
  have hF : F p = none := by
    cases q : F p with
    | none => rfl
    | some u =>
      rcases h.rd p u (.inl q) with z | ⟨_, z⟩ <;> rw [hp] at z <;> cases z
  refine ⟨.of fun a u e => ?_, ⟨fun a u r => ?_, fun a o' hd e => ?_⟩, fun a u e _ => ?_, fun a e n => ?_⟩
  · rw [upd_ne (ne_of_none e hF)]; exact e
  · by_cases ha : a = p
    · subst ha
      unfold Rd at r ⊢
      rw [upd_same] at r ⊢
      exact r
    · unfold Rd at r ⊢
      rw [upd_ne ha] at r ⊢
      exact h.rd a u r
  · by_cases ha : a = p
    · subst ha
      rw [upd_same] at e ⊢
      exact e
    · rw [upd_ne ha] at e ⊢
      exact h.ex a o' hd e
  · rw [upd_ne (ne_of_none e hp)]; exact e
  · have : a ≠ p := fun z => e (by rw [z]; exact hp)
    rw [upd_ne this]; exact n
end

/-! ## what holds behind a reading -/
abbrev WX := L2.WX
section
variable (K : PySem.W.Frag) (mg : MG) (W : WX) (B : Base) (F : Hp) (σ : L2.St)
def Pst {α : Type} (k : α → Env → Hp → Hp → Prop) : Rs (α × Env) → Prop
  | .bad => False
  | .exc x env' => ∀ F' H' d C, Sta K mg B F' env' σ H' → Ex F F' → ExcAt K mg F' H' x d → mg x.c = some (.ref C) → W (.ref C) d σ H'
  | .ok (a, env') => ∀ F' H', Sta K mg B F' env' σ H' → Ex F F' → k a env' F' H'
end
section
variable {K : PySem.W.Frag} {mg : MG} {W : WX} {B : Base} {F F' : Hp} {σ : L2.St} {α β : Type}
theorem Pst.mono {k : α → Env → Hp → Hp → Prop} {r : Rs (α × Env)} (e : Ex F F') (h : Pst K mg W B F σ k r) : Pst K mg W B F' σ k r := by
  cases r with
  | bad => exact h
  | exc x env' => exact fun F1 H1 d C s e1 => h F1 H1 d C s (e.trans e1)
  | ok p => exact fun F1 H1 s e1 => h F1 H1 s (e.trans e1)
theorem Pst.imp {k k' : α → Env → Hp → Hp → Prop} {r : Rs (α × Env)} (h : Pst K mg W B F σ k r) (hk : ∀ a env' F' H', Sta K mg B F' env' σ H' → Ex F F' → k a env' F' H' → k' a env' F' H') : Pst K mg W B F σ k' r := by
  cases r with
  | bad => exact h
  | exc x env' => exact h
  | ok p => exact fun F1 H1 s e1 => hk _ _ _ _ s e1 (h F1 H1 s e1)
theorem Pst.bind {k : β → Env → Hp → Hp → Prop} {r : Rs (α × Env)} {f : α × Env → Rs (β × Env)} (h : Pst K mg W B F σ k (r.bind f)) : Pst K mg W B F σ (fun a env' F' H' => Pst K mg W B F' σ k (f (a, env'))) r := by
  cases r with
  | bad => exact h
  | exc x env' => exact h
  | ok p => exact fun F1 H1 s e1 => Pst.mono e1 h
end

/-! ## readings -/
section
variable (K : PySem.W.Frag) (mg : MG) (W : WX)
def tM (m : ME) : TE := fun σ H Q => ∃ B F env, Sta K mg B F env σ H ∧ Pst K mg W B F σ (fun d _ F' H' => ∀ v, Fz K mg F' d v → Q v H') (m env)
def tMT (m : MT) : TT := fun σ H Q => ∃ B F env, Sta K mg B F env σ H ∧ Pst K mg W B F σ (fun b _ F' H' => Q b H') (m env)
def tMA (m : MA) : TA := fun σ H Q => ∃ B F env, Sta K mg B F env σ H ∧ Pst K mg W B F σ (fun ds _ F' H' => ∀ vs, FzL K mg F' ds vs → Q vs H') (m env)
/-- an owned list made by an expression -/
def tMO (m : MA) : TE := fun σ H Q => ∃ B F env, Sta K mg B F env σ H ∧ Pst K mg W B F σ (fun ds env' F' H' => ∀ p vs, (∀ i, ¬ OwnAt env' σ i p) → F' p = none → B.H0 p = none → p ∉ B.io → H' p = some (.lst vs) → FzL K mg F' ds vs → Q (.ref p) H') (m env)
def FlK (K : PySem.W.Frag) (mg : MG) (B : Base) (D : Ends) (σ : L2.St) (F' H' : Hp) : Fl → Prop
  | .nx => D.nx σ H'
  | .br => D.bk σ H'
  | .ct => D.ct σ H'
  | .rt d => ∀ v, Fz K mg F' d v → D.rt v H'
  | .ro ds => ∀ p vs, F' p = none → B.H0 p = none → p ∉ B.io → H' p = some (.lst vs) → FzL K mg F' ds vs → D.rt (.ref p) H'
/-- a statement may change the slots -/
def PstS (B : Base) (F : Hp) (D : Ends) : Rs (Fl × Env) → Prop
  | .bad => False
  | .exc x env' => ∀ F' σ' H' d C, Sta K mg B F' env' σ' H' → Ex F F' → ExcAt K mg F' H' x d → mg x.c = some (.ref C) → W (.ref C) d σ' H'
  | .ok (f, env') => ∀ F' σ' H', Sta K mg B F' env' σ' H' → Ex F F' → FlK K mg B D σ' F' H' f
def tMS (m : MS) : TS := fun D σ H => ∃ B F env, Sta K mg B F env σ H ∧ PstS K mg W B F D (m env)
end
theorem PstS.mono {K : PySem.W.Frag} {mg : MG} {W : WX} {B : Base} {F F' : Hp} {D : Ends} {r : Rs (Fl × Env)} (e : Ex F F') (h : PstS K mg W B F D r) : PstS K mg W B F' D r := by
  cases r with
  | bad => exact h
  | exc x env' => exact fun F1 s1 H1 d C s e1 => h F1 s1 H1 d C s (e.trans e1)
  | ok p => exact fun F1 s1 H1 s e1 => h F1 s1 H1 s (e.trans e1)
/-- a statement that begins with an expression -/
theorem PstS.bind {K : PySem.W.Frag} {mg : MG} {W : WX} {B : Base} {F : Hp} {D : Ends} {σ : L2.St} {α : Type} {r : Rs (α × Env)} {f : α × Env → Rs (Fl × Env)} (h : PstS K mg W B F D (r.bind f)) :
    Pst K mg W B F σ (fun a env' F' H' => PstS K mg W B F' D (f (a, env'))) r := by
  cases r with
  | bad => exact h
  | exc x env' => exact fun F1 H1 d C s e1 => h F1 σ H1 d C s e1
  | ok p => exact fun F1 H1 s e1 => PstS.mono e1 h

section
variable {X : Cx} {e : Expr} {es : List Expr} {st : Stmt} {sts : List Stmt}
theorem PE_imp {t t' : TE} (h : PE X e t) (i : ∀ σ H Q, t' σ H Q → t σ H Q) : PE X e t' := ⟨fun pins s σ H Q I q => h.run pins s σ H Q I (i σ H Q q)⟩
theorem PT_imp {t t' : TT} (h : PT X e t) (i : ∀ σ H Q, t' σ H Q → t σ H Q) : PT X e t' := ⟨fun pins s σ H Q I q => h.run pins s σ H Q I (i σ H Q q)⟩
theorem PA_imp {t t' : TA} (h : PA X es t) (i : ∀ σ H Q, t' σ H Q → t σ H Q) : PA X es t' := ⟨fun pos pins s σ H Q I q => h.run pos pins s σ H Q I (i σ H Q q)⟩
theorem PS_imp {t t' : TS} (h : PS X st t) (i : ∀ D σ H, t' D σ H → t D σ H) : PS X st t' := ⟨fun pins s σ H D I q => h.run pins s σ H D I (i D σ H q)⟩
theorem PSs_imp {t t' : TS} (h : PSs X sts t) (i : ∀ D σ H, t' D σ H → t D σ H) : PSs X sts t' := ⟨fun pins s σ H D I q => h.run pins s σ H D I (i D σ H q)⟩
end
end Mi

set_option Elab.async false
set_option linter.all false
set_option maxRecDepth 100000
namespace Mi
open PySem PySem.Spec PyProof.Rows L2

/-! ## operands: a name is read where the operation takes place -/
def peekS : Sl → Option D
  | .dead => none
  | .fz d => some d
  | .ol ds => some (.lst ds)
  | .io ds => some (.lst ds)
  | .od t ks ws => some (.dic t ks ws)
  | .xc _ _ => none
def peek (env : Env) (i : Nat) : Option D := (env[i]?).bind peekS
inductive Opd where
  | v (i : Nat) | m (f : ME) | c (d : D)
def Opd.run : Opd → Env → Rs (Option D × Env)
  | .v i, env => match peek env i with
    | some _ => .ok (none, env)
    | none => .bad
  | .m f, env => (f env).bind fun (d, e) => .ok (some d, e)
  | .c d, env => .ok (some d, env)
def Opd.get : Opd → Option D → Env → Option D
  | .v i, _, env => peek env i
  | _, o, _ => o

section
variable (K : PySem.W.Frag) (mg : MG) (F H : Hp)
/-- d at v, its top read in H, what it holds in F -/
def Fb : D → V → Prop
  | .lst ds, v => ∃ a vs, v = .ref a ∧ SqL K H a vs ∧ FzL K mg F ds vs
  | .dic t ks ws, v => ∃ a us, v = .ref a ∧ FzL K mg F ws us ∧ DicH (Rd H a) t ks us
  | d, v => Fz K mg F d v
end
section
variable {K : PySem.W.Frag} {mg : MG} {F H F' H' : Hp} {d : D} {v : V} {W : WX} {B : Base} {σ : L2.St} {env : Env}
theorem Fz.fb (h : Fz K mg F d v) (e : Ex F H) : Fb K mg F H d v := by
  cases d with
  | lst ds => obtain ⟨a, vs, h1, h2, h3⟩ := h; exact ⟨a, vs, h1, e.sqL h2, h3⟩
  | dic t ks ws =>
    obtain ⟨a, us, h1, h2, h3⟩ := h
    exact ⟨a, us, h1, h2, h3.imp fun o => e.rd a o⟩
  | _ => exact h
theorem Fb.fzH (h : Fb K mg F H d v) (e : Ex F H) : Fz K mg H d v := by
  cases d with
  | lst ds => obtain ⟨a, vs, h1, h2, h3⟩ := h; exact ⟨a, vs, h1, h2, h3.ex e⟩
  | dic t ks ws =>
    obtain ⟨a, us, h1, h2, h3⟩ := h
    exact ⟨a, us, h1, h2.ex e, h3⟩
  | _ => exact Fz.ex h e
theorem Sta.peek (s : Sta K mg B F env σ H) {i : Nat} (h : peek env i = some d) : ∃ v, σ[i]? = some (some v) ∧ Fb K mg F H d v := by
  unfold Mi.peek at h
  cases e : env[i]? with
  | none => rw [e] at h; cases h
  | some x =>
    rw [e] at h
    have hs := s.sl i x e
    have look : ∀ v, slotV σ i = some v → σ[i]? = some (some v) := fun v q => by
      unfold slotV at q
      cases q2 : (show List (Option V) from σ)[i]? with
      | none =>
        rw [show (show Option (Option V) from (show List (Option V) from σ)[i]?) = none from q2] at q
        cases q
      | some o =>
        rw [show (show Option (Option V) from (show List (Option V) from σ)[i]?) = some o from q2] at q
        have q : o = some v := q
        rw [← q]
    cases x with
    | dead => cases h
    | xc q x => cases h
    | fz d' =>
      cases h
      obtain ⟨v, hv, hf⟩ := hs
      exact ⟨v, look v hv, hf.fb s.fH⟩
    | ol ds =>
      cases h
      obtain ⟨p, vs, hv, _, _, h3, h4⟩ := hs
      exact ⟨_, look _ hv, p, vs, rfl, .inl (.inl h3), h4⟩
    | io ds =>
      cases h
      obtain ⟨p, vs, hv, _, _, h3, h4⟩ := hs
      exact ⟨_, look _ hv, p, vs, rfl, .inl (.inl h3), h4⟩
    | od t ks ws =>
      cases h
      obtain ⟨p, us, hv, _, _, h3, h4⟩ := hs
      exact ⟨_, look _ hv, p, us, rfl, h4, h3.imp fun o q => .inl q⟩
/-- what an operand's value is, as long as nothing is asked of it -/
def OpdV (K : PySem.W.Frag) (mg : MG) (σ : L2.St) (F : Hp) : Opd → Option D → V → Prop
  | .v i, _, v => σ[i]? = some (some v)
  | _, some d, v => Fz K mg F d v
  | _, none, _ => False
theorem OpdV.ex {o : Opd} {x : Option D} (h : OpdV K mg σ F o x v) (e : Ex F F') : OpdV K mg σ F' o x v := by
  cases o with
  | v i => exact h
  | m f => cases x with
    | none => exact h
    | some d => exact Fz.ex h e
  | c d' => cases x with
    | none => exact h
    | some d => exact Fz.ex h e
theorem OpdV.fb {o : Opd} {x : Option D} (h : OpdV K mg σ F o x v) (s : Sta K mg B F env σ H) (g : o.get x env = some d) : Fb K mg F H d v := by
  cases o with
  | v i =>
    obtain ⟨v', e, f⟩ := s.peek (show Mi.peek env i = some d from g)
    rw [show σ[i]? = some (some v) from h] at e
    cases e
    exact f
  | m f => cases x with
    | none => cases g
    | some d' => cases g; exact Fz.fb h s.fH
  | c d0 => cases x with
    | none => cases g
    | some d' => cases g; exact Fz.fb h s.fH
def tOpd (K : PySem.W.Frag) (mg : MG) (W : WX) (o : Opd) : TE := fun σ H Q => ∃ B F env, Sta K mg B F env σ H ∧ Pst K mg W B F σ (fun x _ F' H' => ∀ v, OpdV K mg σ F' o x v → Q v H') (o.run env)
end

section
variable {X : Cx} {W : WX} {e a b : Expr} {pos : Pos}
theorem se_v (i : Nat) {x : Str} {pos : Pos} (hN : X.N[i]? = some x := by rfl) (hv : Vis X.env.scope x := by first | exact Or.inl rfl | exact Or.inr (Or.inl rfl) | exact Or.inr (Or.inr rfl)) (hd : (x == ("__debug__" : Str)) = false := by decide)
    (hcd : (x == ("__classdict__" : Str)) = false := by decide) : PE X (.Name x pos) (tOpd X.K X.mg W (.v i)) := by
  refine PE_imp (pe_var hN hv hd hcd) fun σ H Q ⟨B, F, env, s, h⟩ => ?_
  unfold Opd.run at h
  simp only at h
  cases q : peek env i with
  | none => rw [q] at h; exact h.elim
  | some d =>
    rw [q] at h
    obtain ⟨v, e, _⟩ := s.peek q
    exact ⟨v, e, h F H s (Ex.refl F) v e⟩
theorem se_m {m : ME} (h : PE X e (tM X.K X.mg W m)) : PE X e (tOpd X.K X.mg W (.m m)) := by
  refine PE_imp h fun σ H Q ⟨B, F, env, s, h⟩ => ⟨B, F, env, s, ?_⟩
  exact (Pst.bind (f := fun p => .ok (some p.1, p.2)) h).imp fun d env' F' H' s' e' k v hv => k F' H' s' (Ex.refl F') v hv
/-- a constant -/
def scalD : D → Option V
  | .non => some .non
  | .bl b => some (.bl b)
  | .int i => some (.int i)
  | .str s => some (.str s)
  | _ => none
theorem scalD_fz {K : PySem.W.Frag} {mg : MG} {F : Hp} {d : D} {v : V} (h : scalD d = some v) : Fz K mg F d v := by
  cases d <;> simp [scalD] at h <;> (subst h; rfl)
theorem se_cc {d : D} {v : V} (hd : scalD d = some v) (h : PE X e (tC v)) : PE X e (tOpd X.K X.mg W (.c d)) := by
  refine PE_imp h fun σ H Q ⟨B, F, env, s, h⟩ => ?_
  exact h F H s (Ex.refl F) v (scalD_fz hd)
theorem se_int {i : Int} {j pos} : PE X (.Constant (.int i) j pos) (tOpd X.K X.mg W (.c (.int i))) := se_cc rfl pe_int
theorem se_bl {b j pos} : PE X (.Constant (.bool b) j pos) (tOpd X.K X.mg W (.c (.bl b))) := se_cc rfl pe_bl
theorem se_non {j pos} : PE X (.Constant .none j pos) (tOpd X.K X.mg W (.c .non)) := se_cc rfl pe_non
theorem se_str {x : Str} {j pos} : PE X (.Constant (.str x) j pos) (tOpd X.K X.mg W (.c (.str x))) := se_cc rfl pe_str
/-- a module's constant -/
theorem se_gc {x : Str} {d : D} {v : V} {u : Value} {pos : Pos} (hd' : scalD d = some v) (hg : Gl X x) (hm : X.mg x = some u) (r : RelV v u) (hd : (x == ("__debug__" : Str)) = false := by decide) : PE X (.Name x pos) (tOpd X.K X.mg W (.c d)) := se_cc hd' (pe_glob hg hm r hd)
end

/-! ## operations -/
def mUn (f : D → Option D) (a : Opd) : ME := fun env => (a.run env).bind fun (x, e1) => match a.get x e1 with
  | some dx => optR e1 (f dx)
  | none => .bad
def mBin (f : D → D → Option D) (a b : Opd) : ME := fun env => (a.run env).bind fun (x, e1) => (b.run e1).bind fun (y, e2) => match a.get x e2, b.get y e2 with
  | some dx, some dy => optR e2 (f dx dy)
  | _, _ => .bad
def runL : List Opd → Env → Rs (List (Option D) × Env)
  | [], env => .ok ([], env)
  | o :: os, env => (o.run env).bind fun (x, e1) => (runL os e1).bind fun (r, e2) => .ok (x :: r, e2)
def getL : List Opd → List (Option D) → Env → Option (List D)
  | [], _, _ => some []
  | o :: os, x :: r, env => match o.get x env, getL os r env with
    | some d, some ds => some (d :: ds)
    | _, _ => none
  | _, _, _ => none
/-- a call on values, of a builtin -/
def mFn (f : List D → Option D) (as : List Opd) : ME := fun env => (runL as env).bind fun (xs, e1) => match getL as xs e1 with
  | some ds => optR e1 (f ds)
  | none => .bad
def FbL (K : PySem.W.Frag) (mg : MG) (F H : Hp) : List D → List V → Prop
  | [], vs => vs = []
  | d :: ds, vs => ∃ v r, vs = v :: r ∧ Fb K mg F H d v ∧ FbL K mg F H ds r
/-- the result of an operation: new things may be laid for it -/
abbrev Rz (K : PySem.W.Frag) (mg : MG) (F H : Hp) (z : D) (Q : VK) : Prop := ∀ F' H' v, Step [] F H F' H' → Fz K mg F' z v → Q v H'
def OpD (K : PySem.W.Frag) (mg : MG) (r : R2) (f : D → D → Option D) : Prop :=
  ∀ (F H : Hp) (x y : D) (vx vy : V) (z : D) (Q : VK), Ex F H → Fb K mg F H x vx → Fb K mg F H y vy → f x y = some z → Rz K mg F H z Q → r vx vy H Q
def UnD (K : PySem.W.Frag) (mg : MG) (r : V → Hp → VK → Prop) (f : D → Option D) : Prop :=
  ∀ (F H : Hp) (x : D) (vx : V) (z : D) (Q : VK), Ex F H → Fb K mg F H x vx → f x = some z → Rz K mg F H z Q → r vx H Q
def FnD (K : PySem.W.Frag) (mg : MG) (r : List V → Hp → VK → Prop) (f : List D → Option D) : Prop :=
  ∀ (F H : Hp) (xs : List D) (vs : List V) (z : D) (Q : VK), Ex F H → FbL K mg F H xs vs → f xs = some z → Rz K mg F H z Q → r vs H Q

section
variable {K : PySem.W.Frag} {mg : MG} {W : WX}
theorem tM_bin {r : R2} {f : D → D → Option D} {a b : Opd} (ho : OpD K mg r f) : ∀ σ H Q, tM K mg W (mBin f a b) σ H Q → tOp r (tOpd K mg W a) (tOpd K mg W b) σ H Q := by
  rintro σ H Q ⟨B, F, env, s, h⟩
  refine ⟨B, F, env, s, (Pst.bind h).imp fun x env1 F1 H1 s1 e1 h1 vx hx => ?_⟩
  refine ⟨B, F1, env1, s1, (Pst.bind h1).imp fun y env2 F2 H2 s2 e2 h2 vy hy => ?_⟩
  simp only at h2
  cases q1 : a.get x env2 with
  | none => rw [q1] at h2; exact h2.elim
  | some dx =>
    cases q2 : b.get y env2 with
    | none => rw [q1, q2] at h2; exact h2.elim
    | some dy =>
      rw [q1, q2] at h2
      simp only at h2
      cases q3 : f dx dy with
      | none => rw [q3] at h2; exact h2.elim
      | some z =>
        rw [q3] at h2
        refine ho F2 H2 dx dy vx vy z Q s2.fH ((hx.ex e2).fb s2 q1) (hy.fb s2 q2) q3 fun F' H' v st hz => ?_
        exact h2 F' H' (s2.step st) st.fF v hz
theorem tM_un {r : V → Hp → VK → Prop} {f : D → Option D} {a : Opd} (ho : UnD K mg r f) : ∀ σ H Q, tM K mg W (mUn f a) σ H Q → tUn r (tOpd K mg W a) σ H Q := by
  rintro σ H Q ⟨B, F, env, s, h⟩
  refine ⟨B, F, env, s, (Pst.bind h).imp fun x env1 F1 H1 s1 e1 h1 vx hx => ?_⟩
  simp only at h1
  cases q1 : a.get x env1 with
  | none => rw [q1] at h1; exact h1.elim
  | some dx =>
    rw [q1] at h1
    simp only at h1
    cases q3 : f dx with
    | none => rw [q3] at h1; exact h1.elim
    | some z =>
      rw [q3] at h1
      refine ho F1 H1 dx vx z Q s1.fH (hx.fb s1 q1) q3 fun F' H' v st hz => ?_
      exact h1 F' H' (s1.step st) st.fF v hz

/-! ### lists of operands -/
def OpdL (K : PySem.W.Frag) (mg : MG) (σ : L2.St) (F : Hp) : List Opd → List (Option D) → List V → Prop
  | [], xs, vs => xs = [] ∧ vs = []
  | o :: os, xs, vs => ∃ x xr v vr, xs = x :: xr ∧ vs = v :: vr ∧ OpdV K mg σ F o x v ∧ OpdL K mg σ F os xr vr
theorem OpdL.fb {σ : L2.St} {F H : Hp} {B : Base} {env : Env} (s : Sta K mg B F env σ H) : ∀ {os : List Opd} {xs : List (Option D)} {vs : List V} {ds : List D}, OpdL K mg σ F os xs vs → getL os xs env = some ds → FbL K mg F H ds vs
  | [], _, _, _, h, g => by
    obtain ⟨rfl, rfl⟩ := h
    cases g
    rfl
  | o :: os, _, _, ds, h, g => by
    obtain ⟨x, xr, v, vr, rfl, rfl, h1, h2⟩ := h
    unfold getL at g
    cases q1 : o.get x env with
    | none => rw [q1] at g; cases g
    | some d =>
      cases q2 : getL os xr env with
      | none => rw [q1, q2] at g; cases g
      | some r =>
        rw [q1, q2] at g
        cases g
        exact ⟨v, vr, rfl, h1.fb s q1, OpdL.fb s h2 q2⟩
def tOps (K : PySem.W.Frag) (mg : MG) (W : WX) (os : List Opd) : TA := fun σ H Q => ∃ B F env, Sta K mg B F env σ H ∧ Pst K mg W B F σ (fun xs _ F' H' => ∀ vs, OpdL K mg σ F' os xs vs → Q vs H') (runL os env)
theorem tM_fn {r : List V → Hp → VK → Prop} {f : List D → Option D} {as : List Opd} (ho : FnD K mg r f) : ∀ σ H Q, tM K mg W (mFn f as) σ H Q → tCB r (tOps K mg W as) σ H Q := by
  rintro σ H Q ⟨B, F, env, s, h⟩
  refine ⟨B, F, env, s, (Pst.bind h).imp fun xs env1 F1 H1 s1 e1 h1 vs hx => ?_⟩
  simp only at h1
  cases q1 : getL as xs env1 with
  | none => rw [q1] at h1; exact h1.elim
  | some ds =>
    rw [q1] at h1
    simp only at h1
    cases q3 : f ds with
    | none => rw [q3] at h1; exact h1.elim
    | some z =>
      rw [q3] at h1
      exact ho F1 H1 ds vs z Q s1.fH (hx.fb s1 q1) q3 fun F' H' v st hz => h1 F' H' (s1.step st) st.fF v hz
end
section
variable {X : Cx} {W : WX} {a b e : Expr} {es : List Expr} {oa ob : Opd} {os : List Opd} {pos : Pos}
theorem sa_nil : PA X [] (tOps X.K X.mg W []) := PA_imp pa_nil fun σ H Q ⟨B, F, env, s, h⟩ => h F H s (Ex.refl F) [] ⟨rfl, rfl⟩
theorem sa_cons (ha : PE X e (tOpd X.K X.mg W oa)) (hr : PA X es (tOps X.K X.mg W os)) (hs : starEach (e :: es) X.env = (false, eval e X.env) :: starEach es X.env := by rfl) : PA X (e :: es) (tOps X.K X.mg W (oa :: os)) := by
  refine PA_imp (pa_cons ha hr hs) fun σ H Q ⟨B, F, env, s, h⟩ => ?_
  refine ⟨B, F, env, s, (Pst.bind h).imp fun x env1 F1 H1 s1 e1 h1 vx hx => ?_⟩
  refine ⟨B, F1, env1, s1, (Pst.bind h1).imp fun y env2 F2 H2 s2 e2 h2 vy hy => ?_⟩
  exact h2 F2 H2 s2 (Ex.refl F2) _ ⟨x, y, vx, vy, rfl, rfl, hx.ex e2, hy⟩
theorem se_op {op : Operator} {r : R2} {f : D → D → Option D} (ho : OpR X (binaryOp op) r) (hs : OpD X.K X.mg r f) (ha : PE X a (tOpd X.K X.mg W oa)) (hb : PE X b (tOpd X.K X.mg W ob)) : PE X (.BinOp a op b pos) (tM X.K X.mg W (mBin f oa ob)) :=
  PE_imp (pe_op ho ha hb) (tM_bin hs)
theorem se_cmp {op : CmpOp} {r : R2} {f : D → D → Option D} (ho : OpR X (compareOp op) r) (hs : OpD X.K X.mg r f) (ha : PE X a (tOpd X.K X.mg W oa)) (hb : PE X b (tOpd X.K X.mg W ob)) (hm : behindInMarks op b = false := by first | exact nobehind _ (by decide) (by decide) | rfl) :
    PE X (.Compare a [op] [b] pos) (tM X.K X.mg W (mBin f oa ob)) := PE_imp (pe_cmpR ho ha hb hm) (tM_bin hs)
theorem se_ix {r : R2} {f : D → D → Option D} (hr : IxR X r) (hs : OpD X.K X.mg r f) (ha : PE X a (tOpd X.K X.mg W oa)) (hb : PE X b (tOpd X.K X.mg W ob)) (hp : PlainIx b) : PE X (.Subscript a b pos) (tM X.K X.mg W (mBin f oa ob)) := PE_imp (pe_ix hr ha hb hp) (tM_bin hs)
theorem se_un {op : UnaryOp} {r : V → Hp → VK → Prop} {f : D → Option D} (ho : UnR X (unaryOp op) r) (hs : UnD X.K X.mg r f) (ha : PE X a (tOpd X.K X.mg W oa)) : PE X (.UnaryOp op a pos) (tM X.K X.mg W (mUn f oa)) := PE_imp (pe_un ho ha) (tM_un hs)
theorem se_fnB {x : Str} {id : String} {p : Pos} {r : List V → Hp → VK → Prop} {f : List D → Option D} (hc : CallR X (.builtin id) r) (hs : FnD X.K X.mg r f) (hg : Gl X x) (hm : X.mg x = none) (hv : bootBuiltins x = some (.builtin id)) (ha : PA X (e :: es) (tOps X.K X.mg W os)) (hn : x ≠ "__name__" := by decide) (hdb : (x == ("__debug__" : Str)) = false := by decide)
    (he : starEach (e :: es) X.env = (false, eval e X.env) :: starEach es X.env := by rfl) (hpl : (backTo pos (starEach es X.env)).any (·.1) = false := by rfl) : PE X (.Call (.Name x p) (e :: es) [] pos) (tM X.K X.mg W (mFn f os)) := PE_imp (pe_callB hc hg hm hv ha hn hdb he hpl) (tM_fn hs)
theorem se_fnT {x : Str} {id : String} {p : Pos} {r : List V → Hp → VK → Prop} {f : List D → Option D} (hc : CallR X (.type id) r) (hs : FnD X.K X.mg r f) (hg : Gl X x) (hm : X.mg x = none) (hv : bootBuiltins x = some (.type id)) (ha : PA X (e :: es) (tOps X.K X.mg W os)) (hn : x ≠ "__name__" := by decide) (hdb : (x == ("__debug__" : Str)) = false := by decide)
    (he : starEach (e :: es) X.env = (false, eval e X.env) :: starEach es X.env := by rfl) (hpl : (backTo pos (starEach es X.env)).any (·.1) = false := by rfl) : PE X (.Call (.Name x p) (e :: es) [] pos) (tM X.K X.mg W (mFn f os)) := PE_imp (pe_callTy hc hg hm hv ha hn hdb he hpl) (tM_fn hs)
end
end Mi

set_option Elab.async false
set_option linter.all false
set_option maxRecDepth 100000
namespace Mi
open PySem PySem.Spec PyProof.Rows L2

/-! ## the state changes -/
section
variable {K : PySem.W.Frag} {mg : MG} {F H : Hp} {B : Base} {σ : L2.St} {env : Env} {i : Nat} {s : Sl} {v : V} {p : Addr}
theorem slotV_set {w : Option V} (hi : i < (show List (Option V) from σ).length) : slotV (List.set (show List (Option V) from σ) i w) i = w := by
  unfold slotV
  show ((List.set (show List (Option V) from σ) i w)[i]?).join = _
  rw [List.getElem?_set_self hi]
  rfl
theorem slotV_ne {w : Option V} {j : Nat} (h : i ≠ j) : slotV (List.set (show List (Option V) from σ) i w) j = slotV σ j := by
  unfold slotV
  show ((List.set (show List (Option V) from σ) i w)[j]?).join = _
  rw [List.getElem?_set_ne h]
theorem OwnAt.slot {j : Nat} (h : OwnAt env σ j p) : slotV σ j = some (.ref p) := by
  unfold slotV
  show ((show List (Option V) from σ)[j]?).join = _
  rw [show (show List (Option V) from σ)[j]? = some (some (V.ref p)) from h.1]
  rfl
theorem look_of {w : V} (h : slotV σ i = some w) : (σ[i]? : Option (Option V)) = some (some w) := by
  unfold slotV at h
  cases q : (σ[i]? : Option (Option V)) with
  | none =>
    rw [show (show Option (Option V) from (show List (Option V) from σ)[i]?) = none from q] at h
    cases h
  | some o =>
    rw [show (show Option (Option V) from (show List (Option V) from σ)[i]?) = some o from q] at h
    have h : o = some w := h
    rw [h]
/-- the address of an owned slot -/
theorem Sta.ownAddr (st : Sta K mg B F env σ H) (e : env[i]? = some s) (ho : s.owned = true) : ∃ p, OwnAt env σ i p ∧ F p = none ∧ H p ≠ none ∧ (B.H0 p = none ∨ p ∈ B.io) := by
  have h := st.sl i s e
  cases s with
  | dead => cases ho
  | fz d => cases ho
  | xc q x => cases ho
  | ol ds => obtain ⟨p, vs, e1, h1, h2, h3, _⟩ := h; exact ⟨p, ⟨look_of e1, _, e, rfl⟩, h1, by rw [h3]; simp, .inl h2⟩
  | io ds => obtain ⟨p, vs, e1, h1, h2, h3, _⟩ := h; exact ⟨p, ⟨look_of e1, _, e, rfl⟩, h1, by rw [h3]; simp, .inr h2⟩
  | od t ks ws =>
    obtain ⟨p, us, e1, h1, h2, h3, _⟩ := h
    obtain ⟨o, q⟩ := h3.some
    exact ⟨p, ⟨look_of e1, _, e, rfl⟩, h1, by rw [q]; simp, .inl h2⟩
theorem len_set {α : Type} {l : List α} {a : α} : (l.set i a).length = l.length := List.length_set
/-- slot i gets the value v -/
theorem Sta.setSlot (st : Sta K mg B F env σ H) (hs : SlOk K mg B F H s (some v)) (ho : s.owned = true → ∀ j p, j ≠ i → v = .ref p → ¬ OwnAt env σ j p) : Sta K mg B F (env.set i s) (List.set (show List (Option V) from σ) i (some v)) H := by
  have hl : env.length = (show List (Option V) from σ).length := st.len
  refine ⟨st.f0, st.fH, st.new, st.kee, st.ios, ?_, fun j x e => ?_, fun j k p hj hk => ?_, st.ioh⟩
  · show (env.set i s).length = (List.set (show List (Option V) from σ) i (some v)).length
    rw [List.length_set, List.length_set]; exact hl
  · by_cases hij : i = j
    · subst hij
      rw [List.getElem?_set] at e
      simp only at e
      split at e
      · rename_i hi
        split at e
        · rename_i hi2
          cases e
          rw [slotV_set (by rw [← hl]; exact hi2)]
          exact hs
        · cases e
      · rename_i hi; exact absurd trivial hi
    · rw [List.getElem?_set_ne hij] at e
      rw [slotV_ne hij]
      exact st.sl j x e
  · have main : ∀ j p, OwnAt (env.set i s) (List.set (show List (Option V) from σ) i (some v)) j p → (j = i ∧ s.owned = true ∧ v = .ref p) ∨ (j ≠ i ∧ OwnAt env σ j p) := fun j p h => by
      by_cases hij : i = j
      · subst hij
        obtain ⟨h1, x, h2, h3⟩ := h
        have h1 : (List.set (show List (Option V) from σ) i (some v))[i]? = some (some (V.ref p)) := h1
        rw [List.getElem?_set] at h1 h2
        rw [if_pos rfl] at h1 h2
        split at h1
        · split at h2
          · cases h1; cases h2; exact .inl ⟨rfl, h3, rfl⟩
          · cases h2
        · cases h1
      · obtain ⟨h1, x, h2, h3⟩ := h
        have h1 : (List.set (show List (Option V) from σ) i (some v))[j]? = some (some (V.ref p)) := h1
        rw [List.getElem?_set_ne hij] at h1 h2
        exact .inr ⟨fun z => hij z.symm, h1, x, h2, h3⟩
    rcases main j p hj with ⟨e1, o1, v1⟩ | ⟨n1, a1⟩
    · rcases main k p hk with ⟨e2, o2, v2⟩ | ⟨n2, a2⟩
      · rw [e1, e2]
      · exact absurd a2 (ho o1 k p n2 v1)
    · rcases main k p hk with ⟨e2, o2, v2⟩ | ⟨n2, a2⟩
      · exact absurd a1 (ho o2 j p n1 v2)
      · exact st.own j k p a1 a2
/-- slot i is told otherwise -/
theorem Sta.reSlot (st : Sta K mg B F env σ H) (hs : SlOk K mg B F H s (slotV σ i)) (ho : s.owned = true → ∃ x, env[i]? = some x ∧ x.owned = true) : Sta K mg B F (env.set i s) σ H := by
  refine ⟨st.f0, st.fH, st.new, st.kee, st.ios, by rw [List.length_set]; exact st.len, fun j x e => ?_, fun j k p hj hk => ?_, st.ioh⟩
  · by_cases hij : i = j
    · subst hij
      rw [List.getElem?_set, if_pos rfl] at e
      split at e
      · cases e; exact hs
      · cases e
    · rw [List.getElem?_set_ne hij] at e
      exact st.sl j x e
  · have main : ∀ j p, OwnAt (env.set i s) σ j p → OwnAt env σ j p := fun j p h => by
      obtain ⟨h1, x, h2, h3⟩ := h
      by_cases hij : i = j
      · subst hij
        rw [List.getElem?_set, if_pos rfl] at h2
        split at h2
        · cases h2; obtain ⟨y, e, o⟩ := ho h3; exact ⟨h1, y, e, o⟩
        · cases h2
      · rw [List.getElem?_set_ne hij] at h2
        exact ⟨h1, x, h2, h3⟩
    exact st.own j k p (main j p hj) (main k p hk)
theorem Sta.kill (st : Sta K mg B F env σ H) : Sta K mg B F (env.set i .dead) σ H := st.reSlot trivial fun h => nomatch h
theorem Sta.setFz {d : D} (st : Sta K mg B F env σ H) (h : Fz K mg F d v) : Sta K mg B F (env.set i (.fz d)) (List.set (show List (Option V) from σ) i (some v)) H := st.setSlot ⟨v, rfl, h⟩ fun h => nomatch h
/-- what is owned at p becomes frozen -/
theorem Ex.freeze (e : Ex F H) (hF : F p = none) {o : HO} (hH : H p = some o) : Ex F (upd F p o) ∧ Ex (upd F p o) H := by
  refine ⟨.of fun a u h => by rw [upd_ne (ne_of_none h hF)]; exact h, ⟨fun a u h => ?_, fun a o' hd h => ?_⟩⟩
  · by_cases ha : a = p
    · subst ha
      unfold Rd at h ⊢
      rw [upd_same] at h
      rw [hH]
      exact h
    · unfold Rd at h
      rw [upd_ne ha] at h
      exact e.rd a u h
  · by_cases ha : a = p
    · subst ha; rw [upd_same] at h; rw [hH]; exact h
    · rw [upd_ne ha] at h; exact e.ex a o' hd h
theorem SlOk.freeze {o : HO} {x : Sl} {w : Option V} (e1 : Ex F (upd F p o)) (h : SlOk K mg B F H x w) (hn : x.owned = true → w ≠ some (.ref p)) : SlOk K mg B (upd F p o) H x w := by
  cases x with
  | dead => trivial
  | fz d => obtain ⟨v, e, f⟩ := h; exact ⟨v, e, f.ex e1⟩
  | xc q x => exact ⟨h.1, h.2.1, h.2.2.keep e1 fun _ _ z => z⟩
  | ol ds => obtain ⟨q, vs, e, h1, h2, h3, h4⟩ := h; exact ⟨q, vs, e, by rw [upd_ne (fun z => hn rfl (by rw [e, z]))]; exact h1, h2, h3, h4.ex e1⟩
  | io ds => obtain ⟨q, vs, e, h1, h2, h3, h4⟩ := h; exact ⟨q, vs, e, by rw [upd_ne (fun z => hn rfl (by rw [e, z]))]; exact h1, h2, h3, h4.ex e1⟩
  | od t ks ws => obtain ⟨q, vs, e, h1, h2, h3, h4⟩ := h; exact ⟨q, vs, e, by rw [upd_ne (fun z => hn rfl (by rw [e, z]))]; exact h1, h2, h3, h4.ex e1⟩
theorem Sta.freeze {d : D} {o : HO} (st : Sta K mg B F env σ H) (ha : OwnAt env σ i p) (hF : F p = none) (h0 : B.H0 p = none) (hH : H p = some o) (hd : Fz K mg (upd F p o) d (.ref p)) :
    Ex F (upd F p o) ∧ Sta K mg B (upd F p o) (env.set i (.fz d)) σ H := by
  obtain ⟨e1, e2⟩ := st.fH.freeze hF hH
  refine ⟨e1, st.f0.trans e1, e2, fun a h1 h2 => ?_, st.kee, st.ios, by rw [List.length_set]; exact st.len, fun j x e => ?_, fun j k q hj hk => ?_, st.ioh⟩
  · rw [upd_ne (fun z => h1 (by rw [z]; exact h0))]; exact st.new a h1 h2
  · by_cases hij : i = j
    · subst hij
      rw [List.getElem?_set, if_pos rfl] at e
      split at e
      · cases e; exact ⟨_, ha.slot, hd⟩
      · cases e
    · rw [List.getElem?_set_ne hij] at e
      exact (st.sl j x e).freeze e1 fun ho hw => hij (st.own i j p ha ⟨look_of hw, x, e, ho⟩)
  · have main : ∀ j p, OwnAt (env.set i (.fz d)) σ j p → OwnAt env σ j p := fun j p ⟨h1, x, h2, h3⟩ => by
      by_cases hij : i = j
      · subst hij
        rw [List.getElem?_set, if_pos rfl] at h2
        split at h2
        · cases h2; cases h3
        · cases h2
      · rw [List.getElem?_set_ne hij] at h2
        exact ⟨h1, x, h2, h3⟩
    exact st.own j k q (main j q hj) (main k q hk)
theorem dic_noXd {t : Bool} {ks : List D} {us : List V} {fs : List (Str × V)} (h : DicH (fun o => H p = some o) t ks us) (z : H p = some (.xd fs)) : False := by
  cases t with
  | false => obtain ⟨_, _, _, h⟩ := h; rw [h] at z; cases z
  | true => obtain ⟨_, _, _, h⟩ := h; rw [h] at z; cases z
theorem OwnAt.noXd {fs : List (Str × V)} (ha : OwnAt env σ i p) (st : Sta K mg B F env σ H) (z : H p = some (.xd fs)) : False := by
  have ha' : slotV σ i = some (.ref p) := OwnAt.slot (env := env) ha
  obtain ⟨_, s, e, ho⟩ := ha
  have h := st.sl i s e
  rw [ha'] at h
  cases s with
  | dead => cases ho
  | fz d => cases ho
  | xc q x => cases ho
  | ol ds => obtain ⟨q, vs, e1, h1, h2, h3, h4⟩ := h; cases e1; rw [h3] at z; cases z
  | io ds => obtain ⟨q, vs, e1, h1, h2, h3, h4⟩ := h; cases e1; rw [h3] at z; cases z
  | od t ks ws => obtain ⟨q, us, e1, h1, h2, h3, h4⟩ := h; cases e1; exact dic_noXd h3 z
/-- what is owned at p is changed -/
theorem Sta.mut {o : HO} (st : Sta K mg B F env σ H) (ha : OwnAt env σ i p) (hF : F p = none) (h0 : B.H0 p = none ∨ p ∈ B.io) (hs : SlOk K mg B F (upd H p o) s (some (.ref p))) (hx : s.owned = true) :
    Sta K mg B F (env.set i s) σ (upd H p o) := by
  have eF : Ex F (upd H p o) := ⟨fun a u h => by
      have : a ≠ p := fun z => by
        subst z
        unfold Rd at h
        rw [hF] at h
        rcases h with h | ⟨_, h⟩ <;> cases h
      unfold Rd; rw [upd_ne this]; exact st.fH.rd a u h, fun a o' hd h => by rw [upd_ne (ne_of_none h hF)]; exact st.fH.ex a o' hd h⟩
  refine ⟨st.f0, eF, st.new, fun a u h1 h2 => ?_, fun a h => ?_, by rw [List.length_set]; exact st.len, fun j y e => ?_, fun j k q hj hk => ?_, st.ioh⟩
  · have : a ≠ p := fun z => by
      subst z
      rcases h0 with h0 | h0
      · rw [h0] at h1; cases h1
      · exact h2 h0
    rw [upd_ne this]; exact st.kee a u h1 h2
  · by_cases z : a = p
    · subst z; rw [upd_same]; simp
    · rw [upd_ne z]; exact st.ios a h
  · by_cases hij : i = j
    · subst hij
      rw [List.getElem?_set, if_pos rfl] at e
      split at e
      · cases e; rw [ha.slot]; exact hs
      · cases e
    · rw [List.getElem?_set_ne hij] at e
      have h := st.sl j y e
      have ne : ∀ q, slotV σ j = some (.ref q) → y.owned = true → q ≠ p := fun q e1 ho z => by
        subst z
        exact hij (st.own i j q ha ⟨look_of e1, y, e, ho⟩)
      cases y with
      | dead => trivial
      | fz d => exact h
      | xc q x => exact ⟨h.1, h.2.1, h.2.2.keep (Ex.refl _) fun dx fs z => by rw [upd_ne (fun z2 => by subst z2; exact ha.noXd st z)]; exact z⟩
      | ol ds => obtain ⟨q, vs, e1, h1, h2, h3, h4⟩ := h; exact ⟨q, vs, e1, h1, h2, by rw [upd_ne (ne q e1 rfl)]; exact h3, h4⟩
      | io ds => obtain ⟨q, vs, e1, h1, h2, h3, h4⟩ := h; exact ⟨q, vs, e1, h1, h2, by rw [upd_ne (ne q e1 rfl)]; exact h3, h4⟩
      | od t ks ws =>
        obtain ⟨q, vs, e1, h1, h2, h3, h4⟩ := h
        exact ⟨q, vs, e1, h1, h2, h3.imp fun o z => by rw [upd_ne (ne q e1 rfl)]; exact z, h4⟩
  · have main : ∀ j q, OwnAt (env.set i s) σ j q → OwnAt env σ j q := fun j q ⟨h1, x, h2, h3⟩ => by
      by_cases hij : i = j
      · subst hij
        exact ⟨h1, by obtain ⟨_, y, e, o⟩ := ha; exact ⟨y, e, o⟩⟩
      · rw [List.getElem?_set_ne hij] at h2
        exact ⟨h1, x, h2, h3⟩
    exact st.own j k q (main j q hj) (main k q hk)
end

/-! ## names that are handed on: what they own is frozen -/
def mVar (i : Nat) : ME := fun env => match env[i]? with
  | some (.fz d) => .ok (d, env)
  | some (.ol ds) => .ok (.lst ds, env.set i (.fz (.lst ds)))
  | some (.od t ks ws) => .ok (.dic t ks ws, env.set i (.fz (.dic t ks ws)))
  | _ => .bad
section
variable {X : Cx} {W : WX}
theorem se_var (i : Nat) {x : Str} {pos : Pos} (hN : X.N[i]? = some x := by rfl) (hv : Vis X.env.scope x := by first | exact Or.inl rfl | exact Or.inr (Or.inl rfl) | exact Or.inr (Or.inr rfl)) (hd : (x == ("__debug__" : Str)) = false := by decide)
    (hcd : (x == ("__classdict__" : Str)) = false := by decide) : PE X (.Name x pos) (tM X.K X.mg W (mVar i)) := by
  refine PE_imp (pe_var hN hv hd hcd) fun σ H Q ⟨B, F, env, s, h⟩ => ?_
  unfold mVar at h
  cases q : env[i]? with
  | none => rw [q] at h; exact h.elim
  | some y =>
    rw [q] at h
    have hs := s.sl i y q
    cases y with
    | dead => exact h.elim
    | io ds => exact h.elim
    | xc q x => exact h.elim
    | fz d =>
      obtain ⟨v, e, f⟩ := hs
      exact ⟨v, look_of e, h F H s (Ex.refl F) v f⟩
    | ol ds =>
      obtain ⟨p, vs, e, h1, h2, h3, h4⟩ := hs
      have e1 := (s.fH.freeze h1 h3).1
      have hz : Fz X.K X.mg (upd F p (.lst vs)) (.lst ds) (.ref p) := ⟨p, vs, rfl, .inl (.inl upd_same), h4.ex e1⟩
      obtain ⟨e1, s'⟩ := s.freeze (d := .lst ds) ⟨look_of e, _, q, rfl⟩ h1 h2 h3 hz
      exact ⟨.ref p, look_of e, h _ H s' e1 _ hz⟩
    | od t ks ws =>
      obtain ⟨p, us, e, h1, h2, h3, h4⟩ := hs
      have go : ∀ o, H p = some o → DicH (Rd (upd F p o) p) t ks us → ∃ v, (σ[i]? : Option (Option V)) = some (some v) ∧ Q v H := fun o hp hd => by
        have e1 := (s.fH.freeze h1 hp).1
        have hz : Fz X.K X.mg (upd F p o) (.dic t ks ws) (.ref p) := ⟨p, us, rfl, h4.ex e1, hd⟩
        obtain ⟨e1, s'⟩ := s.freeze (d := .dic t ks ws) ⟨look_of e, _, q, rfl⟩ h1 h2 hp hz
        exact ⟨.ref p, look_of e, h _ H s' e1 _ hz⟩
      cases t with
      | false => obtain ⟨kk, a, b, h3⟩ := h3; exact go _ h3 ⟨kk, a, b, .inl upd_same⟩
      | true => obtain ⟨kk, a, b, h3⟩ := h3; exact go _ h3 ⟨kk, a, b, .inl upd_same⟩
end

/-! ## tuples and lists written out -/
def mL : List ME → MA
  | [], env => .ok ([], env)
  | m :: ms, env => (m env).bind fun (d, e1) => (mL ms e1).bind fun (r, e2) => .ok (d :: r, e2)
def lim : Nat := 1000000
def mTup (a : MA) : ME := fun env => (a env).bind fun (ds, e1) => if ds.length ≤ lim then .ok (.tup ds, e1) else .bad
def mLstF (a : MA) : ME := fun env => (a env).bind fun (ds, e1) => if ds.length ≤ lim then .ok (.lst ds, e1) else .bad
def mLst (a : MA) : MA := fun env => (a env).bind fun (ds, e1) => if ds.length ≤ lim then .ok (ds, e1) else .bad
theorem lim_le {n : Nat} (h : n ≤ lim) : n ≤ sizeLine := Nat.le_trans h (by decide +kernel)
theorem lim_lt {n : Nat} (h : n < lim) : n < sizeLine := Nat.lt_of_lt_of_le h (by decide +kernel)
section
variable {X : Cx} {W : WX} {e : Expr} {es : List Expr} {m : ME} {ms : List ME} {ma : MA} {pos : Pos}
theorem sl_nil : PA X [] (tMA X.K X.mg W (mL [])) := PA_imp pa_nil fun σ H Q ⟨B, F, env, s, h⟩ => h F H s (Ex.refl F) [] rfl
theorem sl_cons (ha : PE X e (tM X.K X.mg W m)) (hr : PA X es (tMA X.K X.mg W (mL ms))) (hs : starEach (e :: es) X.env = (false, eval e X.env) :: starEach es X.env := by rfl) : PA X (e :: es) (tMA X.K X.mg W (mL (m :: ms))) := by
  refine PA_imp (pa_cons ha hr hs) fun σ H Q ⟨B, F, env, s, h⟩ => ?_
  refine ⟨B, F, env, s, (Pst.bind h).imp fun d env1 F1 H1 s1 e1 h1 v hv => ?_⟩
  refine ⟨B, F1, env1, s1, (Pst.bind h1).imp fun ds env2 F2 H2 s2 e2 h2 vs hvs => ?_⟩
  exact h2 F2 H2 s2 (Ex.refl F2) _ ⟨v, vs, rfl, hv.ex e2, hvs⟩
theorem se_tup {x1} (ha : PA X es (tMA X.K X.mg W ma)) : PE X (.Tuple es x1 pos) (tM X.K X.mg W (mTup ma)) := by
  refine PE_imp (pe_tup ha) fun σ H Q ⟨B, F, env, s, h⟩ => ?_
  refine ⟨B, F, env, s, (Pst.bind h).imp fun ds env1 F1 H1 s1 e1 h1 vs hv => ?_⟩
  simp only at h1
  split at h1
  · rename_i hl
    refine ⟨by rw [← hv.length]; exact lim_le hl, fun p hp => ?_⟩
    have st := Step.laid (o := .tup vs) s1.fH hp
    exact h1 _ _ (s1.step st) st.fF _ ⟨p, vs, rfl, upd_same, hv.ex st.fF⟩
  · exact h1.elim
theorem se_lstF (ha : PA X es (tMA X.K X.mg W ma)) : PE X (.List es pos) (tM X.K X.mg W (mLstF ma)) := by
  refine PE_imp (pe_lst ha) fun σ H Q ⟨B, F, env, s, h⟩ => ?_
  refine ⟨B, F, env, s, (Pst.bind h).imp fun ds env1 F1 H1 s1 e1 h1 vs hv => ?_⟩
  simp only at h1
  split at h1
  · rename_i hl
    refine ⟨by rw [← hv.length]; exact lim_le hl, fun p hp => ?_⟩
    have st := Step.laid (o := .lst vs) s1.fH hp
    exact h1 _ _ (s1.step st) st.fF _ ⟨p, vs, rfl, .inl (.inl upd_same), hv.ex st.fF⟩
  · exact h1.elim
/-- a new list at p, owned by none so far -/
theorem Sta.laidO {K : PySem.W.Frag} {mg : MG} {F H : Hp} {B : Base} {σ : L2.St} {env : Env} {p : Addr} {o : HO} (s : Sta K mg B F env σ H) (hp : H p = none) :
    Sta K mg B F env σ (upd H p o) ∧ F p = none ∧ B.H0 p = none ∧ p ∉ B.io ∧ ∀ i, ¬ OwnAt env σ i p := by
  have hF : F p = none := by
    cases q : F p with
    | none => rfl
    | some u => rcases s.fH.rd p u (.inl q) with z | ⟨_, z⟩ <;> rw [hp] at z <;> cases z
  have hio : p ∉ B.io := fun z => s.ios p z hp
  have h0 : B.H0 p = none := by
    cases q : B.H0 p with
    | none => rfl
    | some u => rw [s.kee p u q hio] at hp; cases hp
  have st : Step [] F H F (upd H p o) := ⟨Ex.refl F, (Step.laid (o := o) s.fH hp).fF.trans (Step.laid (o := o) s.fH hp).fH, (Step.laid (o := o) s.fH hp).kH, fun _ _ n => n⟩
  refine ⟨s.step st, hF, h0, hio, fun i ⟨h1, x, h2, h3⟩ => ?_⟩
  obtain ⟨q, hq, _, hn, _⟩ := s.ownAddr h2 h3
  have : q = p := by
    have e1 := hq.1
    rw [h1] at e1
    injection (Option.some.inj e1) with e2
    injection e2 with e3
    exact e3.symm
  exact hn (by rw [this]; exact hp)
theorem so_lst (ha : PA X es (tMA X.K X.mg W ma)) : PE X (.List es pos) (tMO X.K X.mg W (mLst ma)) := by
  refine PE_imp (pe_lst ha) fun σ H Q ⟨B, F, env, s, h⟩ => ?_
  refine ⟨B, F, env, s, (Pst.bind h).imp fun ds env1 F1 H1 s1 e1 h1 vs hv => ?_⟩
  simp only at h1
  split at h1
  · rename_i hl
    refine ⟨by rw [← hv.length]; exact lim_le hl, fun p hp => ?_⟩
    obtain ⟨s2, a1, a2, a3, a4⟩ := s1.laidO (o := .lst vs) hp
    exact h1 _ _ s2 (Ex.refl F1) p vs a4 a1 a2 a3 upd_same hv
  · exact h1.elim
end
end Mi

set_option Elab.async false
set_option linter.all false
set_option maxRecDepth 100000
namespace Mi
open PySem PySem.Spec PyProof.Rows L2

/-! ## statements -/
def mAsg (i : Nat) (m : ME) : MS := fun env => (m env).bind fun (d, e1) => .ok (.nx, e1.set i (.fz d))
def mAsgL (i : Nat) (m : MA) : MS := fun env => (m env).bind fun (ds, e1) => .ok (.nx, e1.set i (.ol ds))
def mAsgD (t : Bool) (i : Nat) : MS := fun env => .ok (.nx, env.set i (.od t [] []))
def mSeq (a b : MS) : MS := fun env => match a env with
  | .ok (.nx, e1) => b e1
  | r => r
def mPass : MS := fun env => .ok (.nx, env)
def mIf (t : MT) (a b : MS) : MS := fun env => (t env).bind fun (c, e1) => if c = true then a e1 else b e1
def mRet (m : ME) : MS := fun env => (m env).bind fun (d, e1) => .ok (.rt d, e1)
def mRetN : MS := fun env => .ok (.rt .non, env)
def mDrop (m : ME) : MS := fun env => (m env).bind fun (_, e1) => .ok (.nx, e1)
def mBreak : MS := fun env => .ok (.br, env)
def mCont : MS := fun env => .ok (.ct, env)
def mDead : MS := fun _ => .bad
/-- slots that are not asked for any more -/
def killAll : List Nat → Env → Env
  | [], env => env
  | i :: is, env => (killAll is env).set i .dead
def mKill (is : List Nat) (a : MS) : MS := fun env => (a env).bind fun (f, e1) => .ok (f, killAll is e1)
/-- tests -/
def mTst (m : ME) : MT := fun env => (m env).bind fun (d, e1) => match d with
  | .bl b => .ok (b, e1)
  | _ => .bad
def mAnd (a b : MT) : MT := fun env => (a env).bind fun (c, e1) => if c = true then b e1 else .ok (false, e1)
def mOr (a b : MT) : MT := fun env => (a env).bind fun (c, e1) => if c = true then .ok (true, e1) else b e1
def mNot (a : MT) : MT := fun env => (a env).bind fun (c, e1) => .ok (!c, e1)
def mYes : MT := fun env => .ok (true, env)
/-- a test as a value -/
def mBool (t : MT) : ME := fun env => (t env).bind fun (b, e1) => .ok (.bl b, e1)
def mIfE (t : MT) (a b : ME) : ME := fun env => (t env).bind fun (c, e1) => if c = true then a e1 else b e1

section
variable {K : PySem.W.Frag} {mg : MG} {F H : Hp} {B : Base} {σ : L2.St} {env : Env} {W : WX}
theorem Sta.killAll (st : Sta K mg B F env σ H) : ∀ is : List Nat, Sta K mg B F (Mi.killAll is env) σ H
  | [] => st
  | i :: is => (Sta.killAll st is).kill
/-- a new thing of nobody is frozen -/
theorem Sta.freezeT {p : Addr} {o : HO} (st : Sta K mg B F env σ H) (hn : ∀ i, ¬ OwnAt env σ i p) (hF : F p = none) (h0 : B.H0 p = none) (hH : H p = some o) : Ex F (upd F p o) ∧ Sta K mg B (upd F p o) env σ H := by
  obtain ⟨e1, e2⟩ := st.fH.freeze hF hH
  refine ⟨e1, st.f0.trans e1, e2, fun a h1 h2 => ?_, st.kee, st.ios, st.len, fun j x e => ?_, st.own, st.ioh⟩
  · rw [upd_ne (fun z => h1 (by rw [z]; exact h0))]; exact st.new a h1 h2
  · exact (st.sl j x e).freeze e1 fun ho hw => hn j ⟨look_of hw, x, e, ho⟩
end
section
variable {X : Cx} {W : WX} {e a b c : Expr} {pos : Pos} {m ma mb : ME} {ta tb : MT} {st : Stmt} {sts as bs : List Stmt} {sa sb : MS} {ml : MA} {op : Operator}
theorem ss_set {i : Nat} {x : Str} {pos' : Pos} (hN : X.N.Nodup) (hi : X.N[i]? = some x) (hx : Loc X.env.scope x) (he : PE X e (tM X.K X.mg W m)) (hs : swapsWith e (some (.Name x pos')) pos.line X.env = pure false := by rfl) (hf : X.fn x = true ∨ X.env.scope.names.lookup x = some .local := by first | exact .inl rfl | exact .inr rfl | assumption) :
    PS X (.Assign [.Name x pos'] e pos) (tMS X.K X.mg W (mAsg i m)) := by
  refine PS_imp (ps_set hN hi hx he hs hf) fun D σ H ⟨B, F, env, s, h⟩ => ?_
  exact ⟨B, F, env, s, (PstS.bind h).imp fun d env1 F1 H1 s1 e1 h1 v hv => h1 F1 _ H1 (s1.setFz hv) (Ex.refl F1)⟩
theorem ss_setL {i : Nat} {x : Str} {pos' : Pos} (hN : X.N.Nodup) (hi : X.N[i]? = some x) (hx : Loc X.env.scope x) (he : PE X e (tMO X.K X.mg W ml)) (hs : swapsWith e (some (.Name x pos')) pos.line X.env = pure false := by rfl) (hf : X.fn x = true ∨ X.env.scope.names.lookup x = some .local := by first | exact .inl rfl | exact .inr rfl | assumption) :
    PS X (.Assign [.Name x pos'] e pos) (tMS X.K X.mg W (mAsgL i ml)) := by
  refine PS_imp (ps_set hN hi hx he hs hf) fun D σ H ⟨B, F, env, s, h⟩ => ?_
  refine ⟨B, F, env, s, (PstS.bind h).imp fun ds env1 F1 H1 s1 e1 h1 p vs ho hF h0 hio hH hd => h1 F1 _ H1 (s1.setSlot (s := .ol ds) ⟨p, vs, rfl, hF, h0, hH, hd⟩ fun _ j q _ eq ha => ?_) (Ex.refl F1)⟩
  cases eq
  exact ho j ha
theorem ss_setDK {i : Nat} {x : Str} {pos' dp : Pos} (hN : X.N.Nodup) (hi : X.N[i]? = some x) (hx : Loc X.env.scope x) (hs : swapsWith (.Dict [] [] dp) (some (.Name x pos')) pos.line X.env = pure false := by rfl) (hf : X.fn x = true ∨ X.env.scope.names.lookup x = some .local := by first | exact .inl rfl | exact .inr rfl | assumption) :
    PS X (.Assign [.Name x pos'] (.Dict [] [] dp) pos) (tMS X.K X.mg W (mAsgD false i)) := by
  refine PS_imp (ps_set hN hi hx pe_dnewK hs hf) fun D σ H ⟨B, F, env, s, h⟩ p hp => ?_
  obtain ⟨s1, a1, a2, a3, a4⟩ := s.laidO (o := .dK []) hp
  refine h F _ _ (s1.setSlot (s := .od false [] []) ⟨p, [], rfl, a1, a2, ⟨[], rfl, rfl, upd_same⟩, rfl⟩ fun _ j q _ eq ha => ?_) (Ex.refl F)
  cases eq
  exact a4 j ha
theorem ss_setDT {i : Nat} {x : Str} {pos' dp : Pos} (hN : X.N.Nodup) (hi : X.N[i]? = some x) (hx : Loc X.env.scope x) (hs : swapsWith (.Dict [] [] dp) (some (.Name x pos')) pos.line X.env = pure false := by rfl) (hf : X.fn x = true ∨ X.env.scope.names.lookup x = some .local := by first | exact .inl rfl | exact .inr rfl | assumption) :
    PS X (.Assign [.Name x pos'] (.Dict [] [] dp) pos) (tMS X.K X.mg W (mAsgD true i)) := by
  refine PS_imp (ps_set hN hi hx pe_dnewT hs hf) fun D σ H ⟨B, F, env, s, h⟩ p hp => ?_
  obtain ⟨s1, a1, a2, a3, a4⟩ := s.laidO (o := .dT []) hp
  refine h F _ _ (s1.setSlot (s := .od true [] []) ⟨p, [], rfl, a1, a2, ⟨[], rfl, rfl, upd_same⟩, rfl⟩ fun _ j q _ eq ha => ?_) (Ex.refl F)
  cases eq
  exact a4 j ha
/-- an owned list that is handed on at once -/
def mFrz (m : MA) : ME := fun env => (m env).bind fun (ds, e1) => .ok (.lst ds, e1)
theorem se_frz (h : PE X e (tMO X.K X.mg W ml)) : PE X e (tM X.K X.mg W (mFrz ml)) := by
  refine PE_imp h fun σ H Q ⟨B, F, env, s, h⟩ => ?_
  refine ⟨B, F, env, s, (Pst.bind h).imp fun ds env1 F1 H1 s1 e1 h1 p vs ho hF h0 hio hH hd => ?_⟩
  obtain ⟨e2, s2⟩ := s1.freezeT ho hF h0 hH
  exact h1 _ H1 s2 e2 _ ⟨p, vs, rfl, .inl (.inl upd_same), hd.ex e2⟩
theorem ss_nil : PSs X [] (tMS X.K X.mg W mPass) := PSs_imp pss_nil fun D σ H ⟨B, F, env, s, h⟩ => h F σ H s (Ex.refl F)
theorem ss_cons (h1 : PS X st (tMS X.K X.mg W sa)) (h2 : PSs X sts (tMS X.K X.mg W sb)) : PSs X (st :: sts) (tMS X.K X.mg W (mSeq sa sb)) := by
  refine PSs_imp (pss_cons h1 h2) fun D σ H ⟨B, F, env, s, h⟩ => ⟨B, F, env, s, ?_⟩
  unfold mSeq at h
  cases q : sa env with
  | bad => rw [q] at h; exact h
  | exc x e1 => rw [q] at h; exact h
  | ok p =>
    obtain ⟨f, e1⟩ := p
    rw [q] at h
    cases f with
    | nx => exact fun F1 σ1 H1 s1 ex1 => ⟨B, F1, e1, s1, PstS.mono ex1 h⟩
    | br => exact h
    | ct => exact h
    | rt d => exact h
    | ro d => exact h
theorem ss_one (h1 : PS X st (tMS X.K X.mg W sa)) : PSs X [st] (tMS X.K X.mg W sa) := pss_one h1
theorem ss_never : PS X st (tMS X.K X.mg W mDead) := PS_imp ps_never fun D σ H ⟨B, F, env, s, h⟩ => h
theorem sss_never : PSs X sts (tMS X.K X.mg W mDead) := PSs_imp pss_never fun D σ H ⟨B, F, env, s, h⟩ => h
theorem ss_pass : PS X (.Pass pos) (tMS X.K X.mg W mPass) := PS_imp ps_pass fun D σ H ⟨B, F, env, s, h⟩ => h F σ H s (Ex.refl F)
theorem ss_break : PS X (.Break pos) (tMS X.K X.mg W mBreak) := PS_imp ps_break fun D σ H ⟨B, F, env, s, h⟩ => h F σ H s (Ex.refl F)
theorem ss_cont : PS X (.Continue pos) (tMS X.K X.mg W mCont) := PS_imp ps_continue fun D σ H ⟨B, F, env, s, h⟩ => h F σ H s (Ex.refl F)
theorem ss_doc {x : Str} {j pos'} : PS X (.Expr (.Constant (.str x) j pos) pos') (tMS X.K X.mg W mPass) := PS_imp ps_doc fun D σ H ⟨B, F, env, s, h⟩ => h F σ H s (Ex.refl F)
theorem ss_ret (he : PE X e (tM X.K X.mg W m)) : PS X (.Return (some e) pos) (tMS X.K X.mg W (mRet m)) := by
  refine PS_imp (ps_ret he) fun D σ H ⟨B, F, env, s, h⟩ => ?_
  exact ⟨B, F, env, s, (PstS.bind h).imp fun d env1 F1 H1 s1 e1 h1 v hv => h1 F1 σ H1 s1 (Ex.refl F1) v hv⟩
theorem ss_retN : PS X (.Return none pos) (tMS X.K X.mg W mRetN) := PS_imp ps_retN fun D σ H ⟨B, F, env, s, h⟩ => h F σ H s (Ex.refl F) .non rfl
theorem ss_drop (he : PE X e (tM X.K X.mg W m)) (hs : swapsWith e none pos.line X.env = pure false := by rfl) : PS X (.Expr e pos) (tMS X.K X.mg W (mDrop m)) := by
  refine PS_imp (ps_expr he hs) fun D σ H ⟨B, F, env, s, h⟩ => ?_
  exact ⟨B, F, env, s, (PstS.bind h).imp fun d env1 F1 H1 s1 e1 h1 v hv => h1 F1 σ H1 s1 (Ex.refl F1)⟩
theorem ss_if (hc : PT X c (tMT X.K X.mg W ta)) (ha : PSs X as (tMS X.K X.mg W sa)) (hb : PSs X bs (tMS X.K X.mg W sb)) : PS X (.If c as bs pos) (tMS X.K X.mg W (mIf ta sa sb)) := by
  refine PS_imp (ps_if hc ha hb) fun D σ H ⟨B, F, env, s, h⟩ => ?_
  refine ⟨B, F, env, s, (PstS.bind h).imp fun d env1 F1 H1 s1 e1 h1 => ?_⟩
  cases d with
  | true => exact ⟨B, F1, env1, s1, h1⟩
  | false => exact ⟨B, F1, env1, s1, h1⟩
theorem PstS.kill {K : PySem.W.Frag} {mg : MG} {W : WX} {B : Base} {F : Hp} {D : Ends} {r : Rs (Fl × Env)} {is : List Nat} (h : PstS K mg W B F D (r.bind fun (f, e1) => .ok (f, killAll is e1))) : PstS K mg W B F D r := by
  cases r with
  | bad => exact h
  | exc x env' => exact h
  | ok p => exact fun F1 σ1 H1 s1 e1 => h F1 σ1 H1 (s1.killAll is) e1
theorem sss_kill {is : List Nat} (h : PSs X sts (tMS X.K X.mg W sa)) : PSs X sts (tMS X.K X.mg W (mKill is sa)) := PSs_imp h fun D σ H ⟨B, F, env, s, h⟩ => ⟨B, F, env, s, PstS.kill h⟩

/-! ### tests -/
theorem tMT_tst {f : Unit → TE → TT} : ∀ σ H Q, tMT X.K X.mg W (mTst m) σ H Q → tB (tM X.K X.mg W m) σ H Q := by
  rintro σ H Q ⟨B, F, env, s, h⟩
  refine ⟨B, F, env, s, (Pst.bind h).imp fun d env1 F1 H1 s1 e1 h1 v hv => ?_⟩
  cases d with
  | bl b =>
    have hv : v = .bl b := hv
    exact ⟨b, hv, h1 F1 H1 s1 (Ex.refl F1)⟩
  | _ => exact h1.elim
theorem st_val (h : PE X e (tM X.K X.mg W m)) (he : ∀ whole, isTrue e X.env whole = (do let v ← whole; standAt e.pos; holding [v] (truthy v)) := by intro _; rfl) : PT X e (tMT X.K X.mg W (mTst m)) := PT_imp (pt_val h he) (tMT_tst (f := fun _ _ => fun _ _ _ => True))
theorem st_cmp {op : CmpOp} {r : R2} {f : D → D → Option D} {oa ob : Opd} (ho : OpR X (compareOp op) r) (hs : OpD X.K X.mg r f) (ha : PE X a (tOpd X.K X.mg W oa)) (hb : PE X b (tOpd X.K X.mg W ob)) (hm : behindInMarks op b = false := by first | exact nobehind _ (by decide) (by decide) | rfl) :
    PT X (.Compare a [op] [b] pos) (tMT X.K X.mg W (mTst (mBin f oa ob))) := by
  refine PT_imp (pt_cmpR ho ha hb hm) fun σ H Q h => ?_
  have h2 := tMT_tst (X := X) (W := W) (f := fun _ _ => fun _ _ _ => True) σ H Q h
  exact tM_bin hs σ H _ h2
theorem tMT_and : ∀ σ H Q, tMT X.K X.mg W (mAnd ta tb) σ H Q → tAnd (tMT X.K X.mg W ta) (tMT X.K X.mg W tb) σ H Q := by
  rintro σ H Q ⟨B, F, env, s, h⟩
  refine ⟨B, F, env, s, (Pst.bind h).imp fun c env1 F1 H1 s1 e1 h1 => ?_⟩
  cases c with
  | true => exact ⟨B, F1, env1, s1, h1⟩
  | false => exact h1 F1 H1 s1 (Ex.refl F1)
theorem tMT_or : ∀ σ H Q, tMT X.K X.mg W (mOr ta tb) σ H Q → tOr (tMT X.K X.mg W ta) (tMT X.K X.mg W tb) σ H Q := by
  rintro σ H Q ⟨B, F, env, s, h⟩
  refine ⟨B, F, env, s, (Pst.bind h).imp fun c env1 F1 H1 s1 e1 h1 => ?_⟩
  cases c with
  | true => exact h1 F1 H1 s1 (Ex.refl F1)
  | false => exact ⟨B, F1, env1, s1, h1⟩
variable {rest : List Expr}
theorem PW_imp {t t' : TT} (h : PW X e t) (i : ∀ σ H Q, t' σ H Q → t σ H Q) : PW X e t' := ⟨fun wh pins s σ H Q I q => h.run wh pins s σ H Q I (i σ H Q q)⟩
theorem sw_and1 (ha : PT X a (tMT X.K X.mg W ta)) : PW X (.BoolOp .And [a] pos) (tMT X.K X.mg W ta) := pw_and1 ha
theorem sw_or1 (ha : PT X a (tMT X.K X.mg W ta)) : PW X (.BoolOp .Or [a] pos) (tMT X.K X.mg W ta) := pw_or1 ha
theorem sw_and (ha : PT X a (tMT X.K X.mg W ta)) (hb : PW X (.BoolOp .And (b :: rest) pos) (tMT X.K X.mg W tb)) : PW X (.BoolOp .And (a :: b :: rest) pos) (tMT X.K X.mg W (mAnd ta tb)) := PW_imp (pw_and ha hb) tMT_and
theorem sw_or (ha : PT X a (tMT X.K X.mg W ta)) (hb : PW X (.BoolOp .Or (b :: rest) pos) (tMT X.K X.mg W tb)) : PW X (.BoolOp .Or (a :: b :: rest) pos) (tMT X.K X.mg W (mOr ta tb)) := PW_imp (pw_or ha hb) tMT_or
theorem st_w (h : PW X e (tMT X.K X.mg W ta)) : PT X e (tMT X.K X.mg W ta) := h.pt
theorem st_not (ha : PT X a (tMT X.K X.mg W ta)) : PT X (.UnaryOp .Not a pos) (tMT X.K X.mg W (mNot ta)) := by
  refine PT_imp (pt_not ha) fun σ H Q ⟨B, F, env, s, h⟩ => ?_
  exact ⟨B, F, env, s, (Pst.bind h).imp fun c env1 F1 H1 s1 e1 h1 => h1 F1 H1 s1 (Ex.refl F1)⟩
/-! ### and, or, not as values, of bools -/
def mAndV (a b : ME) : ME := fun env => (a env).bind fun (d, e1) => match d with
  | .bl true => b e1
  | .bl false => .ok (.bl false, e1)
  | _ => .bad
def mOrV (a b : ME) : ME := fun env => (a env).bind fun (d, e1) => match d with
  | .bl true => .ok (.bl true, e1)
  | .bl false => b e1
  | _ => .bad
def mNotV (a : ME) : ME := fun env => (a env).bind fun (d, e1) => match d with
  | .bl b => .ok (.bl (!b), e1)
  | _ => .bad
theorem se_one {op} (h : PE X a (tM X.K X.mg W m)) : PE X (.BoolOp op [a] pos) (tM X.K X.mg W m) := pe_one h
theorem se_and (ha : PE X a (tM X.K X.mg W ma)) (hb : PE X (.BoolOp .And (b :: rest) pos) (tM X.K X.mg W mb)) : PE X (.BoolOp .And (a :: b :: rest) pos) (tM X.K X.mg W (mAndV ma mb)) := by
  refine PE_imp (pe_and ha hb) fun σ H Q ⟨B, F, env, s, h⟩ => ?_
  refine ⟨B, F, env, s, (Pst.bind h).imp fun d env1 F1 H1 s1 e1 h1 v hv => ?_⟩
  cases d with
  | bl b =>
    have hv : v = .bl b := hv
    refine ⟨b, hv, ?_⟩
    cases b with
    | true => exact ⟨B, F1, env1, s1, h1⟩
    | false => exact h1 F1 H1 s1 (Ex.refl F1) _ rfl
  | _ => exact h1.elim
theorem se_or (ha : PE X a (tM X.K X.mg W ma)) (hb : PE X (.BoolOp .Or (b :: rest) pos) (tM X.K X.mg W mb)) : PE X (.BoolOp .Or (a :: b :: rest) pos) (tM X.K X.mg W (mOrV ma mb)) := by
  refine PE_imp (pe_or ha hb) fun σ H Q ⟨B, F, env, s, h⟩ => ?_
  refine ⟨B, F, env, s, (Pst.bind h).imp fun d env1 F1 H1 s1 e1 h1 v hv => ?_⟩
  cases d with
  | bl b =>
    have hv : v = .bl b := hv
    refine ⟨b, hv, ?_⟩
    cases b with
    | true => exact h1 F1 H1 s1 (Ex.refl F1) _ rfl
    | false => exact ⟨B, F1, env1, s1, h1⟩
  | _ => exact h1.elim
theorem se_not (ha : PE X a (tM X.K X.mg W ma)) : PE X (.UnaryOp .Not a pos) (tM X.K X.mg W (mNotV ma)) := by
  refine PE_imp (pe_not ha) fun σ H Q ⟨B, F, env, s, h⟩ => ?_
  refine ⟨B, F, env, s, (Pst.bind h).imp fun d env1 F1 H1 s1 e1 h1 v hv => ?_⟩
  cases d with
  | bl b =>
    have hv : v = .bl b := hv
    exact ⟨b, hv, h1 F1 H1 s1 (Ex.refl F1) _ rfl⟩
  | _ => exact h1.elim
theorem se_ife (hc : PT X c (tMT X.K X.mg W ta)) (ha : PE X a (tM X.K X.mg W ma)) (hb : PE X b (tM X.K X.mg W mb)) : PE X (.IfExp c a b pos) (tM X.K X.mg W (mIfE ta ma mb)) := by
  refine PE_imp (pe_ifExp hc ha hb) fun σ H Q ⟨B, F, env, s, h⟩ => ?_
  refine ⟨B, F, env, s, (Pst.bind h).imp fun d env1 F1 H1 s1 e1 h1 => ?_⟩
  cases d with
  | true => exact ⟨B, F1, env1, s1, h1⟩
  | false => exact ⟨B, F1, env1, s1, h1⟩
/-- an operand handed on: a constant -/
def mK (d : D) : ME := fun env => .ok (d, env)
theorem sm_c {d : D} {v : V} (hd : scalD d = some v) (h : PE X e (tC v)) : PE X e (tM X.K X.mg W (mK d)) := PE_imp h fun σ H Q ⟨B, F, env, s, h⟩ => h F H s (Ex.refl F) v (scalD_fz hd)
theorem sm_int {i : Int} {j pos} : PE X (.Constant (.int i) j pos) (tM X.K X.mg W (mK (.int i))) := sm_c rfl pe_int
theorem sm_bl {b j pos} : PE X (.Constant (.bool b) j pos) (tM X.K X.mg W (mK (.bl b))) := sm_c rfl pe_bl
theorem sm_non {j pos} : PE X (.Constant .none j pos) (tM X.K X.mg W (mK .non)) := sm_c rfl pe_non
theorem sm_str {x : Str} {j pos} : PE X (.Constant (.str x) j pos) (tM X.K X.mg W (mK (.str x))) := sm_c rfl pe_str
end
end Mi

set_option Elab.async false
set_option linter.all false
set_option maxRecDepth 100000
namespace Mi
open PySem PySem.Spec PyProof.Rows L2

/-! ## targets -/
abbrev Bd := D → Env → Option Env
abbrev Bds := List D → Env → Option Env
def bName (i : Nat) : Bd := fun d env => some (env.set i (.fz d))
def bNil : Bds := fun ds env => match ds with
  | [] => some env
  | _ => none
def bCons (b : Bd) (bs : Bds) : Bds := fun ds env => match ds with
  | d :: r => match b d env with
    | some e1 => bs r e1
    | none => none
  | [] => none
def bTup (n : Nat) (bs : Bds) : Bd := fun d env => match d with
  | .tup ds => if ds.length = n then bs ds env else none
  | _ => none
section
variable (K : PySem.W.Frag) (mg : MG)
abbrev slots (σ : L2.St) : List (Option V) := σ
/-- σ' is σ but for the slots js -/
def Near (js : List Nat) (σ σ' : L2.St) : Prop := (slots σ').length = (slots σ).length ∧ ∀ j, j ∉ js → (slots σ')[j]? = (slots σ)[j]?
def GD (g : TG) (b : Bd) (js : List Nat) : Prop := ∀ B F env σ H d v env' (Q : L2.St → Hp → Prop), Sta K mg B F env σ H → Fz K mg F d v → b d env = some env' → (∀ σ', Sta K mg B F env' σ' H → Near js σ σ' → Q σ' H) → g v σ H Q
def GDs (g : TGs) (b : Bds) (js : List Nat) : Prop := ∀ B F env σ H ds vs env' (Q : L2.St → Hp → Prop), Sta K mg B F env σ H → FzL K mg F ds vs → b ds env = some env' → (∀ σ', Sta K mg B F env' σ' H → Near js σ σ' → Q σ' H) → g vs σ H Q
end
section
variable {K : PySem.W.Frag} {mg : MG}
theorem Near.refl {js : List Nat} {σ : L2.St} : Near js σ σ := ⟨rfl, fun _ _ => rfl⟩
theorem gd_name (i : Nat) : GD K mg (gName i) (bName i) [i] := fun B F env σ H d v env' Q s hd hb q => by
  cases hb
  refine q _ (s.setFz hd) ⟨List.length_set, fun j hj => ?_⟩
  exact List.getElem?_set_ne (fun z => hj (by simp [z]))
theorem gds_nil : GDs K mg gNil bNil [] := fun B F env σ H ds vs env' Q s hd hb q => by
  cases ds with
  | nil => cases hb; exact ⟨hd, q σ s Near.refl⟩
  | cons d r => cases hb
theorem gds_cons {g : TG} {gs : TGs} {b : Bd} {bs : Bds} {js ks : List Nat} (h : GD K mg g b js) (hs : GDs K mg gs bs ks) : GDs K mg (gCons g gs) (bCons b bs) (js ++ ks) := fun B F env σ H ds vs env' Q s hd hb q => by
  cases ds with
  | nil => cases hb
  | cons d r =>
    obtain ⟨v, vr, rfl, h1, h2⟩ := hd
    unfold bCons at hb
    simp only at hb
    cases e : b d env with
    | none => rw [e] at hb; cases hb
    | some e1 =>
      rw [e] at hb
      refine ⟨v, vr, rfl, h B F env σ H d v e1 _ s h1 e fun σ1 s1 n1 => ?_⟩
      refine hs B F e1 σ1 H r vr env' _ s1 h2 hb fun σ2 s2 n2 => q σ2 s2 ⟨n2.1.trans n1.1, fun j hj => ?_⟩
      rw [List.mem_append] at hj
      rw [n2.2 j fun z => hj (.inr z), n1.2 j fun z => hj (.inl z)]
theorem gd_tup {n : Nat} {gs : TGs} {bs : Bds} {js : List Nat} (hs : GDs K mg gs bs js) : GD K mg (gTup K n gs) (bTup n bs) js := fun B F env σ H d v env' Q s hd hb q => by
  cases d with
  | tup ds =>
    obtain ⟨a, vs, rfl, h1, h2⟩ := hd
    unfold bTup at hb
    simp only at hb
    split at hb
    · rename_i hl
      exact ⟨a, vs, rfl, .inl (.inl (s.fH.ex _ _ rfl h1)), by rw [← h2.length]; exact hl, hs B F env σ H ds vs env' Q s h2 hb q⟩
    · cases hb
  | _ => cases hb
end

/-! ## what is walked -/
def ItD (K : PySem.W.Frag) (mg : MG) (J : It) (ds : List D) (F : Hp) : Prop :=
  ∃ G Y, Walk J ds.length G Y ∧ (∀ H, Ex F H → G H) ∧ ∀ F1 i H x H', i < ds.length → Ex F F1 → Ex F1 H → Y i H x H' → ∃ F2 d, ds[i]? = some d ∧ Step [] F1 H F2 H' ∧ Fz K mg F2 d x
def tMI (K : PySem.W.Frag) (mg : MG) (W : WX) (m : MA) : TI := fun σ H R => ∃ B F env, Sta K mg B F env σ H ∧ Pst K mg W B F σ (fun ds _ F' H' => ∀ J, ItD K mg J ds F' → R J H') (m env)
theorem PI_imp {X : Cx} {tg e : Expr} {t t' : TI} (h : PI X tg e t) (i : ∀ σ H R, t' σ H R → t σ H R) : PI X tg e t' := ⟨fun pins s σ H R I q => h.run pins s σ H R I (i σ H R q)⟩
theorem PI_or {X : Cx} {tg e : Expr} {t t' : TI} (h : PI X tg e t) (h' : PI X tg e t') : PI X tg e (fun σ H R => t σ H R ∨ t' σ H R) := ⟨fun pins s σ H R I q => q.elim (h.run pins s σ H R I) (h'.run pins s σ H R I)⟩
/-- items of a list, a tuple -/
def mItems (m : ME) : MA := fun env => (m env).bind fun (d, e1) => match d with
  | .lst ds => .ok (ds, e1)
  | .tup ds => .ok (ds, e1)
  | _ => .bad
def strItems (s : Str) : List D := s.cps.toList.map fun c => .str ⟨#[c]⟩
def mItemsS (m : ME) : MA := fun env => (m env).bind fun (d, e1) => match d with
  | .str s => .ok (strItems s, e1)
  | _ => .bad
def rngD (lo : Int) (n : Nat) : List D := (List.range n).map fun (i : Nat) => .int (lo + (i : Int))
def mRange1 (a : Opd) : MA := fun env => (a.run env).bind fun (x, e1) => match a.get x e1 with
  | some (.int j) => if -lim ≤ j ∧ j ≤ lim then .ok (rngD 0 j.toNat, e1) else .bad
  | _ => .bad
def mRange2 (a b : Opd) : MA := fun env => (runL [a, b] env).bind fun (xs, e1) => match getL [a, b] xs e1 with
  | some [.int i, .int j] => if -lim ≤ i ∧ i ≤ lim ∧ -lim ≤ j ∧ j ≤ lim then .ok (rngD i (j - i).toNat, e1) else .bad
  | _ => .bad
theorem rngD_length {lo : Int} {n : Nat} : (rngD lo n).length = n := by simp [rngD]
theorem rngD_get {lo : Int} {n i : Nat} (h : i < n) : (rngD lo n)[i]? = some (.int (lo + (i : Int))) := by simp [rngD, h]
theorem limI : (lim : Int) < 2 ^ 62 := by decide +kernel
section
variable {X : Cx} {W : WX} {tg e a b : Expr} {m : ME}
theorem itd_list {K : PySem.W.Frag} {mg : MG} {F : Hp} {p : Addr} {vs : List V} {ds : List D} (h : SqL K F p vs) (hd : FzL K mg F ds vs) : ItD K mg (Itl K p) ds F := by
  refine ⟨_, _, by rw [hd.length]; exact walk_list, fun H e => e.sqL h, fun F1 i H x H' hi e1 e2 y => ?_⟩
  obtain ⟨rfl, y⟩ := y
  obtain ⟨d, e, f⟩ := hd.getV y
  exact ⟨F1, d, e, Step.refl e2, f.ex e1⟩
theorem itd_tup {K : PySem.W.Frag} {mg : MG} {F : Hp} {p : Addr} {vs : List V} {ds : List D} (h : SqT K F p vs) (hd : FzL K mg F ds vs) : ItD K mg (Itt K p) ds F := by
  refine ⟨_, _, by rw [hd.length]; exact walk_tup, fun H e => e.sqT h, fun F1 i H x H' hi e1 e2 y => ?_⟩
  obtain ⟨rfl, y⟩ := y
  obtain ⟨d, e, f⟩ := hd.getV y
  exact ⟨F1, d, e, Step.refl e2, f.ex e1⟩
theorem si_items (h : PE X e (tM X.K X.mg W m)) : PI X tg e (tMI X.K X.mg W (mItems m)) := by
  refine PI_imp (PI_or (pi_list h) (pi_tup h)) fun σ H R ⟨B, F, env, s, q⟩ => ?_
  have q2 := Pst.bind q
  cases r : m env with
  | bad => rw [r] at q2; exact q2.elim
  | exc x e1 => rw [r] at q2; exact .inl ⟨B, F, env, s, by rw [r]; exact q2⟩
  | ok p =>
    obtain ⟨d, e1⟩ := p
    rw [r] at q2
    cases d with
    | lst ds =>
      refine .inl ⟨B, F, env, s, by
        rw [r]
        intro F1 H1 s1 ex1 v hv
        obtain ⟨p, vs, rfl, h1, h2⟩ := hv
        exact ⟨p, rfl, ⟨vs, s1.fH.sqL h1⟩, q2 F1 H1 s1 ex1 F1 H1 s1 (Ex.refl F1) _ (itd_list h1 h2)⟩⟩
    | tup ds =>
      refine .inr ⟨B, F, env, s, by
        rw [r]
        intro F1 H1 s1 ex1 v hv
        obtain ⟨p, vs, rfl, h1, h2⟩ := hv
        exact ⟨p, rfl, ⟨vs, .inl (.inl (s1.fH.ex _ _ rfl h1))⟩, q2 F1 H1 s1 ex1 F1 H1 s1 (Ex.refl F1) _ (itd_tup (.inl (.inl h1)) h2)⟩⟩
    | _ => exact .inl ⟨B, F, env, s, by
        rw [r]
        intro F1 H1 s1 ex1
        exact (q2 F1 H1 s1 ex1).elim⟩
theorem si_str (h : PE X e (tM X.K X.mg W m)) : PI X tg e (tMI X.K X.mg W (mItemsS m)) := by
  refine PI_imp (pi_str h) fun σ H R ⟨B, F, env, s, q⟩ => ?_
  refine ⟨B, F, env, s, (Pst.bind q).imp fun d env1 F1 H1 s1 e1 h1 v hv => ?_⟩
  cases d with
  | str z =>
    refine ⟨z, hv, h1 F1 H1 s1 (Ex.refl F1) _ ⟨_, _, by rw [show (strItems z).length = z.cps.size by simp [strItems]]; exact walk_str, fun _ _ => trivial, fun F1 i H x H' hi e1 e2 y => ?_⟩⟩
    obtain ⟨rfl, c, hc, rfl⟩ := y
    refine ⟨F1, .str ⟨#[c]⟩, ?_, Step.refl e2, rfl⟩
    unfold strItems
    rw [List.getElem?_map, Array.getElem?_toList, hc]
    rfl
  | _ => exact h1.elim
theorem itd_rng {K : PySem.W.Frag} {mg : MG} {F : Hp} {lo : Int} {n : Nat} : ItD K mg (Itr lo n) (rngD lo n) F := by
  refine ⟨_, _, by rw [rngD_length]; exact walk_range, fun _ _ => trivial, fun F1 i H x H' hi e1 e2 y => ?_⟩
  obtain ⟨rfl, rfl⟩ := y
  rw [rngD_length] at hi
  exact ⟨F1, _, rngD_get hi, Step.refl e2, rfl⟩
theorem si_range1 {oa : Opd} {p pos : Pos} (hg : Gl X "range") (hm : X.mg "range" = none) (ha : PE X a (tOpd X.K X.mg W oa)) (hs : starEach [a] X.env = [(false, eval a X.env)] := by rfl) : PI X tg (.Call (.Name "range" p) [a] [] pos) (tMI X.K X.mg W (mRange1 oa)) := by
  refine PI_imp (pi_range1 hg hm (pa_cons ha pa_nil hs) hs) fun σ H R ⟨B, F, env, s, q⟩ => ?_
  refine ⟨B, F, env, s, (Pst.bind q).imp fun x env1 F1 H1 s1 e1 h1 v hv => ?_⟩
  simp only at h1
  cases g : oa.get x env1 with
  | none => rw [g] at h1; exact h1.elim
  | some d =>
    rw [g] at h1
    cases d with
    | int j =>
      simp only at h1
      split at h1
      · rename_i hj
        have hv : v = .int j := hv.fb s1 g
        have l := limI
        subst hv
        exact ⟨j, rfl, by omega, by omega, h1 F1 H1 s1 (Ex.refl F1) _ itd_rng⟩
      · exact h1.elim
    | _ => exact h1.elim
theorem si_range2 {oa ob : Opd} {p pos : Pos} (hg : Gl X "range") (hm : X.mg "range" = none) (ha : PE X a (tOpd X.K X.mg W oa)) (hb : PE X b (tOpd X.K X.mg W ob)) (hs : starEach [a, b] X.env = [(false, eval a X.env), (false, eval b X.env)] := by rfl) (hs2 : starEach [b] X.env = [(false, eval b X.env)] := by rfl) :
    PI X tg (.Call (.Name "range" p) [a, b] [] pos) (tMI X.K X.mg W (mRange2 oa ob)) := by
  refine PI_imp (pi_range2 hg hm (sa_cons ha (sa_cons hb sa_nil hs2) (by rw [hs, hs2])) hs hs2) fun σ H R ⟨B, F, env, s, q⟩ => ?_
  refine ⟨B, F, env, s, (Pst.bind q).imp fun x env1 F1 H1 s1 e1 h1 vs hv => ?_⟩
  simp only at h1
  cases g : getL [oa, ob] x env1 with
  | none => rw [g] at h1; exact h1.elim
  | some ds =>
    rw [g] at h1
    have hf := hv.fb s1 g
    split at h1
    · rename_i i j eq
      cases eq
      split at h1
      · rename_i hj
        obtain ⟨v, r, rfl, f1, w, r2, rfl, f2, rfl⟩ := hf
        have f1 : v = .int i := f1
        have f2 : w = .int j := f2
        subst f1 f2
        have l := limI
        exact ⟨i, j, rfl, ⟨by omega, by omega, by omega, by omega⟩, h1 F1 H1 s1 (Ex.refl F1) _ itd_rng⟩
      · exact h1.elim
    · exact h1.elim
end

/-! ## for -/
def mForGo (b : Bd) (body : MS) : List D → Env → Rs (Fl × Env)
  | [], env => .ok (.nx, env)
  | d :: ds, env => match b d env with
    | none => .bad
    | some e1 => match body e1 with
      | .ok (.nx, e2) => mForGo b body ds e2
      | .ok (.ct, e2) => mForGo b body ds e2
      | .ok (.br, e2) => .ok (.nx, e2)
      | r => r
def mFor (it : MA) (b : Bd) (body : MS) : MS := fun env => (it env).bind fun (ds, e1) => mForGo b body ds e1
section
variable {X : Cx} {W : WX} {tg iter : Expr} {body : List Stmt} {pos : Pos} {it : MA} {g : TG} {b : Bd} {js : List Nat} {mb : MS}
theorem ss_for (hp : PassesOwn (model X.prog X.w) X.A X.env X.xe) (hc : X.calm = true) (hi : PI X tg iter (tMI X.K X.mg W it)) (hg : PG X tg g) (gd : GD X.K X.mg g b js) (hb : PSs X body (tMS X.K X.mg W mb))
    (hs : ∀ x, foldedSetIterable iter X.env x = pure x := by intro _; rfl) : PS X (.For tg iter body [] pos) (tMS X.K X.mg W (mFor it b mb)) := by
  refine PS_imp (ps_for hp hc hi hg hb hs) fun D σ H ⟨B, F, env, s, h⟩ => ?_
  refine ⟨B, F, env, s, (PstS.bind h).imp fun ds env1 F1 H1 s1 e1 h1 J hJ => ?_⟩
  obtain ⟨G, Y, w, hG, hY⟩ := hJ
  refine for_it w (fun i σ' H' => ∃ F' env', Sta X.K X.mg B F' env' σ' H' ∧ Ex F1 F' ∧ PstS X.K X.mg W B F' D (mForGo b mb (ds.drop i) env')) ⟨F1, env1, s1, Ex.refl F1, h1⟩
    (fun i σ' H' _ ⟨F', env', s', ex, _⟩ => hG H' (ex.trans s'.fH)) (fun i x σ' H' H2 hi ⟨F', env', s', ex, hp⟩ y => ?_) (fun σ' H' ⟨F', env', s', ex, hp⟩ => ?_)
  · obtain ⟨F2, d, hd, st, fz⟩ := hY F' i H' x H2 hi ex s'.fH y
    have ed : ds.drop i = d :: ds.drop (i + 1) := by
      rw [List.drop_eq_getElem_cons hi]
      rw [List.getElem?_eq_getElem hi] at hd
      cases hd
      rfl
    rw [ed] at hp
    unfold mForGo at hp
    cases eb : b d env' with
    | none => rw [eb] at hp; exact hp.elim
    | some e2 =>
      rw [eb] at hp
      simp only at hp
      refine gd B F2 env' σ' H2 d x e2 _ (s'.step st) fz eb fun σ3 s3 _ => ?_
      have e12 : Ex F1 F2 := ex.trans st.fF
      have hp := PstS.mono st.fF hp
      refine ⟨B, F2, e2, s3, ?_⟩
      cases er : mb e2 with
      | bad => rw [er] at hp; exact hp
      | exc x1 e3 => rw [er] at hp; exact hp
      | ok p =>
        obtain ⟨f, e3⟩ := p
        rw [er] at hp
        cases f with
        | nx => exact fun F4 σ4 H4 s4 ex4 => ⟨F4, e3, s4, e12.trans ex4, PstS.mono ex4 hp⟩
        | ct => exact fun F4 σ4 H4 s4 ex4 => ⟨F4, e3, s4, e12.trans ex4, PstS.mono ex4 hp⟩
        | br => exact hp
        | rt d => exact hp
        | ro d => exact hp
  · rw [List.drop_length] at hp
    exact hp F' σ' H' s' (Ex.refl F')
end

/-! ## while -/
def mWhileN : Nat → MT → MS → Env → Option (Rs (Fl × Env))
  | 0, _, _, _ => none
  | n + 1, t, body, env => match t env with
    | .bad => some .bad
    | .exc x e => some (.exc x e)
    | .ok (false, e1) => some (.ok (.nx, e1))
    | .ok (true, e1) => match body e1 with
      | .ok (.nx, e2) => mWhileN n t body e2
      | .ok (.ct, e2) => mWhileN n t body e2
      | .ok (.br, e2) => some (.ok (.nx, e2))
      | r => some r
open Classical in
noncomputable def mWhile (t : MT) (body : MS) : MS := fun env => if h : ∃ n r, mWhileN n t body env = some r then (Classical.choose_spec h).choose else .bad
theorem mWhileN_mono {t : MT} {body : MS} : ∀ {n m : Nat} {env : Env} {r : Rs (Fl × Env)}, mWhileN n t body env = some r → n ≤ m → mWhileN m t body env = some r
  | 0, _, _, _, h, _ => by cases h
  | n + 1, 0, _, _, _, hm => absurd hm (by omega)
  | n + 1, m + 1, env, r, h, hm => by
    unfold mWhileN at h ⊢
    cases et : t env with
    | bad => rw [et] at h; exact h
    | exc x e => rw [et] at h; exact h
    | ok p =>
      obtain ⟨c, e1⟩ := p
      rw [et] at h
      cases c with
      | false => exact h
      | true =>
        simp only at h ⊢
        cases eb : body e1 with
        | bad => rw [eb] at h; exact h
        | exc x e => rw [eb] at h; exact h
        | ok p =>
          obtain ⟨f, e2⟩ := p
          rw [eb] at h
          cases f with
          | nx => exact mWhileN_mono h (by omega)
          | ct => exact mWhileN_mono h (by omega)
          | br => exact h
          | rt d => exact h
          | ro d => exact h
theorem mWhile_of {t : MT} {body : MS} {n : Nat} {env : Env} {r : Rs (Fl × Env)} (h : mWhileN n t body env = some r) : mWhile t body env = r := by
  have hx : ∃ n r, mWhileN n t body env = some r := ⟨n, r, h⟩
  unfold mWhile
  rw [dif_pos hx]
  have h2 := (Classical.choose_spec hx).choose_spec
  rcases Nat.le_total n (Classical.choose hx) with l | l
  · have := mWhileN_mono h l
    rw [h2] at this
    exact Option.some.inj this
  · have := mWhileN_mono h2 l
    rw [h] at this
    exact (Option.some.inj this).symm
section
variable {X : Cx} {W : WX} {c : Expr} {body : List Stmt} {pos : Pos} {t : MT} {mb : MS}
theorem ss_while (hp : PassesOwn (model X.prog X.w) X.A X.env X.xe) (hc : PT X c (tMT X.K X.mg W t)) (hb : PSs X body (tMS X.K X.mg W mb)) : PS X (.While c body [] pos) (tMS X.K X.mg W (mWhile t mb)) := by
  refine PS_imp (ps_while hp hc hb) fun D σ H ⟨B, F, env, s, h⟩ => ?_
  by_cases hx : ∃ n r, mWhileN n t mb env = some r
  · obtain ⟨n, r, hr⟩ := hx
    rw [mWhile_of hr] at h
    refine ⟨fun m σ' H' => ∃ F' env' r, Sta X.K X.mg B F' env' σ' H' ∧ mWhileN m t mb env' = some r ∧ PstS X.K X.mg W B F' D r, ⟨n, F, env, r, s, hr, h⟩, ?_⟩
    rintro m σ' H' ⟨F', env', r', s', hr', hp'⟩
    cases m with
    | zero => cases hr'
    | succ m =>
      unfold mWhileN at hr'
      refine ⟨B, F', env', s', ?_⟩
      cases et : t env' with
      | bad => rw [et] at hr'; cases hr'; exact hp'
      | exc x e => rw [et] at hr'; cases hr'; exact fun F1 H1 d C s1 e1 => hp' F1 σ' H1 d C s1 e1
      | ok p =>
        obtain ⟨b, e1⟩ := p
        rw [et] at hr'
        intro F1 H1 s1 ex1
        cases b with
        | false => cases hr'; exact hp' F1 σ' H1 s1 ex1
        | true =>
          simp only at hr'
          refine ⟨fun σ2 H2 => ∃ F2 e2 r2, Sta X.K X.mg B F2 e2 σ2 H2 ∧ mWhileN m t mb e2 = some r2 ∧ PstS X.K X.mg W B F2 D r2, fun σ2 H2 q => ⟨m, by omega, q⟩, B, F1, e1, s1, ?_⟩
          cases eb : mb e1 with
          | bad => rw [eb] at hr'; cases hr'; exact hp'
          | exc x e => rw [eb] at hr'; cases hr'; exact PstS.mono ex1 hp'
          | ok p =>
            obtain ⟨f, e2⟩ := p
            rw [eb] at hr'
            cases f with
            | nx => exact fun F2 σ2 H2 s2 ex2 => ⟨F2, e2, r', s2, hr', PstS.mono (ex1.trans ex2) hp'⟩
            | ct => exact fun F2 σ2 H2 s2 ex2 => ⟨F2, e2, r', s2, hr', PstS.mono (ex1.trans ex2) hp'⟩
            | br => cases hr'; exact PstS.mono ex1 hp'
            | rt d => cases hr'; exact PstS.mono ex1 hp'
            | ro d => cases hr'; exact PstS.mono ex1 hp'
  · have : mWhile t mb env = .bad := by unfold mWhile; rw [dif_neg hx]
    rw [this] at h
    exact h.elim
end
end Mi

set_option Elab.async false
set_option linter.all false
set_option maxRecDepth 100000
namespace Mi
open PySem PySem.Spec PyProof.Rows L2

/-! ## comprehensions -/
/-- no exception leaves a comprehension's block -/
def noX {α : Type} : Rs α → Rs α
  | .exc _ _ => .bad
  | r => r
@[simp] theorem noX_ok {α : Type} (a : α) : noX (.ok a) = .ok a := rfl
@[simp] theorem noX_bad {α : Type} : noX (.bad : Rs α) = .bad := rfl
def compGo (vs : List Nat) (b : Bd) (t : MT) (m : ME) : List D → Env → Rs (List D × Env)
  | [], env => .ok ([], env)
  | d :: ds, env => match b d env with
    | none => .bad
    | some e1 => (noX (t e1)).bind fun (c, e2) => if c = true then (noX (m e2)).bind fun (y, e3) => (compGo vs b t m ds (killAll vs e3)).bind fun (r, e4) => .ok (y :: r, e4) else compGo vs b t m ds (killAll vs e2)
def mComp (vs : List Nat) (it : MA) (b : Bd) (t : MT) (m : ME) : MA := fun env => (it env).bind fun (ds, e1) => if ds.length ≤ lim then compGo vs b t m ds (killAll vs e1) else .bad

section
variable {K : PySem.W.Frag} {mg : MG} {F H : Hp} {B : Base} {σ : L2.St} {env : Env} {W : WX}
theorem killAll_get : ∀ {vs : List Nat} {env : Env} {i : Nat} {s : Sl}, (killAll vs env)[i]? = some s → (i ∈ vs ∧ s = .dead) ∨ (i ∉ vs ∧ env[i]? = some s)
  | [], _, _, _, h => .inr ⟨by simp, h⟩
  | v :: vs, env, i, s, h => by
    unfold killAll at h
    rw [List.getElem?_set] at h
    split at h
    · split at h
      · cases h; rename_i e _; exact .inl ⟨by simp [e], rfl⟩
      · cases h
    · rename_i ne
      rcases killAll_get h with ⟨a, b⟩ | ⟨a, b⟩
      · exact .inl ⟨by simp [a], b⟩
      · exact .inr ⟨by simp; exact ⟨fun z => ne z.symm, a⟩, b⟩
theorem killAll_len : ∀ (vs : List Nat) (env : Env), (killAll vs env).length = env.length
  | [], _ => rfl
  | v :: vs, env => by unfold killAll; rw [List.length_set, killAll_len vs env]
theorem wipe_get : ∀ {vs : List Nat} {σ : L2.St} {i : Nat}, (slots (wipe σ vs))[i]? = if i ∈ vs then (slots σ)[i]?.map (fun _ => none) else (slots σ)[i]?
  | [], _, _ => by simp [wipe]
  | v :: vs, σ, i => by
    show ((slots (wipe σ vs)).set v none)[i]? = _
    have hl : (slots (wipe σ vs)).length = (slots σ).length := wipe_length σ vs
    rw [List.getElem?_set]
    by_cases h : v = i
    · subst h
      rw [if_pos rfl, if_pos (by simp : v ∈ v :: vs), hl]
      split
      · rename_i hlt; rw [List.getElem?_eq_getElem hlt]; rfl
      · rename_i hlt; rw [List.getElem?_eq_none (by omega)]; rfl
    · rw [if_neg h, wipe_get]
      by_cases h2 : i ∈ vs
      · rw [if_pos h2, if_pos (by simp [h2])]
      · rw [if_neg h2, if_neg (by simp [h2]; exact fun z => h z.symm)]
theorem near_wipe {vs js : List Nat} {σ1 σ2 : L2.St} (n : Near js (wipe σ1 vs) σ2) (hj : ∀ j ∈ js, j ∈ vs) : wipe σ2 vs = wipe σ1 vs := by
  refine List.ext_getElem? fun i => ?_
  show (slots (wipe σ2 vs))[i]? = (slots (wipe σ1 vs))[i]?
  have hl : (slots σ2).length = (slots σ1).length := n.1.trans (wipe_length σ1 vs)
  rw [wipe_get, wipe_get]
  by_cases h : i ∈ vs
  · rw [if_pos h, if_pos h]
    by_cases hi : i < (slots σ1).length
    · rw [List.getElem?_eq_getElem hi, List.getElem?_eq_getElem (by omega)]; rfl
    · rw [List.getElem?_eq_none (by omega), List.getElem?_eq_none (by omega)]
  · rw [if_neg h, if_neg h, n.2 i fun z => h (hj i z), wipe_get, if_neg h]
theorem slotV_wipe {vs : List Nat} {i : Nat} (h : i ∉ vs) : slotV (wipe σ vs) i = slotV σ i := by
  unfold slotV
  show ((slots (wipe σ vs))[i]?).join = ((slots σ)[i]?).join
  rw [wipe_get, if_neg h]
theorem Sta.dead_off {vs : List Nat} {σ' : L2.St} (s : Sta K mg B F (Mi.killAll vs env) σ H) (hl : (slots σ').length = (slots σ).length) (h : ∀ i, i ∉ vs → (slots σ')[i]? = (slots σ)[i]?) : Sta K mg B F (Mi.killAll vs env) σ' H := by
  refine ⟨s.f0, s.fH, s.new, s.kee, s.ios, s.len.trans hl.symm, fun i x e => ?_, fun i j p a b => ?_, s.ioh⟩
  · rcases killAll_get e with ⟨_, rfl⟩ | ⟨hi, _⟩
    · trivial
    · have : slotV σ' i = slotV σ i := by unfold slotV; show ((slots σ')[i]?).join = ((slots σ)[i]?).join; rw [h i hi]
      rw [this]; exact s.sl i x e
  · have main : ∀ i, OwnAt (Mi.killAll vs env) σ' i p → OwnAt (Mi.killAll vs env) σ i p := fun i ⟨h1, x, h2, h3⟩ => by
      rcases killAll_get h2 with ⟨_, rfl⟩ | ⟨hi, _⟩
      · cases h3
      · exact ⟨by rw [← show (slots σ')[i]? = (slots σ)[i]? from h i hi]; exact h1, x, h2, h3⟩
    exact s.own i j p (main i a) (main j b)
theorem Sta.wiped (s : Sta K mg B F env σ H) (vs : List Nat) : Sta K mg B F (Mi.killAll vs env) (wipe σ vs) H :=
  (s.killAll vs).dead_off (wipe_length σ vs) fun i hi => by rw [wipe_get, if_neg hi]
end
theorem ex_mut {K : PySem.W.Frag} {mg : MG} {B : Base} {F H : Hp} {env : Env} {σ : L2.St} {p : Addr} {o : HO} (s : Sta K mg B F env σ H) (hF : F p = none) (h0 : B.H0 p = none) (hio : p ∉ B.io) (hn : ∀ i, ¬ OwnAt env σ i p) (hx : ∀ fs, H p ≠ some (.xd fs)) : Sta K mg B F env σ (upd H p o) := by
  have eF : Ex F (upd H p o) := ⟨fun a u h => by
      have : a ≠ p := fun z => by
        subst z
        unfold Rd at h
        rw [hF] at h
        rcases h with h | ⟨_, h⟩ <;> cases h
      unfold Rd; rw [upd_ne this]; exact s.fH.rd a u h, fun a o' hd h => by rw [upd_ne (ne_of_none h hF)]; exact s.fH.ex a o' hd h⟩
  refine ⟨s.f0, eF, s.new, fun a u h1 h2 => ?_, fun a h => ?_, s.len, fun j y e => ?_, s.own, s.ioh⟩
  · rw [upd_ne (ne_of_none h1 h0)]; exact s.kee a u h1 h2
  · rw [upd_ne (fun z => hio (by rw [← z]; exact h))]; exact s.ios a h
  · have h := s.sl j y e
    have ne : ∀ q, slotV σ j = some (.ref q) → y.owned = true → q ≠ p := fun q e1 ho z => by
      subst z
      exact hn j ⟨look_of e1, y, e, ho⟩
    cases y with
    | dead => trivial
    | fz d => exact h
    | xc q x => exact ⟨h.1, h.2.1, h.2.2.keep (Ex.refl _) fun dx fs z => by rw [upd_ne (fun z2 => by subst z2; exact hx _ z)]; exact z⟩
    | ol ds => obtain ⟨q, vs, e1, h1, h2, h3, h4⟩ := h; exact ⟨q, vs, e1, h1, h2, by rw [upd_ne (ne q e1 rfl)]; exact h3, h4⟩
    | io ds => obtain ⟨q, vs, e1, h1, h2, h3, h4⟩ := h; exact ⟨q, vs, e1, h1, h2, by rw [upd_ne (ne q e1 rfl)]; exact h3, h4⟩
    | od t ks ws => obtain ⟨q, vs, e1, h1, h2, h3, h4⟩ := h; exact ⟨q, vs, e1, h1, h2, h3.imp fun o z => by rw [upd_ne (ne q e1 rfl)]; exact z, h4⟩
abbrev WF : WX := fun _ _ _ _ => False
/-- the base within a comprehension: what its list D holds so far is kept -/
def Base.with (B : Base) (D : Addr) (acc : List V) : Base := ⟨B.F0, upd B.H0 D (.lst acc), B.io⟩
section
variable {K : PySem.W.Frag} {mg : MG} {F H : Hp} {B : Base} {σ : L2.St} {env : Env} {D : Addr} {acc : List V}
theorem Sta.into (s : Sta K mg B F env σ H) (hF : F D = none) (h0 : B.H0 D = none) (hio : D ∉ B.io) (hn : ∀ i, ¬ OwnAt env σ i D) (hH : H D = some (.lst acc)) : Sta K mg (B.with D acc) F env σ H := by
  refine ⟨s.f0, s.fH, fun a x1 x2 => ?_, fun a o x1 x2 => ?_, s.ios, s.len, fun i x e => ?_, s.own, fun a ha => ?_⟩
  · by_cases z : a = D
    · rw [z]; exact hF
    · exact s.new a (by have x1 : upd B.H0 D (.lst acc) a ≠ none := x1; rw [upd_ne z] at x1; exact x1) x2
  · have x1 : upd B.H0 D (.lst acc) a = some o := x1
    by_cases z : a = D
    · rw [z, upd_same] at x1; cases x1; rw [z]; exact hH
    · rw [upd_ne z] at x1; exact s.kee a o x1 x2
  · have q := s.sl i x e
    have ne : ∀ p, slotV σ i = some (.ref p) → x.owned = true → p ≠ D := fun p e1 ho z => by subst z; exact hn i ⟨look_of e1, x, e, ho⟩
    cases x with
    | dead => trivial
    | fz d => exact q
    | ol ds => obtain ⟨p, vs, q0, q1, q2, q3, q4⟩ := q; exact ⟨p, vs, q0, q1, by show upd B.H0 D (.lst acc) p = none; rw [upd_ne (ne p q0 rfl)]; exact q2, q3, q4⟩
    | od t ks ws => obtain ⟨p, vs, q0, q1, q2, q3, q4⟩ := q; exact ⟨p, vs, q0, q1, by show upd B.H0 D (.lst acc) p = none; rw [upd_ne (ne p q0 rfl)]; exact q2, q3, q4⟩
    | io ds => exact q
    | xc _ _ => exact q
  · show upd B.H0 D (.lst acc) a ≠ none
    rw [upd_ne (fun z => hio (by rw [← z]; exact ha))]; exact s.ioh a ha
theorem Sta.outof (s : Sta K mg (B.with D acc) F env σ H) (f0 : B.F0 D = none) (h0 : B.H0 D = none) (hio : D ∉ B.io) : Sta K mg B F env σ H ∧ F D = none ∧ (∀ i, ¬ OwnAt env σ i D) ∧ H D = some (.lst acc) := by
  have hD : (B.with D acc).H0 D = some (.lst acc) := upd_same
  have neD : ∀ p, (B.with D acc).H0 p = none → p ≠ D ∧ B.H0 p = none := fun p h => by
    have h : upd B.H0 D (.lst acc) p = none := h
    by_cases z : p = D
    · rw [z, upd_same] at h; cases h
    · rw [upd_ne z] at h; exact ⟨z, h⟩
  refine ⟨⟨s.f0, s.fH, fun a x1 x2 => ?_, fun a o x1 x2 => ?_, s.ios, s.len, fun i x e => ?_, s.own, fun a ha => ?_⟩, s.new D (by rw [hD]; simp) f0, fun i ho => ?_, s.kee D _ hD hio⟩
  · have ne : a ≠ D := fun z => x1 (by rw [z]; exact h0)
    exact s.new a (by show upd B.H0 D (.lst acc) a ≠ none; rw [upd_ne ne]; exact x1) x2
  · have ne : a ≠ D := ne_of_none x1 h0
    exact s.kee a o (by show upd B.H0 D (.lst acc) a = _; rw [upd_ne ne]; exact x1) x2
  · have q := s.sl i x e
    cases x with
    | dead => trivial
    | fz d => exact q
    | ol ds => obtain ⟨p, vs, q0, q1, q2, q3, q4⟩ := q; exact ⟨p, vs, q0, q1, (neD p q2).2, q3, q4⟩
    | od t ks ws => obtain ⟨p, vs, q0, q1, q2, q3, q4⟩ := q; exact ⟨p, vs, q0, q1, (neD p q2).2, q3, q4⟩
    | io ds => exact q
    | xc _ _ => exact q
  · have h : upd B.H0 D (.lst acc) a ≠ none := s.ioh a ha
    rw [upd_ne (fun z => hio (by rw [← z]; exact ha))] at h
    exact h
  · obtain ⟨h1, x, h2, h3⟩ := ho
    obtain ⟨q, hq, _, _, h4⟩ := s.ownAddr h2 h3
    have e1 := hq.1
    rw [h1] at e1
    have : D = q := by injection (Option.some.inj e1) with e2; injection e2
    subst this
    rcases h4 with h4 | h4
    · rw [hD] at h4; cases h4
    · exact hio h4
end
/-- what is walked, where the state stands -/
def ItB (K : PySem.W.Frag) (mg : MG) (B : Base) (J : It) (ds : List D) (F : Hp) : Prop :=
  ∃ G Y, Walk J ds.length G Y ∧ (∀ F1 env σ H, Sta K mg B F1 env σ H → Ex F F1 → G H) ∧ ∀ F1 i H x H', i < ds.length → Ex F F1 → Ex F1 H → Y i H x H' → ∃ F2 d, ds[i]? = some d ∧ Step [] F1 H F2 H' ∧ Fz K mg F2 d x
theorem ItD.b {K : PySem.W.Frag} {mg : MG} {B : Base} {J : It} {ds : List D} {F : Hp} (h : ItD K mg J ds F) : ItB K mg B J ds F := by
  obtain ⟨G, Y, w, hG, hY⟩ := h
  exact ⟨G, Y, w, fun F1 env σ H s e => hG H (e.trans s.fH), hY⟩
/-- the reading of a comprehension -/
theorem lc_core {K : PySem.W.Frag} {mg : MG} {W : WX} {g : TG} {b : Bd} {js vs : List Nat} {mt : MT} {m : ME} (gd : GD K mg g b js) (hj : ∀ j ∈ js, j ∈ vs) {B : Base} {F1 : Hp} {env1 : Env} {σ : L2.St} {H1 : Hp} {J : It} {ds : List D} {Q : VK} (s1 : Sta K mg B F1 env1 σ H1)
    (hJ : ItB K mg B J ds F1) (hlen : ds.length ≤ lim) (h1 : Pst K mg W B F1 σ (fun r env2 F2 H2 => ∀ p us, (∀ i, ¬ OwnAt env2 σ i p) → F2 p = none → B.H0 p = none → p ∉ B.io → H2 p = some (.lst us) → FzL K mg F2 r us → Q (.ref p) H2) (compGo vs b mt m ds (killAll vs env1))) :
    tLc (fun _ _ R => R J H1) g (tMT K mg WF mt) (tM K mg WF m) vs σ H1 Q := by
  intro D hD
  obtain ⟨G, Y, w, hG, hY⟩ := hJ
  obtain ⟨s2, a1, a2, a3, a4⟩ := s1.laidO (o := .lst []) hD
  have f0 : B.F0 D = none := by
    cases q : B.F0 D with
    | none => rfl
    | some u => rcases s1.f0.rd D u (.inl q) with z | ⟨_, z⟩ <;> rw [a1] at z <;> cases z
  have own0 : ∀ i, ¬ OwnAt (killAll vs env1) (wipe σ vs) i D := fun i ⟨p1, x, p2, p3⟩ => by
    rcases killAll_get p2 with ⟨_, rfl⟩ | ⟨hi, p2'⟩
    · cases p3
    · refine a4 i ⟨?_, x, p2', p3⟩
      have p1 : (slots (wipe σ vs))[i]? = some (some (.ref D)) := p1
      rw [wipe_get, if_neg hi] at p1
      exact p1
  refine lc_it w (fun i H' => ∃ F' env' accD acc, Sta K mg (B.with D acc) F' (killAll vs env') (wipe σ vs) H' ∧ Ex F1 F' ∧ FzL K mg F' accD acc ∧ accD.length ≤ i ∧
      Pst K mg W B F' σ (fun r env2 F2 H2 => ∀ p us, (∀ i, ¬ OwnAt env2 σ i p) → F2 p = none → B.H0 p = none → p ∉ B.io → H2 p = some (.lst us) → FzL K mg F2 (accD ++ r) us → Q (.ref p) H2) (compGo vs b mt m (ds.drop i) (killAll vs env')))
    ⟨F1, env1, [], [], (s2.wiped vs).into a1 a2 a3 own0 upd_same, Ex.refl F1, rfl, Nat.le_refl _, h1⟩
    (fun i H' _ ⟨F', env', accD, acc, s', ex, _⟩ => hG F' (killAll vs env') (wipe σ vs) H' (s'.outof f0 a2 a3).1 ex) (fun i x H' H2 hi ⟨F', env', accD, acc, s', ex, hacc, hal, hp⟩ y => ?_) (fun H' ⟨F', env', accD, acc, s', ex, hacc, hal, hp⟩ => ?_)
  · obtain ⟨F2, d, hd, st, fz⟩ := hY F' i H' x H2 hi ex s'.fH y
    have ed : ds.drop i = d :: ds.drop (i + 1) := by
      rw [List.drop_eq_getElem_cons hi]
      rw [List.getElem?_eq_getElem hi] at hd
      cases hd
      rfl
    rw [ed] at hp
    unfold compGo at hp
    cases eb : b d (killAll vs env') with
    | none => rw [eb] at hp; exact hp.elim
    | some e2 =>
      rw [eb] at hp
      simp only at hp
      refine gd (B.with D acc) F2 (killAll vs env') (wipe σ vs) H2 d x e2 _ (s'.step st) fz eb fun σ3 s3 n3 => ⟨near_wipe n3 hj, ?_⟩
      refine ⟨B.with D acc, F2, e2, s3, ?_⟩
      cases et : mt e2 with
      | bad => rw [et] at hp; exact hp
      | exc x1 e3 => rw [et] at hp; exact hp.elim
      | ok p =>
        obtain ⟨c, e3⟩ := p
        rw [et] at hp
        intro F3 H3 s4 ex3
        have back : ∀ {F4 : Hp} {e4 : Env} {H4 : Hp} {ac : List V}, Sta K mg (B.with D ac) F4 e4 σ3 H4 → Sta K mg (B.with D ac) F4 (killAll vs e4) (wipe σ vs) H4 := fun {F4 e4 H4 ac} st4 => by
          have q := st4.killAll vs
          refine q.dead_off ?_ fun i hi => ?_
          · exact n3.1.symm
          · exact (n3.2 i fun z => hi (hj i z)).symm
        cases c with
        | false =>
          exact ⟨F3, e3, accD, acc, back s4, (ex.trans st.fF).trans ex3, (hacc.ex st.fF).ex ex3, by omega, Pst.mono (st.fF.trans ex3) hp⟩
        | true =>
          show tM K mg WF m σ3 H3 _
          refine ⟨B.with D acc, F3, e3, s4, ?_⟩
          cases em : m e3 with
          | bad => simp [em] at hp; exact hp.elim
          | exc x1 e5 => simp [em, noX] at hp; exact hp.elim
          | ok p =>
            obtain ⟨yd, e5⟩ := p
            intro F4 H4 s5 ex4 v hv
            simp only [noX_ok, Rs.bind_ok, if_true, em] at hp
            have hp3 := Pst.bind hp
            obtain ⟨o1, o2, o3, o4⟩ := s5.outof f0 a2 a3
            have hall : Ex F' F4 := (st.fF.trans ex3).trans ex4
            have acc4 : FzL K mg F4 accD acc := hacc.ex hall
            refine ⟨acc, o4, ?_, F4, e5, accD ++ [yd], acc ++ [v], ?_, ex.trans hall, acc4.app ⟨v, [], rfl, hv, rfl⟩, by simp; omega, ?_⟩
            · rw [← acc4.length]; exact lim_lt (by omega)
            · have s6 := ex_mut (o := .lst (acc ++ [v])) o1 o2 a2 a3 o3 (fun fs z => by rw [o4] at z; cases z)
              exact back (s6.into o2 a2 a3 o3 upd_same)
            · refine (Pst.mono hall hp3).imp fun r env2 F5 H5 s6 ex6 h6 p us q1 q2 q3 q4 q5 q6 => ?_
              exact h6 F5 H5 s6 (Ex.refl F5) p us q1 q2 q3 q4 q5 (by simpa using q6)
  · rw [List.drop_length] at hp
    obtain ⟨o1, o2, o3, o4⟩ := s'.outof f0 a2 a3
    have o5 : Sta K mg B F' (killAll vs env') σ H' := o1.dead_off (wipe_length σ vs).symm fun i hi => by rw [wipe_get, if_neg hi]
    refine hp F' H' o5 (Ex.refl F') D acc (fun i ⟨p1, x, p2, p3⟩ => ?_) o2 a2 a3 o4 (by simpa using hacc)
    rcases killAll_get p2 with ⟨_, rfl⟩ | ⟨hi, p2'⟩
    · cases p3
    · refine o3 i ⟨?_, x, p2, p3⟩
      show (slots (wipe σ vs))[i]? = _
      rw [wipe_get, if_neg hi]
      exact p1
theorem lc_read {K : PySem.W.Frag} {mg : MG} {W : WX} {it : MA} {g : TG} {b : Bd} {js vs : List Nat} {mt : MT} {m : ME} (gd : GD K mg g b js) (hj : ∀ j ∈ js, j ∈ vs) :
    ∀ σ H Q, tMO K mg W (mComp vs it b mt m) σ H Q → tLc (tMI K mg W it) g (tMT K mg WF mt) (tM K mg WF m) vs σ H Q := by
  rintro σ H Q ⟨B, F, env, s, h⟩
  refine ⟨B, F, env, s, (Pst.bind h).imp fun ds env1 F1 H1 s1 e1 h1 J hJ => ?_⟩
  simp only at h1
  split at h1
  · rename_i hlen
    exact lc_core gd hj s1 hJ.b hlen h1
  · exact h1.elim
/-- a comprehension over an owned list: the list stands -/
def mCompP (i : Nat) (vs : List Nat) (b : Bd) (t : MT) (m : ME) : MA := fun env => match env[i]? with
  | some (.ol ds) => if ds.length ≤ lim then (noX (compGo vs b t m ds (killAll vs (env.set i .dead)))).bind fun (r, e1) => .ok (r, e1.set i (.ol ds)) else .bad
  | _ => .bad
theorem Sta.unkill {K : PySem.W.Frag} {mg : MG} {F H : Hp} {B : Base} {σ : L2.St} {env : Env} {p : Addr} {i : Nat} {us : List V} {ds : List D} (s : Sta K mg B F env σ H) (hσ : slotV σ i = some (.ref p)) (hF : F p = none) (h0 : B.H0 p = none) (hH : H p = some (.lst us)) (hd : FzL K mg F ds us)
    (hn : ∀ j, ¬ OwnAt env σ j p) : Sta K mg B F (env.set i (.ol ds)) σ H := by
  refine ⟨s.f0, s.fH, s.new, s.kee, s.ios, by rw [List.length_set]; exact s.len, fun j x e => ?_, fun j k q hj hk => ?_, s.ioh⟩
  · by_cases hij : i = j
    · subst hij
      rw [List.getElem?_set, if_pos rfl] at e
      split at e
      · cases e; exact ⟨p, us, hσ, hF, h0, hH, hd⟩
      · cases e
    · rw [List.getElem?_set_ne hij] at e
      exact s.sl j x e
  · have main : ∀ j q, OwnAt (env.set i (.ol ds)) σ j q → (j = i ∧ q = p) ∨ OwnAt env σ j q := fun j q ⟨h1, x, h2, h3⟩ => by
      by_cases hij : i = j
      · subst hij
        have := look_of hσ
        rw [h1] at this
        have e2 : V.ref q = V.ref p := by injection this with e; injection e
        cases e2
        exact .inl ⟨rfl, rfl⟩
      · rw [List.getElem?_set_ne hij] at h2
        exact .inr ⟨h1, x, h2, h3⟩
    rcases main j q hj with ⟨a1, a2⟩ | a
    · rcases main k q hk with ⟨b1, b2⟩ | b
      · rw [a1, b1]
      · exact absurd b (by rw [a2]; exact hn k)
    · rcases main k q hk with ⟨b1, b2⟩ | b
      · exact absurd a (by rw [b2]; exact hn j)
      · exact s.own j k q a b
theorem lcP_read {K : PySem.W.Frag} {mg : MG} {W : WX} {i : Nat} {g : TG} {b : Bd} {js vs : List Nat} {mt : MT} {m : ME} (gd : GD K mg g b js) (hj : ∀ j ∈ js, j ∈ vs) :
    ∀ σ H Q, tMO K mg W (mCompP i vs b mt m) σ H Q → tLc (iList K (tVar i)) g (tMT K mg WF mt) (tM K mg WF m) vs σ H Q := by
  rintro σ H Q ⟨B, F, env, s, h⟩
  unfold mCompP at h
  cases q : env[i]? with
  | none => rw [q] at h; exact h.elim
  | some y =>
    rw [q] at h
    cases y with
    | ol ds =>
      simp only at h
      split at h
      · rename_i hlen
        obtain ⟨p, us, e1, hF, h0, hH, hd⟩ := s.sl i _ q
        have hio : p ∉ B.io := fun z => s.ioh p z h0
        have f0 : B.F0 p = none := by
          cases q2 : B.F0 p with
          | none => rfl
          | some u => rcases s.f0.rd p u (.inl q2) with z | ⟨_, z⟩ <;> rw [hF] at z <;> cases z
        have hown : OwnAt env σ i p := ⟨look_of e1, _, q, rfl⟩
        have sk : Sta K mg B F (env.set i .dead) σ H := s.kill
        have nk : ∀ j, ¬ OwnAt (env.set i .dead) σ j p := fun j ⟨p1, x, p2, p3⟩ => by
          by_cases hij : i = j
          · subst hij
            rw [List.getElem?_set, if_pos rfl] at p2
            split at p2
            · cases p2; cases p3
            · cases p2
          · rw [List.getElem?_set_ne hij] at p2
            exact hij (s.own i j p hown ⟨p1, x, p2, p3⟩)
        have sw := sk.into hF h0 hio nk hH
        have hsq : ∀ H', H' p = some (.lst us) → SqL K H' p us := fun H' z => .inl (.inl z)
        refine ⟨.ref p, look_of e1, p, rfl, ⟨us, hsq H hH⟩, ?_⟩
        refine lc_core (W := WF) gd hj sw ?_ hlen ?_
        · refine ⟨_, _, by rw [hd.length]; exact walk_list (K := K) (a := p) (xs := us), fun F2 env2 σ2 H2 s2 e2 => hsq H2 (s2.outof f0 h0 hio).2.2.2, fun F2 j H2 x H3 hi e2 e3 y => ?_⟩
          obtain ⟨rfl, y⟩ := y
          have hs : SqL K F2 p us ∨ True := .inr trivial
          obtain ⟨d, e4, f4⟩ := hd.getV y
          exact ⟨F2, d, e4, Step.refl e3, f4.ex e2⟩
        · cases r : compGo vs b mt m ds (killAll vs (env.set i .dead)) with
          | bad => rw [r] at h; exact h
          | exc x e2 => rw [r] at h; exact h.elim
          | ok pr =>
            obtain ⟨rr, e2⟩ := pr
            rw [r] at h
            intro F2 H2 s2 ex2 p' us' q1 q2 q3 q4 q5 q6
            obtain ⟨o1, o2, o3, o4⟩ := s2.outof f0 h0 hio
            have q3' : upd B.H0 p (.lst us) p' = none := q3
            have hne : p' ≠ p := fun z => by rw [z, upd_same] at q3'; cases q3'
            rw [upd_ne hne] at q3'
            refine h F2 H2 (o1.unkill e1 o2 h0 o4 (hd.ex ex2) o3) ex2 p' us' (fun j ⟨p1, x, p2, p3⟩ => ?_) q2 q3' q4 q5 q6
            by_cases hij : i = j
            · subst hij
              have := look_of e1
              rw [p1] at this
              have e3 : V.ref p' = V.ref p := by injection this with e; injection e
              cases e3
              exact hne rfl
            · rw [List.getElem?_set_ne hij] at p2
              exact q1 j ⟨p1, x, p2, p3⟩
      · exact h.elim
    | _ => exact h.elim
section
variable {X : Cx} {W : WX} {tg iter elt : Expr} {ifs : List Expr} {scope : Scope} {own : List (Str × Nat)} {pos : Pos} {it : MA} {g : TG} {b : Bd} {js : List Nat} {mt : MT} {m : ME}
theorem so_lc (hc : X.calm = true) (hN : X.N.Nodup) (hi : PI X tg iter (tMI X.K X.mg W it)) (ok : BlkOk X.N X.env.scope scope own) (gd : GD X.K X.mg g b js) (hj : ∀ j ∈ js, j ∈ own.map (·.2))
    (hg : ∀ (s : Shared) (H : Hp) (C : Addr) (cl : List (Str × Addr)) (fp : List Addr), PG (X.blk s H scope (compEnvC scope cl C X.env) fp) tg g) (ht : ∀ (s : Shared) (H : Hp) (C : Addr) (cl : List (Str × Addr)) (fp : List Addr), PTs (X.blk s H scope (compEnvC scope cl C X.env) fp) ifs (tMT X.K X.mg WF mt))
    (he : ∀ (s : Shared) (H : Hp) (C : Addr) (cl : List (Str × Addr)) (fp : List Addr), PE (X.blk s H scope (compEnvC scope cl C X.env) fp) elt (tM X.K X.mg WF m)) (hs : ∀ x, foldedSetIterable iter X.env x = pure x := by intro _; rfl) :
    PE X (.ListComp elt [⟨tg, iter, ifs, 0⟩] scope pos) (tMO X.K X.mg W (mComp (own.map (·.2)) it b mt m)) := PE_imp (pe_lc hc hN hi ok hg ht he hs) (lc_read gd hj)
theorem so_lcP (i : Nat) {y : Str} {py : Pos} {vs : List Nat} (hc : X.calm = true) (hN : X.N.Nodup) (hy : X.N[i]? = some y) (hv : Vis X.env.scope y) (hd : (y == ("__debug__" : Str)) = false) (hcd : (y == ("__classdict__" : Str)) = false) (ok : BlkOk X.N X.env.scope scope own) (gd : GD X.K X.mg g b js) (hj : ∀ j ∈ js, j ∈ own.map (·.2))
    (hg : ∀ (s : Shared) (H : Hp) (C : Addr) (cl : List (Str × Addr)) (fp : List Addr), PG (X.blk s H scope (compEnvC scope cl C X.env) fp) tg g) (ht : ∀ (s : Shared) (H : Hp) (C : Addr) (cl : List (Str × Addr)) (fp : List Addr), PTs (X.blk s H scope (compEnvC scope cl C X.env) fp) ifs (tMT X.K X.mg WF mt))
    (he : ∀ (s : Shared) (H : Hp) (C : Addr) (cl : List (Str × Addr)) (fp : List Addr), PE (X.blk s H scope (compEnvC scope cl C X.env) fp) elt (tM X.K X.mg WF m)) (hs : ∀ x, foldedSetIterable (.Name y py) X.env x = pure x := by intro _; rfl) (hvs : own.map (·.2) = vs := by rfl) :
    PE X (.ListComp elt [⟨tg, .Name y py, ifs, 0⟩] scope pos) (tMO X.K X.mg W (mCompP i vs b mt m)) := by
  subst hvs
  exact PE_imp (pe_lc hc hN (pi_list (pe_var hy hv hd hcd)) ok hg ht he hs) (lcP_read gd hj)
/-- y = [..] -/
theorem ss_setLc {i : Nat} {y : Str} {py spos : Pos} (hc : X.calm = true) (hN : X.N.Nodup) (hy : X.N[i]? = some y) (hyl : X.env.scope.names.lookup y = some .local)
    (hsw : swapsWith (.ListComp elt [⟨tg, iter, ifs, 0⟩] scope pos) (some (.Name y py)) spos.line X.env = pure true) (hi : PI X tg iter (tMI X.K X.mg W it)) (ok : BlkOk X.N X.env.scope scope own) (gd : GD X.K X.mg g b js) (hj : ∀ j ∈ js, j ∈ own.map (·.2))
    (hg : ∀ (s : Shared) (H : Hp) (C : Addr) (cl : List (Str × Addr)) (fp : List Addr), PG (X.blk s H scope (compEnvC scope cl C X.env) fp) tg g) (ht : ∀ (s : Shared) (H : Hp) (C : Addr) (cl : List (Str × Addr)) (fp : List Addr), PTs (X.blk s H scope (compEnvC scope cl C X.env) fp) ifs (tMT X.K X.mg WF mt))
    (he : ∀ (s : Shared) (H : Hp) (C : Addr) (cl : List (Str × Addr)) (fp : List Addr), PE (X.blk s H scope (compEnvC scope cl C X.env) fp) elt (tM X.K X.mg WF m)) (hs : ∀ x, foldedSetIterable iter X.env x = pure x := by intro _; rfl) :
    PS X (.Assign [.Name y py] (.ListComp elt [⟨tg, iter, ifs, 0⟩] scope pos) spos) (tMS X.K X.mg W (mAsgL i (mComp (own.map (·.2)) it b mt m))) := by
  refine PS_imp (ps_setLc hc hN hy hyl hsw hi ok hg ht he hs) fun D σ H ⟨B, F, env, s, h⟩ => ?_
  refine lc_read gd hj σ H _ ⟨B, F, env, s, (PstS.bind h).imp fun ds env1 F1 H1 s1 e1 h1 p vs ho hF h0 hio hH hd => h1 F1 _ H1 (s1.setSlot (s := .ol ds) ⟨p, vs, rfl, hF, h0, hH, hd⟩ fun _ j q _ eq ha => ?_) (Ex.refl F1)⟩
  cases eq
  exact ho j ha
theorem sts_nil : PTs X [] (tMT X.K X.mg W mYes) := ⟨fun pins s σ H Q I ⟨B, F, env, st, h⟩ => pts_nil.run pins s σ H Q I (h F H st (Ex.refl F))⟩
theorem sts_one {c : Expr} (h : PT X c (tMT X.K X.mg W mt)) : PTs X [c] (tMT X.K X.mg W mt) := pts_one h
end
end Mi

set_option Elab.async false
set_option linter.all false
set_option maxRecDepth 100000
namespace Mi
open PySem PySem.Spec PyProof.Rows L2

/-! ## defs -/
abbrev PF := List D → PR
inductive OR where
  | bad | exc (x : Xc) | ok (ds : List D)
inductive IR where
  | bad | exc (x : Xc) | ok (d : D) (xs : List D)
abbrev OF := List D → OR
/-- the first argument is a list that is changed -/
abbrev IF := List D → List D → IR
def ExcP (K : PySem.W.Frag) (mg : MG) (io : List Addr) (F H : Hp) (x : Xc) (E : XK) : Prop := ∀ F' H' d C, Step io F H F' H' → (∀ a ∈ io, H' a ≠ none) → ExcAt K mg F' H' x d → mg x.c = some (.ref C) → E (.ref C) d H'
/-- a def that changes nothing -/
def spP (K : PySem.W.Frag) (mg : MG) (f : PF) : Sp := fun vs H Q E => ∃ F ds, Ex F H ∧ FzL K mg F ds vs ∧ (match f ds with
  | .bad => False
  | .exc x => ExcP K mg [] F H x E
  | .ok z => ∀ F' H' v, Step [] F H F' H' → Fz K mg F' z v → Q v H')
/-- .. and returns a new list -/
def spO (K : PySem.W.Frag) (mg : MG) (f : OF) : Sp := fun vs H Q E => ∃ F ds, Ex F H ∧ FzL K mg F ds vs ∧ (match f ds with
  | .bad => False
  | .exc x => ExcP K mg [] F H x E
  | .ok zs => ∀ F' H' p us, Step [] F H F' H' → F' p = none → H p = none → H' p = some (.lst us) → FzL K mg F' zs us → Q (.ref p) H')
/-- a def that changes the list that comes first -/
def spI (K : PySem.W.Frag) (mg : MG) (f : IF) : Sp := fun vs H Q E => ∃ F p us xs ds vr, Ex F H ∧ vs = .ref p :: vr ∧ F p = none ∧ H p = some (.lst us) ∧ FzL K mg F xs us ∧ FzL K mg F ds vr ∧ (match f xs ds with
  | .bad => False
  | .exc x => ExcP K mg [p] F H x E
  | .ok z xs' => ∀ F' H' v us', Step [p] F H F' H' → F' p = none → H' p = some (.lst us') → FzL K mg F' xs' us' → Fz K mg F' z v → Q v H')
def env0 (N : Nat) (ds : List D) : Env := ds.map .fz ++ List.replicate (N - ds.length) .dead
def runP (n N : Nat) (m : MS) : PF := fun ds => if ds.length ≠ n then .bad else match m (env0 N ds) with
  | .ok (.rt d, _) => .ok d
  | .ok (.nx, _) => .ok .non
  | .exc x _ => .exc x
  | _ => .bad
def runO (n N : Nat) (m : MS) : OF := fun ds => if ds.length ≠ n then .bad else match m (env0 N ds) with
  | .ok (.ro zs, _) => .ok zs
  | .exc x _ => .exc x
  | _ => .bad
def envI (N : Nat) (xs : List D) (ds : List D) : Env := .io xs :: (ds.map .fz ++ List.replicate (N - (ds.length + 1)) .dead)
def runI (n N : Nat) (m : MS) : IF := fun xs ds => if ds.length + 1 ≠ n then .bad else match m (envI N xs ds) with
  | .ok (.rt d, .io xs' :: _) => .ok d xs'
  | .ok (.nx, .io xs' :: _) => .ok .non xs'
  | .exc x _ => .exc x
  | _ => .bad
section
variable {K : PySem.W.Frag} {mg : MG} {F H : Hp}
theorem spP_len {n N : Nat} {m : MS} : ∀ vs H Q E, spP K mg (runP n N m) vs H Q E → vs.length = n := fun _ _ _ _ ⟨F, ds, _, hd, h⟩ => by
  unfold runP at h
  by_cases q : ds.length = n
  · rw [← hd.length]; exact q
  · rw [if_pos q] at h; exact h.elim
theorem spO_len {n N : Nat} {m : MS} : ∀ vs H Q E, spO K mg (runO n N m) vs H Q E → vs.length = n := fun _ _ _ _ ⟨F, ds, _, hd, h⟩ => by
  unfold runO at h
  by_cases q : ds.length = n
  · rw [← hd.length]; exact q
  · rw [if_pos q] at h; exact h.elim
theorem spI_len {n N : Nat} {m : MS} : ∀ vs H Q E, spI K mg (runI n N m) vs H Q E → vs.length = n := fun _ _ _ _ ⟨F, p, us, xs, ds, vr, _, ev, _, _, _, hd, h⟩ => by
  unfold runI at h
  by_cases q : ds.length + 1 = n
  · rw [ev, List.length_cons, ← hd.length]; exact q
  · rw [if_pos q] at h; exact h.elim
theorem start_len {N : List Str} {vs : List V} (h : vs.length ≤ N.length) : (slots (L2.start N vs)).length = N.length := by
  unfold L2.start; simp [slots]; omega
theorem start_get {N : List Str} {vs : List V} {i : Nat} {v : V} (h : vs[i]? = some v) : slotV (L2.start N vs) i = some v := by
  unfold slotV L2.start
  have hi := (List.getElem?_eq_some_iff.mp h).1
  show ((vs.map some ++ List.replicate (N.length - vs.length) none)[i]?).join = _
  rw [List.getElem?_append_left (by simpa using hi), List.getElem?_map, h]
  rfl
/-- the state at a def's entry -/
theorem sta_start {N : List Str} {ds : List D} {vs : List V} (e : Ex F H) (hd : FzL K mg F ds vs) (hl : vs.length ≤ N.length) : Sta K mg ⟨F, H, []⟩ F (env0 N.length ds) (L2.start N vs) H := by
  have hl2 := hd.length
  refine ⟨Ex.refl F, e, fun a _ h => h, fun a o h _ => h, fun a h => absurd h (by simp), ?_, fun i s h => ?_, fun i j p a b => ?_, fun a h => absurd h (by simp)⟩
  · show _ = (slots (L2.start N vs)).length
    rw [start_len hl]; unfold env0; simp; omega
  · unfold env0 at h
    by_cases hi : i < ds.length
    · rw [List.getElem?_append_left (by simpa using hi), List.getElem?_map] at h
      rw [List.getElem?_eq_getElem hi] at h
      cases h
      obtain ⟨v, e1, f1⟩ := hd.get (List.getElem?_eq_getElem hi)
      exact ⟨v, start_get e1, f1⟩
    · rw [List.getElem?_append_right (by simpa using hi), List.getElem?_replicate] at h
      split at h
      · cases h; trivial
      · cases h
  · obtain ⟨_, s, h, o⟩ := a
    unfold env0 at h
    exfalso
    by_cases hi : i < ds.length
    · rw [List.getElem?_append_left (by simpa using hi), List.getElem?_map] at h
      rw [List.getElem?_eq_getElem hi] at h
      cases h; cases o
    · rw [List.getElem?_append_right (by simpa using hi), List.getElem?_replicate] at h
      split at h
      · cases h; cases o
      · cases h
theorem Sta.stepOf {F0 H0 : Hp} {io : List Addr} {env : Env} {σ : L2.St} (s : Sta K mg ⟨F0, H0, io⟩ F env σ H) (e : Ex F0 F) : Step io F0 H0 F H := ⟨e, s.fH, s.kee, s.new⟩
theorem body_P {N : List Str} {m : MS} {n : Nat} (hn : n ≤ N.length) {vs : List V} {Q : VK} {E : XK} (h : spP K mg (runP n N.length m) vs H Q E) :
    tMS K mg (fun cls d _ H => E cls d H) m { nx := fun _ H' => Q .non H', rt := Q } (L2.start N vs) H := by
  have hl := spP_len _ _ _ _ h
  obtain ⟨F, ds, e, hd, h⟩ := h
  refine ⟨⟨F, H, []⟩, F, env0 N.length ds, sta_start e hd (by omega), ?_⟩
  unfold runP at h
  rw [if_neg (by rw [hd.length, hl]; simp)] at h
  cases q : m (env0 N.length ds) with
  | bad => rw [q] at h; exact h
  | exc x e1 => rw [q] at h; exact fun F' σ' H' d C s ex ha hC => h F' H' d C (s.stepOf ex) s.ios ha hC
  | ok p =>
    obtain ⟨f, e1⟩ := p
    rw [q] at h
    cases f with
    | nx => exact fun F' σ' H' s ex => h F' H' .non (s.stepOf ex) rfl
    | rt d => exact fun F' σ' H' s ex v hv => h F' H' v (s.stepOf ex) hv
    | _ => exact h.elim
theorem body_O {N : List Str} {m : MS} {n : Nat} (hn : n ≤ N.length) {vs : List V} {Q : VK} {E : XK} (h : spO K mg (runO n N.length m) vs H Q E) :
    tMS K mg (fun cls d _ H => E cls d H) m { nx := fun _ H' => Q .non H', rt := Q } (L2.start N vs) H := by
  have hl := spO_len _ _ _ _ h
  obtain ⟨F, ds, e, hd, h⟩ := h
  refine ⟨⟨F, H, []⟩, F, env0 N.length ds, sta_start e hd (by omega), ?_⟩
  unfold runO at h
  rw [if_neg (by rw [hd.length, hl]; simp)] at h
  cases q : m (env0 N.length ds) with
  | bad => rw [q] at h; exact h
  | exc x e1 => rw [q] at h; exact fun F' σ' H' d C s ex ha hC => h F' H' d C (s.stepOf ex) s.ios ha hC
  | ok p =>
    obtain ⟨f, e1⟩ := p
    rw [q] at h
    cases f with
    | ro zs => exact fun F' σ' H' s ex p us h1 h2 h3 h4 h5 => h F' H' p us (s.stepOf ex) h1 h2 h4 h5
    | _ => exact h.elim
theorem body_I {N : List Str} {m : MS} {n : Nat} (hn : n ≤ N.length) {vs : List V} {Q : VK} {E : XK} (h : spI K mg (runI n N.length m) vs H Q E) :
    tMS K mg (fun cls d _ H => E cls d H) m { nx := fun _ H' => Q .non H', rt := Q } (L2.start N vs) H := by
  have hl := spI_len _ _ _ _ h
  obtain ⟨F, p, us, xs, ds, vr, e, rfl, hF, hH, hx, hd, h⟩ := h
  have hl2 := hd.length
  have st : Sta K mg ⟨F, H, [p]⟩ F (envI N.length xs ds) (L2.start N (.ref p :: vr)) H := by
    have hlN : (V.ref p :: vr).length ≤ N.length := by omega
    refine ⟨Ex.refl F, e, fun a _ h => h, fun a o h _ => h, fun a h => ?_, ?_, fun i s h => ?_, fun i j q a b => ?_, fun a h => ?_⟩
    · have : a = p := by simpa using h
      rw [this, hH]; simp
    · show _ = (slots (L2.start N (.ref p :: vr))).length
      rw [start_len hlN]; unfold envI; simp at hlN ⊢; omega
    · cases i with
      | zero => cases h; exact ⟨p, us, start_get rfl, hF, by simp, hH, hx⟩
      | succ i =>
        have h : (ds.map Sl.fz ++ List.replicate (N.length - (ds.length + 1)) Sl.dead)[i]? = some s := h
        by_cases hi : i < ds.length
        · rw [List.getElem?_append_left (by simpa using hi), List.getElem?_map] at h
          rw [List.getElem?_eq_getElem hi] at h
          cases h
          obtain ⟨v, e1, f1⟩ := hd.get (List.getElem?_eq_getElem hi)
          exact ⟨v, start_get (by simpa using e1), f1⟩
        · rw [List.getElem?_append_right (by simpa using hi), List.getElem?_replicate] at h
          split at h
          · cases h; trivial
          · cases h
    · have main : ∀ i, OwnAt (envI N.length xs ds) (L2.start N (.ref p :: vr)) i q → i = 0 := fun i ⟨_, s, h, o⟩ => by
        cases i with
        | zero => rfl
        | succ i =>
          exfalso
          have h : (ds.map Sl.fz ++ List.replicate (N.length - (ds.length + 1)) Sl.dead)[i]? = some s := h
          by_cases hi : i < ds.length
          · rw [List.getElem?_append_left (by simpa using hi), List.getElem?_map] at h
            rw [List.getElem?_eq_getElem hi] at h
            cases h; cases o
          · rw [List.getElem?_append_right (by simpa using hi), List.getElem?_replicate] at h
            split at h
            · cases h; cases o
            · cases h
      rw [main i a, main j b]
    · have : a = p := by simpa using h
      show H a ≠ none
      rw [this, hH]; simp
  refine ⟨⟨F, H, [p]⟩, F, envI N.length xs ds, st, ?_⟩
  have fin : ∀ {F' : Hp} {xs' : List D} {er : Env} {σ' : L2.St} {H' : Hp}, Sta K mg ⟨F, H, [p]⟩ F' (.io xs' :: er) σ' H' → ∃ us', F' p = none ∧ H' p = some (.lst us') ∧ FzL K mg F' xs' us' := fun {F' xs' er σ' H'} s => by
    obtain ⟨q, us', _, h1, h2, h3, h4⟩ := s.sl 0 _ rfl
    have h2 : q ∈ [p] := h2
    have : q = p := by simpa using h2
    subst this
    exact ⟨us', h1, h3, h4⟩
  unfold runI at h
  rw [if_neg (by rw [hd.length]; simpa using hl)] at h
  cases q : m (envI N.length xs ds) with
  | bad => rw [q] at h; exact h
  | exc x e1 => rw [q] at h; exact fun F' σ' H' d C s ex ha hC => h F' H' d C (s.stepOf ex) s.ios ha hC
  | ok pr =>
    obtain ⟨f, e1⟩ := pr
    rw [q] at h
    cases f with
    | br => exact h.elim
    | ct => exact h.elim
    | ro z => exact h.elim
    | nx =>
      cases e1 with
      | nil => exact h.elim
      | cons s0 er =>
        cases s0 with
        | io xs' =>
          intro F' σ' H' s ex
          obtain ⟨us', g1, g2, g3⟩ := fin s
          exact h F' H' .non us' (s.stepOf ex) g1 g2 g3 rfl
        | _ => exact h.elim
    | rt d =>
      cases e1 with
      | nil => exact h.elim
      | cons s0 er =>
        cases s0 with
        | io xs' =>
          intro F' σ' H' s ex v hv
          obtain ⟨us', g1, g2, g3⟩ := fin s
          exact h F' H' v us' (s.stepOf ex) g1 g2 g3 hv
        | _ => exact h.elim
end
section
variable {P : Program} {w : World} {K : PySem.W.Frag} {mg : Str → Option Value} {base : Heap} {x qual : Str} {st : Stmt} {f : Addr} {fd : FuncData} {N ps : List Str} {k : Nat} {m : MS}
abbrev CXm (P : Program) (w : World) (K : PySem.W.Frag) (mg : Str → Option Value) (base : Heap) (N : List Str) (qual : Str) (st : Stmt) (f : Addr) (cdv : Value) (A : Around) (outer : List PySem.Env) (s : Shared) (H : Hp) (E : XK) : Cx :=
  cxOf (L2.CX P w) P w K mg base N qual (defScope st) f cdv A outer s H E
/-- the body of a def, for whatever stands around it -/
abbrev BodyOk (P : Program) (w : World) (K : PySem.W.Frag) (mg : Str → Option Value) (base : Heap) (N : List Str) (qual : Str) (st : Stmt) (k : Nat) (m : MS) : Prop :=
  ∀ (f : Addr) (cdv : Value) (A : Around) (outer : List PySem.Env) (s : Shared) (H : Hp) (E : XK), Room k (A.deeper (envOfC qual (defScope st) s.heap.objs.size f cdv)) →
    PSs (cxOf (L2.CX P w) P w K mg base N qual (defScope st) f cdv A outer s H E) (defBody st) (tMS K mg (fun cls d _ H => E cls d H) m)
theorem fn_P (F : Fun K x qual st f fd) (S : FnScope N ps (defScope st)) (hb : BodyOk P w K mg base N qual st k m) (hn : ps.length ≤ N.length := by decide) : FnOk P w K mg base (L2.CX P w) (k + 1) f fd ps (spP K mg (runP ps.length N.length m)) :=
  F.okX S spP_len fun cdv A outer s H vs Q E hr h => ⟨_, hb f cdv A outer s H E hr, body_P hn h⟩
theorem fn_O (F : Fun K x qual st f fd) (S : FnScope N ps (defScope st)) (hb : BodyOk P w K mg base N qual st k m) (hn : ps.length ≤ N.length := by decide) : FnOk P w K mg base (L2.CX P w) (k + 1) f fd ps (spO K mg (runO ps.length N.length m)) :=
  F.okX S spO_len fun cdv A outer s H vs Q E hr h => ⟨_, hb f cdv A outer s H E hr, body_O hn h⟩
theorem fn_I (F : Fun K x qual st f fd) (S : FnScope N ps (defScope st)) (hb : BodyOk P w K mg base N qual st k m) (hn : ps.length ≤ N.length := by decide) : FnOk P w K mg base (L2.CX P w) (k + 1) f fd ps (spI K mg (runI ps.length N.length m)) :=
  F.okX S spI_len fun cdv A outer s H vs Q E hr h => ⟨_, hb f cdv A outer s H E hr, body_I hn h⟩
end

/-! ## calls -/
def mCall (f : PF) (a : MA) : ME := fun env => (a env).bind fun (ds, e1) => (f ds).at e1
def mCallO (f : OF) (a : MA) : MA := fun env => (a env).bind fun (ds, e1) => match f ds with
  | .bad => .bad
  | .exc x => .exc x e1
  | .ok zs => .ok (zs, e1)
/-- the list in slot i goes first, and may be changed -/
def mCallI (f : IF) (i : Nat) (a : MA) : ME := fun env => if (peek env i).isNone then .bad else (a env).bind fun (ds, e1) => match e1[i]? with
  | some (.ol xs) => match f xs ds with
    | .ok z xs' => .ok (z, e1.set i (.ol xs'))
    | .exc x => .exc x (e1.set i .dead)
    | .bad => .bad
  | some (.io xs) => match f xs ds with
    | .ok z xs' => .ok (z, e1.set i (.io xs'))
    | .exc x => .exc x (e1.set i .dead)
    | .bad => .bad
  | _ => .bad
section
variable {K : PySem.W.Frag} {mg : MG} {F H F' H' : Hp} {B : Base} {σ : L2.St} {env : Env} {W : WX} {i : Nat} {p : Addr} {s : Sl}
theorem tM_call {f : PF} {a : MA} : ∀ σ H Q, tM K mg W (mCall f a) σ H Q → tCallS (spP K mg f) (WE W) (tMA K mg W a) σ H Q := by
  rintro σ H Q ⟨B, F, env, s, h⟩
  refine ⟨B, F, env, s, (Pst.bind h).imp fun ds env1 F1 H1 s1 e1 h1 vs hv => ⟨F1, ds, s1.fH, hv, ?_⟩⟩
  simp only at h1
  cases q : f ds with
  | bad => rw [q] at h1; exact h1.elim
  | exc x => rw [q] at h1; exact fun F' H' d C st _ ha hC => h1 F' H' d C (s1.step st) st.fF ha hC
  | ok z => rw [q] at h1; exact fun F' H' v st hz => h1 F' H' (s1.step st) st.fF v hz
theorem tM_callO {f : OF} {a : MA} : ∀ σ H Q, tMO K mg W (mCallO f a) σ H Q → tCallS (spO K mg f) (WE W) (tMA K mg W a) σ H Q := by
  rintro σ H Q ⟨B, F, env, s, h⟩
  refine ⟨B, F, env, s, (Pst.bind h).imp fun ds env1 F1 H1 s1 e1 h1 vs hv => ⟨F1, ds, s1.fH, hv, ?_⟩⟩
  simp only at h1
  cases q : f ds with
  | bad => rw [q] at h1; exact h1.elim
  | exc x => rw [q] at h1; exact fun F' H' d C st _ ha hC => h1 F' H' d C (s1.step st) st.fF ha hC
  | ok zs =>
    rw [q] at h1
    intro F' H' p us st hF' hp hH' hz
    obtain ⟨_, a1, a2, a3, a4⟩ := s1.laidO (o := .lst us) hp
    exact h1 F' H' (s1.step st) st.fF p us a4 hF' a2 a3 hH' hz
/-- a call that changes what is owned at p -/
theorem Sta.stepIo (st : Sta K mg B F env σ H) (ha : OwnAt env σ i p) (h0 : B.H0 p = none ∨ p ∈ B.io) (sp : Step [p] F H F' H') (hp : H' p ≠ none) (hs : SlOk K mg B F' H' s (some (.ref p))) : Sta K mg B F' (env.set i s) σ H' := by
  have kH : ∀ a o, H a = some o → a ≠ p → H' a = some o := fun a o e n => sp.kH a o e (by simpa using n)
  have hne : ∀ a, B.H0 a ≠ none → H a ≠ none := fun a h1 => by
    by_cases hio : a ∈ B.io
    · exact st.ios a hio
    · cases q : B.H0 a with
      | none => exact absurd q h1
      | some o => rw [st.kee a o q hio]; simp
  refine ⟨st.f0.trans sp.fF, sp.fH, fun a h1 h2 => sp.new a (hne a h1) (st.new a h1 h2), fun a o h1 h2 => ?_, fun a h => ?_, by rw [List.length_set]; exact st.len, fun j y e => ?_, fun j k q hj hk => ?_, st.ioh⟩
  · have : a ≠ p := fun z => by
      subst z
      rcases h0 with h0 | h0
      · rw [h0] at h1; cases h1
      · exact h2 h0
    exact kH a o (st.kee a o h1 h2) this
  · by_cases z : a = p
    · rw [z]; exact hp
    · cases q : H a with
      | none => exact absurd q (st.ios a h)
      | some o => rw [kH a o q z]; simp
  · by_cases hij : i = j
    · subst hij
      rw [List.getElem?_set, if_pos rfl] at e
      split at e
      · cases e; rw [ha.slot]; exact hs
      · cases e
    · rw [List.getElem?_set_ne hij] at e
      have h := st.sl j y e
      have ne : ∀ q, slotV σ j = some (.ref q) → y.owned = true → q ≠ p := fun q e1 ho z => by
        subst z
        exact hij (st.own i j q ha ⟨look_of e1, y, e, ho⟩)
      cases y with
      | dead => trivial
      | fz d => obtain ⟨v, e1, f1⟩ := h; exact ⟨v, e1, f1.ex sp.fF⟩
      | xc q x => exact ⟨h.1, h.2.1, h.2.2.keep sp.fF fun dx fs z => kH dx _ z (fun z2 => by subst z2; exact ha.noXd st z)⟩
      | ol ds => obtain ⟨q, vs, e1, h1, h2, h3, h4⟩ := h; exact ⟨q, vs, e1, sp.new q (by rw [h3]; simp) h1, h2, kH q _ h3 (ne q e1 rfl), h4.ex sp.fF⟩
      | io ds => obtain ⟨q, vs, e1, h1, h2, h3, h4⟩ := h; exact ⟨q, vs, e1, sp.new q (by rw [h3]; simp) h1, h2, kH q _ h3 (ne q e1 rfl), h4.ex sp.fF⟩
      | od t ks ws =>
        obtain ⟨q, vs, e1, h1, h2, h3, h4⟩ := h
        obtain ⟨o, ho⟩ := h3.some
        exact ⟨q, vs, e1, sp.new q (by rw [ho]; simp) h1, h2, h3.imp fun o z => kH q o z (ne q e1 rfl), h4.ex sp.fF⟩
  · have main : ∀ j q, OwnAt (env.set i s) σ j q → OwnAt env σ j q := fun j q ⟨h1, x, h2, h3⟩ => by
      by_cases hij : i = j
      · subst hij
        exact ⟨h1, by obtain ⟨_, y, e, o⟩ := ha; exact ⟨y, e, o⟩⟩
      · rw [List.getElem?_set_ne hij] at h2
        exact ⟨h1, x, h2, h3⟩
    exact st.own j k q (main j q hj) (main k q hk)
theorem tM_callI {f : IF} {i : Nat} {a : MA} : ∀ σ H Q, tM K mg W (mCallI f i a) σ H Q → tCallS (spI K mg f) (WE W) (tCons (tVar i) (tMA K mg W a)) σ H Q := by
  rintro σ H Q ⟨B, F, env, s, h⟩
  unfold mCallI at h
  by_cases hpk : (peek env i).isNone = true
  · rw [if_pos hpk] at h; exact h.elim
  rw [if_neg hpk] at h
  obtain ⟨v0, ev0, _⟩ := s.peek (i := i) (Option.eq_some_of_isSome (by cases z : peek env i <;> simp_all))
  refine ⟨v0, ev0, B, F, env, s, (Pst.bind h).imp fun ds env1 F1 H1 s1 e1 h1 vs hv => ?_⟩
  have same : ∀ {p}, slotV σ i = some (.ref p) → v0 = .ref p := fun {p} e => by
    have := look_of e
    rw [show σ[i]? = some (some v0) from ev0] at this
    injection (Option.some.inj this)
  simp only at h1
  cases q : env1[i]? with
  | none => rw [q] at h1; exact h1.elim
  | some x =>
    rw [q] at h1
    cases x with
    | dead => exact h1.elim
    | xc _ _ => exact h1.elim
    | fz d => exact h1.elim
    | od t ks ws => exact h1.elim
    | ol xs =>
      obtain ⟨p, us, ev, hF, h0, hH, hx⟩ := s1.sl i _ q
      refine ⟨F1, p, us, xs, ds, vs, s1.fH, by rw [same ev], hF, hH, hx, hv, ?_⟩
      simp only at h1
      cases r : f xs ds with
      | bad => rw [r] at h1; exact h1.elim
      | exc x => rw [r] at h1; exact fun F' H' d C st hn ha hC => h1 F' H' d C (s1.stepIo ⟨look_of ev, _, q, rfl⟩ (.inl h0) st (hn p (by simp)) trivial) st.fF ha hC
      | ok z xs' => rw [r] at h1; exact fun F' H' v us' st g1 g2 g3 hz => h1 F' H' (s1.stepIo ⟨look_of ev, _, q, rfl⟩ (.inl h0) st (by rw [g2]; simp) ⟨p, us', rfl, g1, h0, g2, g3⟩) st.fF v hz
    | io xs =>
      obtain ⟨p, us, ev, hF, h0, hH, hx⟩ := s1.sl i _ q
      refine ⟨F1, p, us, xs, ds, vs, s1.fH, by rw [same ev], hF, hH, hx, hv, ?_⟩
      simp only at h1
      cases r : f xs ds with
      | bad => rw [r] at h1; exact h1.elim
      | exc x => rw [r] at h1; exact fun F' H' d C st hn ha hC => h1 F' H' d C (s1.stepIo ⟨look_of ev, _, q, rfl⟩ (.inr h0) st (hn p (by simp)) trivial) st.fF ha hC
      | ok z xs' => rw [r] at h1; exact fun F' H' v us' st g1 g2 g3 hz => h1 F' H' (s1.stepIo ⟨look_of ev, _, q, rfl⟩ (.inr h0) st (by rw [g2]; simp) ⟨p, us', rfl, g1, h0, g2, g3⟩) st.fF v hz
end
section
variable {X : Cx} {W : WX} {k : Nat} {f : Addr} {fd : FuncData} {ps : List Str} {x y : Str} {p pos py : Pos} {e : Expr} {es : List Expr} {a : MA}
theorem se_call {g : PF} (F : FnOk X.prog X.w X.K X.mg X.base (L2.CX X.prog X.w) k f fd ps (spP X.K X.mg g)) (tk : Takes X W) (hr : Room k X.A) (hg : Gl X x) (hm : X.mg x = some (.ref f)) (hk : PySem.W.keepIn X.K (.ref f) = true) (hb : Binds X.K fd ps [])
    (ha : PA X (e :: es) (tMA X.K X.mg W a)) (hdb : (x == ("__debug__" : Str)) = false := by decide) (he : starEach (e :: es) X.env = (false, eval e X.env) :: starEach es X.env := by rfl) (hpl : (backTo pos (starEach es X.env)).any (·.1) = false := by rfl) :
    PE X (.Call (.Name x p) (e :: es) [] pos) (tM X.K X.mg W (mCall g a)) := PE_imp (pe_callS F hr hg hm hk hb (fun σ => passAt tk σ) ha hdb he hpl) tM_call
theorem so_call {g : OF} (F : FnOk X.prog X.w X.K X.mg X.base (L2.CX X.prog X.w) k f fd ps (spO X.K X.mg g)) (tk : Takes X W) (hr : Room k X.A) (hg : Gl X x) (hm : X.mg x = some (.ref f)) (hk : PySem.W.keepIn X.K (.ref f) = true) (hb : Binds X.K fd ps [])
    (ha : PA X (e :: es) (tMA X.K X.mg W a)) (hdb : (x == ("__debug__" : Str)) = false := by decide) (he : starEach (e :: es) X.env = (false, eval e X.env) :: starEach es X.env := by rfl) (hpl : (backTo pos (starEach es X.env)).any (·.1) = false := by rfl) :
    PE X (.Call (.Name x p) (e :: es) [] pos) (tMO X.K X.mg W (mCallO g a)) := PE_imp (pe_callS F hr hg hm hk hb (fun σ => passAt tk σ) ha hdb he hpl) tM_callO
theorem se_callI {g : IF} (i : Nat) (F : FnOk X.prog X.w X.K X.mg X.base (L2.CX X.prog X.w) k f fd ps (spI X.K X.mg g)) (tk : Takes X W) (hr : Room k X.A) (hg : Gl X x) (hm : X.mg x = some (.ref f)) (hk : PySem.W.keepIn X.K (.ref f) = true) (hb : Binds X.K fd ps [])
    (ha : PA X es (tMA X.K X.mg W a)) (hN : X.N[i]? = some y := by rfl) (hv : Vis X.env.scope y := by first | exact Or.inl rfl | exact Or.inr (Or.inl rfl) | exact Or.inr (Or.inr rfl)) (hd : (y == ("__debug__" : Str)) = false := by decide) (hcd : (y == ("__classdict__" : Str)) = false := by decide)
    (hdb : (x == ("__debug__" : Str)) = false := by decide) (he : starEach (.Name y py :: es) X.env = (false, eval (.Name y py) X.env) :: starEach es X.env := by rfl) (hpl : (backTo pos (starEach es X.env)).any (·.1) = false := by rfl) :
    PE X (.Call (.Name x p) (.Name y py :: es) [] pos) (tM X.K X.mg W (mCallI g i a)) := PE_imp (pe_callS F hr hg hm hk hb (fun σ => passAt tk σ) (pa_cons (pe_var hN hv hd hcd) ha he) hdb he hpl) tM_callI
end
end Mi

set_option Elab.async false
set_option linter.all false
set_option maxRecDepth 100000
namespace Mi
open PySem PySem.Spec PyProof.Rows L2

/-! ## operations on data -/
theorem OpR_or {X : Cx} {f : Value → Value → Sem Value} {r r' : R2} (h : OpR X f r) (h' : OpR X f r') : OpR X f (fun x y H Q => r x y H Q ∨ r' x y H Q) := fun pins s σ H x y v u Q I rx ry q => q.elim (h pins s σ H x y v u Q I rx ry) (h' pins s σ H x y v u Q I rx ry)
theorem CallR_or {X : Cx} {f : Value} {r r' : List V → Hp → VK → Prop} (h : CallR X f r) (h' : CallR X f r') : CallR X f (fun xs H Q => r xs H Q ∨ r' xs H Q) := fun pins s σ H xs us Q I rx q => q.elim (h pins s σ H xs us Q I rx) (h' pins s σ H xs us Q I rx)
section
variable {K : PySem.W.Frag} {mg : MG} {F H : Hp}
theorem Rz.here {z : D} {v : V} {Q : VK} (h : Rz K mg F H z Q) (e : Ex F H) (hz : Fz K mg F z v) : Q v H := h F H v (Step.refl e) hz
theorem Rz.tup {ds : List D} {vs : List V} {Q : VK} {p : Addr} (h : Rz K mg F H (.tup ds) Q) (e : Ex F H) (hz : FzL K mg F ds vs) (hp : H p = none) : Q (.ref p) (upd H p (.tup vs)) :=
  have st := Step.laid (o := .tup vs) e hp
  h _ _ _ st ⟨p, vs, rfl, upd_same, hz.ex st.fF⟩
theorem Rz.lst {ds : List D} {vs : List V} {Q : VK} {p : Addr} (h : Rz K mg F H (.lst ds) Q) (e : Ex F H) (hz : FzL K mg F ds vs) (hp : H p = none) : Q (.ref p) (upd H p (.lst vs)) :=
  have st := Step.laid (o := .lst vs) e hp
  h _ _ _ st ⟨p, vs, rfl, .inl (.inl upd_same), hz.ex st.fF⟩
end
/-! ### ints -/
def dII (g : Int → Int → D) : D → D → Option D
  | .int i, .int j => some (g i j)
  | _, _ => none
def dIIc (C : Int → Int → Bool) (g : Int → Int → D) : D → D → Option D
  | .int i, .int j => if C i j = true then some (g i j) else none
  | _, _ => none
theorem opd_I0 {K : PySem.W.Frag} {mg : MG} {g : Int → Int → D} {gv : Int → Int → V} (h : ∀ i j, scalD (g i j) = some (gv i j)) : OpD K mg (rI0 gv) (dII g) := fun F H x y vx vy z Q e hx hy hz q => by
  unfold dII at hz
  split at hz
  · cases hz
    exact ⟨_, _, hx, hy, q.here e (scalD_fz (h _ _))⟩
  · cases hz
theorem opd_I {K : PySem.W.Frag} {mg : MG} {C : Int → Int → Prop} {Cb : Int → Int → Bool} {g : Int → Int → D} {gv : Int → Int → V} (hc : ∀ i j, Cb i j = true → C i j) (h : ∀ i j, scalD (g i j) = some (gv i j)) : OpD K mg (rI C gv) (dIIc Cb g) := fun F H x y vx vy z Q e hx hy hz q => by
  unfold dIIc at hz
  split at hz
  · split at hz
    · rename_i hb
      cases hz
      exact ⟨_, _, hx, hy, hc _ _ hb, q.here e (scalD_fz (h _ _))⟩
    · cases hz
  · cases hz
def cDiv (_ j : Int) : Bool := decide (0 < j ∧ j < 1073741824)
def cMod (_ j : Int) : Bool := decide (0 < j)
def cMul (i j : Int) : Bool := decide ((-(2 ^ 64) < i ∧ i < 2 ^ 64) ∨ (-(2 ^ 64) < j ∧ j < 2 ^ 64))
def cPow (i j : Int) : Bool := decide (0 ≤ j ∧ j ≤ 1000000 ∧ i.natAbs < 2 ^ 64)
abbrev dSub := dII fun i j => .int (i - j)
abbrev dMul := dIIc cMul fun i j => .int (i * j)
abbrev dDiv := dIIc cDiv fun i j => .int (i / j)
abbrev dMod := dIIc cMod fun i j => .int (i % j)
abbrev dPow := dIIc cPow fun i j => .int (i ^ j.toNat)
abbrev dLtI := dII fun i j => .bl (decide (i < j))
abbrev dLeI := dII fun i j => .bl (decide (i ≤ j))
abbrev dGtI := dII fun i j => .bl (decide (j < i))
abbrev dGeI := dII fun i j => .bl (decide (j ≤ i))
section
variable {K : PySem.W.Frag} {mg : MG}
theorem od_sub : OpD K mg (rI0 fun i j => .int (i - j)) dSub := opd_I0 fun _ _ => rfl
theorem od_mul : OpD K mg (rI CMul fun i j => .int (i * j)) dMul := opd_I (fun i j h => of_decide_eq_true (p := (-(2 ^ 64) < i ∧ i < 2 ^ 64) ∨ (-(2 ^ 64) < j ∧ j < 2 ^ 64)) h) fun _ _ => rfl
theorem od_div : OpD K mg (rI CDiv fun i j => .int (i / j)) dDiv := opd_I (fun i j h => of_decide_eq_true (p := 0 < j ∧ j < 1073741824) h) fun _ _ => rfl
theorem od_mod : OpD K mg (rI (fun _ j => 0 < j) fun i j => .int (i % j)) dMod := opd_I (fun _ _ h => of_decide_eq_true h) fun _ _ => rfl
theorem od_pow : OpD K mg (rI CPow fun i j => .int (i ^ j.toNat)) dPow := opd_I (fun i j h => of_decide_eq_true (p := 0 ≤ j ∧ j ≤ 1000000 ∧ i.natAbs < 2 ^ 64) h) fun _ _ => rfl
theorem od_ltI : OpD K mg (rI0 fun i j => .bl (decide (i < j))) dLtI := opd_I0 fun _ _ => rfl
theorem od_leI : OpD K mg (rI0 fun i j => .bl (decide (i ≤ j))) dLeI := opd_I0 fun _ _ => rfl
theorem od_gtI : OpD K mg (rI0 fun i j => .bl (decide (j < i))) dGtI := opd_I0 fun _ _ => rfl
theorem od_geI : OpD K mg (rI0 fun i j => .bl (decide (j ≤ i))) dGeI := opd_I0 fun _ _ => rfl
end
/-! ### + -/
def dAdd : D → D → Option D
  | .int i, .int j => some (.int (i + j))
  | .tup xs, .tup ys => if xs.length + ys.length ≤ lim then some (.tup (xs ++ ys)) else none
  | .lst xs, .lst ys => if xs.length + ys.length ≤ lim then some (.lst (xs ++ ys)) else none
  | .str x, .str y => if x.length + y.length ≤ lim then some (.str (x ++ y)) else none
  | _, _ => none
def rCatR (K : PySem.W.Frag) : R2 := fun x y H Q => ∃ l b xs zs, x = .ref l ∧ y = .ref b ∧ SqL K H l xs ∧ SqL K H b zs ∧ xs.length + zs.length ≤ sizeLine ∧ ∀ p, H p = none → Q (.ref p) (upd H p (.lst (xs ++ zs)))
section
variable {X : Cx}
theorem op_catR : OpR X (binaryOp .Add) (rCatR X.K) := by
  intro pins s σ H x y v u Q I rx ry h
  obtain ⟨l, b, xs, zs, rfl, rfl, hH, hB, hz, q⟩ := h
  cases rx
  cases ry
  obtain ⟨its, r, ⟨o, n, e, hc, hd, hs⟩, _⟩ := I.list hH
  obtain ⟨its2, r2, ⟨o2, n2, e2, hc2, hd2, hs2⟩, _⟩ := I.list hB
  have hl := r.length
  have hl2 := r2.length
  obtain ⟨cls, dd, data, sl⟩ := o
  obtain ⟨cls2, dd2, data2, sl2⟩ := o2
  simp only at hc hd hs hc2 hd2 hs2
  subst hc hd hs hc2 hd2 hs2
  have ea : its.toArray ++ its2.toArray = (its ++ its2).toArray := by simp
  refine concat_meets ⟨_, e, rfl⟩ ⟨_, e2, rfl⟩ noFill_list_add seq_list_add PySem.F.slot_list_add PySem.F.entry_list_add (PySem.F.args_list_add_2 _ _) (list_addW l b its.toArray its2.toArray n n2 _ _ sl sl2 (by rw [List.size_toArray, List.size_toArray]; omega)) ⟨e, e2, ?_⟩
  rw [ea]
  exact ⟨.ref _, _, I.lnew (t' := s.toks) (r.append r2) (by rw [List.length_append]; omega), rfl, q _ I.fresh⟩
abbrev rAdd (K : PySem.W.Frag) : R2 := fun x y H Q => rI0 (fun i j => .int (i + j)) x y H Q ∨ (rCatA K x y H Q ∨ (rCatR K x y H Q ∨ (fun x y H Q => ∃ i j, x = .str i ∧ y = .str j ∧ i.length + j.length ≤ sizeLine ∧ Q (.str (i ++ j)) H) x y H Q))
theorem or_add : OpR X (binaryOp .Add) (rAdd X.K) := OpR_or op_add (OpR_or op_catA (OpR_or op_catR op_add_str))
theorem od_add {K : PySem.W.Frag} {mg : MG} : OpD K mg (rAdd K) dAdd := fun F H x y vx vy z Q e hx hy hz q => by
  unfold dAdd at hz
  split at hz
  · cases hz
    exact .inl ⟨_, _, hx, hy, q.here e rfl⟩
  · split at hz
    · rename_i xs ys hl
      cases hz
      obtain ⟨a, vs, rfl, h1, h2⟩ := hx
      obtain ⟨b, us, rfl, g1, g2⟩ := hy
      refine .inr (.inl ⟨a, b, vs, us, rfl, rfl, .inl (.inl (e.ex _ _ rfl h1)), .inl (.inl (e.ex _ _ rfl g1)), by rw [← h2.length, ← g2.length]; exact lim_le hl, fun e1 => ?_, fun _ e1 => ?_, fun _ _ p hp => q.tup e (h2.app g2) hp⟩)
      · subst e1
        have : xs = [] := List.eq_nil_of_length_eq_zero h2.length
        exact q.here e ⟨b, us, rfl, g1, by rw [this]; exact g2⟩
      · subst e1
        have : ys = [] := List.eq_nil_of_length_eq_zero g2.length
        exact q.here e ⟨a, vs, rfl, h1, by rw [this, List.append_nil]; exact h2⟩
    · cases hz
  · split at hz
    · rename_i xs ys hl
      cases hz
      obtain ⟨a, vs, rfl, h1, h2⟩ := hx
      obtain ⟨b, us, rfl, g1, g2⟩ := hy
      exact .inr (.inr (.inl ⟨a, b, vs, us, rfl, rfl, h1, g1, by rw [← h2.length, ← g2.length]; exact lim_le hl, fun p hp => q.lst e (h2.app g2) hp⟩))
    · cases hz
  · split at hz
    · rename_i x y hl
      cases hz
      exact .inr (.inr (.inr ⟨_, _, hx, hy, lim_le hl, q.here e rfl⟩))
    · cases hz
  · cases hz
end

/-! ### == -/
mutual
def D.py : D → PyData
  | .non => .none
  | .bl b => .bool b
  | .int i => .int i
  | .str s => .str s
  | .tup ds => .tuple (D.pyL ds)
  | .lst ds => .list (D.pyL ds)
  | _ => .none
def D.pyL : List D → List PyData
  | [] => []
  | d :: ds => D.py d :: D.pyL ds
end
/-- data of nesting at most n, without dicts and objects -/
def lvl : Nat → D → Bool
  | _, .non => true
  | _, .bl _ => true
  | _, .int _ => true
  | _, .str s => PyData.strOk s
  | n + 1, .tup ds => ds.all (lvl n)
  | n + 1, .lst ds => ds.all (lvl n)
  | _, _ => false
def eqD (x y : D) : Bool := PyData.eqv x.py y.py
def dEq (x y : D) : Option D := if lvl 60 x = true ∧ lvl 60 y = true then some (.bl (eqD x y)) else none
def dNe (x y : D) : Option D := if lvl 60 x = true ∧ lvl 60 y = true then some (.bl (!eqD x y)) else none
def itemsOf : D → Option (List D)
  | .lst ds => some ds
  | .tup ds => some ds
  | _ => none
theorem lvl_shape : ∀ (n : Nat) (d : D), lvl n d = true → d.py.canLay0 = true ∧ d.py.depth ≤ n := by
  intro n
  induction n with
  | zero =>
    intro d h
    cases d <;> simp [lvl] at h <;> simp [D.py, PyData.canLay0, PyData.depth, h]
  | succ n ih =>
    have all : ∀ ds : List D, ds.all (lvl n) = true → PyData.canLayAll0 (D.pyL ds) = true ∧ PyData.depthAll (D.pyL ds) ≤ n := by
      intro ds
      induction ds with
      | nil => intro _; simp [D.pyL, PyData.canLayAll0, PyData.depthAll]
      | cons d ds ihd =>
        intro h
        rw [List.all_cons, Bool.and_eq_true] at h
        obtain ⟨h1, h2⟩ := ih d h.1
        obtain ⟨h3, h4⟩ := ihd h.2
        simp only [D.pyL, PyData.canLayAll0, PyData.depthAll, h1, h3, Bool.and_self, true_and]
        omega
    intro d h
    cases d with
    | tup ds =>
      obtain ⟨h1, h2⟩ := all ds h
      simp only [D.py, PyData.canLay0, PyData.depth, h1, true_and]
      omega
    | lst ds =>
      obtain ⟨h1, h2⟩ := all ds h
      simp only [D.py, PyData.canLay0, PyData.depth, h1, true_and]
      omega
    | dic t ks vs => simp [lvl] at h
    | obj c ns vs => simp [lvl] at h
    | glo x => simp [lvl] at h
    | ty x => simp [lvl] at h
    | str s => simp only [lvl] at h; simp [D.py, PyData.canLay0, PyData.depth, h]
    | _ => simp [D.py, PyData.canLay0, PyData.depth]
theorem lvl_shaped {n : Nat} {d : D} (hn : n ≤ 64) (h : lvl n d = true) : SeqAt.shaped d.py = true := by
  obtain ⟨h1, h2⟩ := lvl_shape n d h
  unfold SeqAt.shaped
  rw [Bool.and_eq_true]
  exact ⟨h1, decide_eq_true (by omega)⟩
section
variable {K : PySem.W.Frag} {mg : MG} {F H : Hp}
theorem fz_dp : ∀ (n : Nat) (d : D) (v : V), lvl n d = true → Fz K mg H d v → Dp K H v d.py := by
  intro n
  induction n with
  | zero =>
    intro d v h f
    cases d <;> simp [lvl] at h
    · have f : v = .non := f; subst f; exact .non
    · have f : v = .bl _ := f; subst f; exact .bl _
    · have f : v = .int _ := f; subst f; exact .int _
    · have f : v = .str _ := f; subst f; exact .str _
  | succ n ih =>
    have all : ∀ (ds : List D) (vs : List V), ds.all (lvl n) = true → FzL K mg H ds vs → DpAll K H vs (D.pyL ds) := by
      intro ds
      induction ds with
      | nil => intro vs _ f; have f : vs = [] := f; subst f; exact .nil
      | cons d ds ihd =>
        intro vs h f
        rw [List.all_cons, Bool.and_eq_true] at h
        obtain ⟨v, r, rfl, f1, f2⟩ := f
        exact .cons (ih d v h.1 f1) (ihd r h.2 f2)
    intro d v h f
    cases d with
    | tup ds => obtain ⟨a, vs, rfl, f1, f2⟩ := f; exact .tup (.inl (.inl f1)) (all ds vs h f2)
    | lst ds => obtain ⟨a, vs, rfl, f1, f2⟩ := f; exact .lst f1 (all ds vs h f2)
    | dic t ks vs => simp [lvl] at h
    | obj c ns vs => simp [lvl] at h
    | glo x => simp [lvl] at h
    | ty x => simp [lvl] at h
    | non => have f : v = .non := f; subst f; exact .non
    | bl b => have f : v = .bl _ := f; subst f; exact .bl _
    | int i => have f : v = .int _ := f; subst f; exact .int _
    | str s => have f : v = .str _ := f; subst f; exact .str _
theorem fb_dp {n : Nat} {d : D} {v : V} (h : lvl n d = true) (f : Fb K mg F H d v) (e : Ex F H) : Dp K H v d.py := fz_dp n d v h (f.fzH e)
theorem od_eq : OpD K mg (rEqD K) dEq := fun F H x y vx vy z Q e hx hy hz q => by
  unfold dEq at hz
  split at hz
  · rename_i hl
    cases hz
    exact ⟨_, _, fb_dp hl.1 hx e, fb_dp hl.2 hy e, lvl_shaped (by decide) hl.1, lvl_shaped (by decide) hl.2, q.here e rfl⟩
  · cases hz
theorem od_ne : OpD K mg (rNeD K) dNe := fun F H x y vx vy z Q e hx hy hz q => by
  unfold dNe at hz
  split at hz
  · rename_i hl
    cases hz
    exact ⟨_, _, fb_dp hl.1 hx e, fb_dp hl.2 hy e, lvl_shaped (by decide) hl.1, lvl_shaped (by decide) hl.2, q.here e rfl⟩
  · cases hz
end
/-! ### in -/
def rInDT (K : PySem.W.Frag) (neg : Bool) : R2 := fun x y H Q => ∃ d ds, Dp K H x d ∧ Dp K H y (.tuple ds) ∧ SeqAt.shaped d = true ∧ SeqAt.shaped (.tuple ds) = true ∧ Q (.bl (if neg = true then !(ds.any fun z => PyData.eqv z d) else ds.any fun z => PyData.eqv z d)) H
section
variable {X : Cx}
theorem op_inDT (hu : X.A.units + 65 < cLine) : OpR X (compareOp .In) (rInDT X.K false) := by
  intro pins s σ H x y v u Q I rx ry h
  obtain ⟨d, ds, hd, he, sd, se, q⟩ := h
  obtain ⟨as, r1⟩ := Dp.reads I d x v hd rx
  obtain ⟨bs, r2⟩ := Dp.reads I (.tuple ds) y u he ry
  exact SeqAt.in_tuple_reads r2 r1 (SeqAt.canLay_of_shaped se) (SeqAt.canLay_of_shaped sd) (by have := SeqAt.depth_of_shaped sd; have := SeqAt.depth_of_shaped se; simp only [PyData.depth] at this ⊢; omega) ⟨.bl _, H, I, rfl, q⟩
theorem op_notInDT (hu : X.A.units + 65 < cLine) : OpR X (compareOp .NotIn) (rInDT X.K true) := by
  intro pins s σ H x y v u Q I rx ry h
  obtain ⟨d, ds, hd, he, sd, se, q⟩ := h
  obtain ⟨as, r1⟩ := Dp.reads I d x v hd rx
  obtain ⟨bs, r2⟩ := Dp.reads I (.tuple ds) y u he ry
  exact SeqAt.notIn_tuple_reads r2 r1 (SeqAt.canLay_of_shaped se) (SeqAt.canLay_of_shaped sd) (by have := SeqAt.depth_of_shaped sd; have := SeqAt.depth_of_shaped se; simp only [PyData.depth] at this ⊢; omega) ⟨.bl _, H, I, rfl, q⟩
end
end Mi

set_option Elab.async false
set_option linter.all false
set_option maxRecDepth 100000
namespace Mi
open PySem PySem.Spec PyProof.Rows L2

/-! ## dicts -/
section
variable {κ : Type} [DecidableEq κ]
def findK : List κ → List D → κ → Option D
  | a :: kk, d :: ws, k => if a = k then some d else findK kk ws k
  | _, _, _ => none
def hasK (kk : List κ) (k : κ) : Bool := kk.any fun a => decide (a = k)
def replK : List κ → List D → κ → D → List D
  | a :: kk, w :: ws, k, d => (if a = k then d else w) :: replK kk ws k d
  | _, ws, _, _ => ws
end
/-- what a dict has at a key -/
def dicGet (t : Bool) (ks ws : List D) (x : D) : Option (Option D) := match t with
  | false => match keysOf ks, keyOf x with
    | some kk, some k => some (findK kk ws k)
    | _, _ => none
  | true => match tkeysOf ks, tkeyOf x with
    | some kk, some k => some (findK kk ws k)
    | _, _ => none
def dicPut (t : Bool) (ks ws : List D) (x d : D) : Option (List D × List D) := match t with
  | false => match keysOf ks, keyOf x with
    | some kk, some k => some (if hasK kk k = true then (ks, replK kk ws k d) else (ks ++ [x], ws ++ [d]))
    | _, _ => none
  | true => match tkeysOf ks, tkeyOf x with
    | some kk, some k => some (if hasK kk k = true then (ks, replK kk ws k d) else (ks ++ [x], ws ++ [d]))
    | _, _ => none
section
variable {K : PySem.W.Frag} {mg : MG} {F H : Hp} {κ : Type} [DecidableEq κ]
theorem valV_zip : ∀ {kk : List κ} {ws : List D} {us : List V} {k : κ}, kk.length = us.length → FzL K mg F ws us →
    (findK kk ws k = none ∧ valV (kk.zip us) k = none) ∨ ∃ d v, findK kk ws k = some d ∧ valV (kk.zip us) k = some v ∧ Fz K mg F d v
  | [], ws, us, k, hl, h => by
    have : us = [] := List.eq_nil_of_length_eq_zero hl.symm
    subst this
    exact .inl ⟨by unfold findK; rfl, rfl⟩
  | a :: kk, [], us, k, hl, h => by
    have : us = [] := h
    subst this
    simp at hl
  | a :: kk, d :: ws, us, k, hl, h => by
    obtain ⟨v, r, rfl, h1, h2⟩ := h
    by_cases e : a = k
    · refine .inr ⟨d, v, by unfold findK; rw [if_pos e], ?_, h1⟩
      rw [List.zip_cons_cons, valV_pos e]
    · rcases valV_zip (k := k) (by simpa using hl) h2 with ⟨p, q⟩ | ⟨d', v', p, q, f⟩
      · exact .inl ⟨by unfold findK; rw [if_neg e]; exact p, by rw [List.zip_cons_cons, valV_neg e]; exact q⟩
      · exact .inr ⟨d', v', by unfold findK; rw [if_neg e]; exact p, by rw [List.zip_cons_cons, valV_neg e]; exact q, f⟩
theorem keyOf_fz {x : D} {k : Key} {v : V} (h : keyOf x = some k) (f : Fz K mg F x v) : v = kV k := by
  cases x <;> simp [keyOf] at h
  · subst h; exact f
  · subst h; exact f
theorem keysOf_fz : ∀ {ds : List D} {ks : List Key} {vs : List V}, keysOf ds = some ks → FzL K mg F ds vs → vs = ks.map kV
  | [], ks, vs, h, f => by
    have f : vs = [] := f
    simp [keysOf] at h
    subst h; subst f; rfl
  | d :: ds, ks, vs, h, f => by
    obtain ⟨v, r, rfl, f1, f2⟩ := f
    unfold keysOf at h
    cases e1 : keyOf d with
    | none => rw [e1] at h; cases h
    | some k =>
      cases e2 : keysOf ds with
      | none => rw [e1, e2] at h; cases h
      | some kr =>
        rw [e1, e2] at h
        cases h
        rw [keyOf_fz e1 f1, keysOf_fz e2 f2]
        rfl
theorem keyOf_fb {x : D} {k : Key} {v : V} (h : keyOf x = some k) (f : Fb K mg F H x v) : Fz K mg F x v := by
  cases x <;> simp [keyOf] at h <;> exact f
theorem tkeyOf_fb {x : D} {k : List Key} {v : V} (h : tkeyOf x = some k) (f : Fb K mg F H x v) : Fz K mg F x v := by
  cases x <;> simp [tkeyOf] at h <;> exact f
theorem tkeyOf_fz {x : D} {k : List Key} {v : V} (h : tkeyOf x = some k) (f : Fz K mg F x v) : ∃ b, v = .ref b ∧ F b = some (.tup (k.map kV)) := by
  cases x <;> simp [tkeyOf] at h
  obtain ⟨a, vs, rfl, h1, h2⟩ := f
  rw [keysOf_fz h h2] at h1
  exact ⟨a, rfl, h1⟩
/-- a dict is asked -/
theorem dic_get {t : Bool} {ks ws : List D} {x : D} {o : Option D} {a : Addr} {us : List V} {vx : V} (e : Ex F H) (hd : DicH (Rd H a) t ks us) (hw : FzL K mg F ws us) (hx : Fb K mg F H x vx) (h : dicGet t ks ws x = some o) :
    ∃ ov, DGet H a vx ov ∧ ((o = none ∧ ov = none) ∨ ∃ d v, o = some d ∧ ov = some v ∧ Fz K mg F d v) := by
  unfold dicGet at h
  cases t with
  | false =>
    obtain ⟨kk, h1, h2, h3⟩ := hd
    simp only at h
    cases q : keyOf x with
    | none => rw [h1, q] at h; cases h
    | some k =>
      rw [h1, q] at h
      cases h
      refine ⟨valV (kk.zip us) k, .inl ⟨_, k, h3, keyOf_fz q (keyOf_fb q hx), rfl⟩, ?_⟩
      exact valV_zip h2 hw
  | true =>
    obtain ⟨kk, h1, h2, h3⟩ := hd
    simp only at h
    cases q : tkeyOf x with
    | none => rw [h1, q] at h; cases h
    | some k =>
      rw [h1, q] at h
      cases h
      obtain ⟨b, eb, hb⟩ := tkeyOf_fz q (tkeyOf_fb q hx)
      refine ⟨valV (kk.zip us) k, .inr ⟨_, k, b, h3, eb, e.ex _ _ rfl hb, rfl⟩, ?_⟩
      exact valV_zip h2 hw
theorem any_zip : ∀ {kk : List κ} {us : List V} {k : κ}, kk.length = us.length → ((kk.zip us).any fun kv => decide (kv.1 = k)) = hasK kk k
  | [], _, _, _ => rfl
  | a :: kk, [], _, h => by simp at h
  | a :: kk, u :: us, k, h => by
    rw [List.zip_cons_cons, List.any_cons]
    unfold hasK
    rw [List.any_cons, any_zip (by simpa using h)]
    rfl
theorem repl_zip : ∀ {kk : List κ} {ws : List D} {us : List V} {k : κ} {d : D} {v : V}, kk.length = us.length → FzL K mg F ws us → Fz K mg F d v →
    ∃ us', us'.length = us.length ∧ ((kk.zip us).map fun kv => if kv.1 = k then (kv.1, v) else kv) = kk.zip us' ∧ FzL K mg F (replK kk ws k d) us'
  | [], ws, us, k, d, v, hl, h, hd => by
    have : us = [] := List.eq_nil_of_length_eq_zero hl.symm
    subst this
    exact ⟨[], rfl, rfl, by unfold replK; exact h⟩
  | a :: kk, [], us, k, d, v, hl, h, hd => by
    have : us = [] := h
    subst this
    simp at hl
  | a :: kk, w :: ws, us, k, d, v, hl, h, hd => by
    obtain ⟨u, r, rfl, h1, h2⟩ := h
    obtain ⟨r', p1, p2, p3⟩ := repl_zip (k := k) (kk := kk) (by simpa using hl) h2 hd
    by_cases e : a = k
    · refine ⟨v :: r', by simp [p1], ?_, ?_⟩
      · rw [List.zip_cons_cons, List.map_cons, p2, List.zip_cons_cons]; simp [e]
      · unfold replK; rw [if_pos e]; exact ⟨v, r', rfl, hd, p3⟩
    · refine ⟨u :: r', by simp [p1], ?_, ?_⟩
      · rw [List.zip_cons_cons, List.map_cons, p2, List.zip_cons_cons]; simp [e]
      · unfold replK; rw [if_neg e]; exact ⟨u, r', rfl, h1, p3⟩
theorem put_zip {kk : List κ} {ks ws : List D} {us : List V} {k : κ} {d : D} {v : V} {x : D} (hl : kk.length = us.length) (h : FzL K mg F ws us) (hd : Fz K mg F d v) :
    ∃ us', putK (kk.zip us) k v = (if hasK kk k = true then kk else kk ++ [k]).zip us' ∧ (if hasK kk k = true then kk else kk ++ [k]).length = us'.length ∧ FzL K mg F (if hasK kk k = true then replK kk ws k d else ws ++ [d]) us' := by
  unfold putK
  rw [any_zip hl]
  by_cases e : hasK kk k = true
  · obtain ⟨us', p1, p2, p3⟩ := repl_zip (k := k) hl h hd
    refine ⟨us', by rw [if_pos e, if_pos e]; exact p2, by rw [if_pos e, p1]; exact hl, by rw [if_pos e]; exact p3⟩
  · refine ⟨us ++ [v], ?_, ?_, ?_⟩
    · rw [if_neg e, if_neg e, List.zip_append hl]; rfl
    · rw [if_neg e]; simp [hl]
    · rw [if_neg e]; exact h.app ⟨v, [], rfl, hd, rfl⟩
theorem keysOf_app : ∀ {ks : List D} {x : D} {kk : List Key} {k : Key}, keysOf ks = some kk → keyOf x = some k → keysOf (ks ++ [x]) = some (kk ++ [k])
  | [], x, kk, k, h, hx => by simp [keysOf] at h; subst h; simp [keysOf, hx]
  | d :: ds, x, kk, k, h, hx => by
    unfold keysOf at h
    cases e1 : keyOf d with
    | none => rw [e1] at h; cases h
    | some k1 =>
      cases e2 : keysOf ds with
      | none => rw [e1, e2] at h; cases h
      | some kr =>
        rw [e1, e2] at h
        cases h
        show keysOf (d :: (ds ++ [x])) = _
        unfold keysOf
        rw [e1, keysOf_app e2 hx]
        rfl
theorem tkeysOf_app : ∀ {ks : List D} {x : D} {kk : List (List Key)} {k : List Key}, tkeysOf ks = some kk → tkeyOf x = some k → tkeysOf (ks ++ [x]) = some (kk ++ [k])
  | [], x, kk, k, h, hx => by simp [tkeysOf] at h; subst h; simp [tkeysOf, hx]
  | d :: ds, x, kk, k, h, hx => by
    unfold tkeysOf at h
    cases e1 : tkeyOf d with
    | none => rw [e1] at h; cases h
    | some k1 =>
      cases e2 : tkeysOf ds with
      | none => rw [e1, e2] at h; cases h
      | some kr =>
        rw [e1, e2] at h
        cases h
        show tkeysOf (d :: (ds ++ [x])) = _
        unfold tkeysOf
        rw [e1, tkeysOf_app e2 hx]
        rfl
end

/-! ## subscripts, in -/
def rIxD (K : PySem.W.Frag) : R2 := fun x y H Q => rIx K x y H Q ∨ (fun (x y : V) (H : Hp) (Q : VK) => ∃ a v, x = .ref a ∧ DGet H a y (some v) ∧ Q v H) x y H Q
def dIx : D → D → Option D
  | .lst ds, .int i => atI ds i
  | .tup ds, .int i => atI ds i
  | .str s, .int i => if s.length ≤ lim then (atI s.cps.toList i).map fun c => .str ⟨#[c]⟩ else none
  | .dic t ks ws, x => (dicGet t ks ws x).join
  | _, _ => none
def rInA (K : PySem.W.Frag) : R2 := fun x y H Q => rInD K x y H Q ∨ (rInDT K false x y H Q ∨ ((fun (x y : V) (H : Hp) (Q : VK) => ∃ a o, y = .ref a ∧ DGet H a x o ∧ Q (.bl o.isSome) H) x y H Q ∨ (fun (x y : V) (H : Hp) (Q : VK) => ∃ (c : Nat) (z : Str), x = .str ⟨#[c]⟩ ∧ y = .str z ∧ Q (.bl (decide (c ∈ z.cps.toList))) H) x y H Q))
def rNotInA (K : PySem.W.Frag) : R2 := fun x y H Q => rNotInD K x y H Q ∨ (rInDT K true x y H Q ∨ ((fun (x y : V) (H : Hp) (Q : VK) => ∃ a o, y = .ref a ∧ DGet H a x o ∧ Q (.bl (!o.isSome)) H) x y H Q ∨ (fun (x y : V) (H : Hp) (Q : VK) => ∃ (c : Nat) (z : Str), x = .str ⟨#[c]⟩ ∧ y = .str z ∧ Q (.bl (!decide (c ∈ z.cps.toList))) H) x y H Q))
/-- is x in y -/
def dInB : D → D → Option Bool
  | x, .lst ds => if lvl 60 x = true ∧ lvl 60 (.lst ds) = true then some (ds.any fun z => eqD z x) else none
  | x, .tup ds => if lvl 60 x = true ∧ lvl 60 (.tup ds) = true then some (ds.any fun z => eqD z x) else none
  | x, .dic t ks ws => (dicGet t ks ws x).map Option.isSome
  | .str x, .str s => match x.cps.toList with
    | [c] => some (decide (c ∈ s.cps.toList))
    | _ => none
  | _, _ => none
theorem sign_of {x : Str} {c : Nat} (h : x.cps.toList = [c]) : x = ⟨#[c]⟩ := by
  obtain ⟨a⟩ := x
  have : a = #[c] := by
    apply Array.ext'
    exact h
  rw [this]
def dIn (x y : D) : Option D := (dInB x y).map .bl
def dNotIn (x y : D) : Option D := (dInB x y).map fun b => .bl (!b)
section
variable {X : Cx}
theorem ix_dict (hu : X.A.units + 1 < cLine) : IxR X (fun x y H Q => ∃ a v, x = .ref a ∧ DGet H a y (some v) ∧ Q v H) := by
  intro value slice pins s σ H x y v u Q I rx ry h hs
  obtain ⟨a, w, rfl, g, q⟩ := h
  cases rx
  exact tail_any (dict_typeIs I g) PySem.F.slot_dict_getitem.lookup (d_getItem hu I g ry fun w' s3 I3 rw' => ⟨w, H, I3, rw', q⟩) hs
theorem ix_all (hu : X.A.units + 1 < cLine) : IxR X (rIxD X.K) := ix_seq.or (ix_dict hu)
theorem op_inA (hu : X.A.units + 65 < cLine) : OpR X (compareOp .In) (rInA X.K) := OpR_or (op_inD hu) (OpR_or (op_inDT hu) (OpR_or (fun pins s σ H x y v u Q I rx ry h => by
  obtain ⟨a, o, rfl, g, q⟩ := h
  cases ry
  exact d_in (by omega) I g rx fun s' I' => ⟨.bl _, H, I', rfl, q⟩) op_in_sign))
theorem op_notInA (hu : X.A.units + 65 < cLine) : OpR X (compareOp .NotIn) (rNotInA X.K) := OpR_or (op_notInD hu) (OpR_or (op_notInDT hu) (OpR_or (fun pins s σ H x y v u Q I rx ry h => by
  obtain ⟨a, o, rfl, g, q⟩ := h
  cases ry
  exact d_notIn (by omega) I g rx fun s' I' => ⟨.bl _, H, I', rfl, q⟩) op_notIn_sign))
end
section
variable {K : PySem.W.Frag} {mg : MG}
theorem atI_map {α β : Type} {xs : List α} {ys : List β} (hl : xs.length = ys.length) {i : Int} {a : α} (h : atI xs i = some a) : ∃ j : Nat, xs[j]? = some a ∧ ∀ b, ys[j]? = some b → atI ys i = some b := by
  unfold atI at h ⊢
  rw [hl] at h
  cases q : ixN ys.length i with
  | none => rw [q] at h; cases h
  | some j => rw [q] at h; exact ⟨j, h, fun b hb => by simpa using hb⟩
theorem FzL.at {F : Hp} {ds : List D} {vs : List V} {i : Int} {d : D} (h : FzL K mg F ds vs) (g : atI ds i = some d) : ∃ v, atI vs i = some v ∧ Fz K mg F d v := by
  obtain ⟨j, e, k⟩ := atI_map h.length g
  obtain ⟨v, e2, f⟩ := h.get e
  exact ⟨v, k v e2, f⟩
theorem od_ix : OpD K mg (rIxD K) dIx := fun F H x y vx vy z Q e hx hy hz q => by
  unfold dIx at hz
  split at hz
  · rename_i ds i
    obtain ⟨a, vs, rfl, h1, h2⟩ := hx
    obtain ⟨v, hv, f⟩ := h2.at hz
    have hy : vy = .int i := hy
    exact .inl (.inl ⟨a, vs, i, v, rfl, hy, h1, hv, q.here e f⟩)
  · rename_i ds i
    obtain ⟨a, vs, rfl, h1, h2⟩ := hx
    obtain ⟨v, hv, f⟩ := h2.at hz
    have hy : vy = .int i := hy
    exact .inl (.inr (.inl ⟨a, vs, i, v, rfl, hy, .inl (.inl (e.ex _ _ rfl h1)), hv, q.here e f⟩))
  · rename_i s i
    split at hz
    · rename_i hl
      obtain ⟨c, hc, rfl⟩ := Option.map_eq_some_iff.mp hz
      have hx : vx = .str s := hx
      have hy : vy = .int i := hy
      exact .inl (.inr (.inr ⟨s, i, c, hx, hy, lim_le hl, hc, q.here e rfl⟩))
    · cases hz
  · rename_i t ks ws
    obtain ⟨a, us, rfl, h1, h2⟩ := hx
    obtain ⟨o, g, hz⟩ : ∃ o, dicGet t ks ws y = some o ∧ o = some z := by
      cases g : dicGet t ks ws y with
      | none => rw [g] at hz; cases hz
      | some o => rw [g] at hz; exact ⟨o, rfl, hz⟩
    obtain ⟨ov, hg, hr⟩ := dic_get e h2 h1 hy g
    rcases hr with ⟨r1, r2⟩ | ⟨d, v, r1, r2, r3⟩
    · rw [r1] at hz; cases hz
    · rw [r1] at hz; cases hz
      rw [r2] at hg
      exact .inr ⟨a, v, rfl, hg, q.here e r3⟩
  · cases hz
theorem pyL_any : ∀ (ds : List D) (d : PyData), (D.pyL ds).any (fun z => PyData.eqv z d) = ds.any fun z => PyData.eqv z.py d
  | [], _ => rfl
  | x :: ds, d => by
    show (D.py x :: D.pyL ds).any _ = _
    rw [List.any_cons, List.any_cons, pyL_any ds d]
theorem od_in : OpD K mg (rInA K) dIn := fun F H x y vx vy z Q e hx hy hz q => by
  obtain ⟨b, hb, rfl⟩ := Option.map_eq_some_iff.mp hz
  unfold dInB at hb
  split at hb
  · split at hb
    · rename_i hl
      cases hb
      refine .inl ⟨_, _, fb_dp hl.1 hx e, fb_dp hl.2 hy e, lvl_shaped (by decide) hl.1, lvl_shaped (n := 60) (d := .lst _) (by decide) hl.2, ?_⟩
      rw [pyL_any]; exact q.here e rfl
    · cases hb
  · split at hb
    · rename_i hl
      cases hb
      refine .inr (.inl ⟨_, _, fb_dp hl.1 hx e, fb_dp hl.2 hy e, lvl_shaped (by decide) hl.1, lvl_shaped (n := 60) (d := .tup _) (by decide) hl.2, ?_⟩)
      rw [if_neg Bool.false_ne_true, pyL_any]; exact q.here e rfl
    · cases hb
  · obtain ⟨o, g, rfl⟩ := Option.map_eq_some_iff.mp hb
    obtain ⟨a, us, rfl, h1, h2⟩ := hy
    obtain ⟨ov, hg, hr⟩ := dic_get e h2 h1 hx g
    refine .inr (.inr (.inl ⟨a, ov, rfl, hg, q.here e ?_⟩))
    rcases hr with ⟨r1, r2⟩ | ⟨d, v, r1, r2, r3⟩ <;> (rw [r1, r2]; rfl)
  · split at hb
    · rename_i s' c hc
      cases hb
      rw [sign_of hc] at hx
      exact .inr (.inr (.inr ⟨_, _, hx, hy, q.here e rfl⟩))
    · cases hb
  · cases hb
theorem od_notIn : OpD K mg (rNotInA K) dNotIn := fun F H x y vx vy z Q e hx hy hz q => by
  obtain ⟨b, hb, rfl⟩ := Option.map_eq_some_iff.mp hz
  unfold dInB at hb
  split at hb
  · split at hb
    · rename_i hl
      cases hb
      refine .inl ⟨_, _, fb_dp hl.1 hx e, fb_dp hl.2 hy e, lvl_shaped (by decide) hl.1, lvl_shaped (n := 60) (d := .lst _) (by decide) hl.2, ?_⟩
      rw [pyL_any]; exact q.here e rfl
    · cases hb
  · split at hb
    · rename_i hl
      cases hb
      refine .inr (.inl ⟨_, _, fb_dp hl.1 hx e, fb_dp hl.2 hy e, lvl_shaped (by decide) hl.1, lvl_shaped (n := 60) (d := .tup _) (by decide) hl.2, ?_⟩)
      rw [if_pos rfl, pyL_any]; exact q.here e rfl
    · cases hb
  · obtain ⟨o, g, rfl⟩ := Option.map_eq_some_iff.mp hb
    obtain ⟨a, us, rfl, h1, h2⟩ := hy
    obtain ⟨ov, hg, hr⟩ := dic_get e h2 h1 hx g
    refine .inr (.inr (.inl ⟨a, ov, rfl, hg, q.here e ?_⟩))
    rcases hr with ⟨r1, r2⟩ | ⟨d, v, r1, r2, r3⟩ <;> (rw [r1, r2]; rfl)
  · split at hb
    · rename_i s' c hc
      cases hb
      rw [sign_of hc] at hx
      exact .inr (.inr (.inr ⟨_, _, hx, hy, q.here e rfl⟩))
    · cases hb
  · cases hb
end
end Mi

set_option Elab.async false
set_option linter.all false
set_option maxRecDepth 100000
namespace Mi
open PySem PySem.Spec PyProof.Rows L2

/-! ## built-in functions -/
def fLen : List D → Option D
  | [.lst ds] => some (.int ds.length)
  | [.tup ds] => some (.int ds.length)
  | [.str s] => if s.length ≤ lim then some (.int s.length) else none
  | [.dic t ks ws] => some (.int ws.length)
  | _ => none
def fTuple : List D → Option D
  | [.lst ds] => some (.tup ds)
  | [.tup ds] => some (.tup ds)
  | _ => none
def fList : List D → Option D
  | [.lst ds] => some (.lst ds)
  | [.tup ds] => some (.lst ds)
  | _ => none
def fAbs : List D → Option D
  | [.int i] => some (.int (if i < 0 then -i else i))
  | _ => none
def fInt : List D → Option D
  | [.int i] => some (.int i)
  | [.bl b] => some (.int (if b = true then 1 else 0))
  | _ => none
def blsOf : List D → Option (List Bool)
  | [] => some []
  | .bl b :: ds => (blsOf ds).map fun r => b :: r
  | _ => none
def intsOf : List D → Option (List Int)
  | [] => some []
  | .int i :: ds => (intsOf ds).map fun r => i :: r
  | _ => none
def fAny : List D → Option D
  | [.lst ds] => (blsOf ds).map fun bs => .bl (bs.any id)
  | _ => none
def fAll : List D → Option D
  | [.lst ds] => (blsOf ds).map fun bs => .bl (bs.all id)
  | _ => none
def fSum : List D → Option D
  | [.lst ds] => (intsOf ds).map fun ns => .int ns.sum
  | _ => none
def fMin2 : List D → Option D
  | [.int i, .int j] => some (.int (if j < i then j else i))
  | _ => none
def fMax2 : List D → Option D
  | [.int i, .int j] => some (.int (if j > i then j else i))
  | _ => none
section
variable {K : PySem.W.Frag} {mg : MG} {F H : Hp}
theorem bls_fz : ∀ {ds : List D} {bs : List Bool} {vs : List V}, blsOf ds = some bs → FzL K mg F ds vs → vs = bs.map V.bl
  | [], bs, vs, h, f => by
    have f : vs = [] := f
    cases h; subst f; rfl
  | d :: ds, bs, vs, h, f => by
    obtain ⟨v, r, rfl, f1, f2⟩ := f
    cases d with
    | bl b =>
      obtain ⟨br, h1, rfl⟩ := Option.map_eq_some_iff.mp (show (blsOf ds).map _ = some bs from h)
      have f1 : v = .bl b := f1
      subst f1
      rw [bls_fz h1 f2]; rfl
    | _ => cases h
theorem ints_fz : ∀ {ds : List D} {ns : List Int} {vs : List V}, intsOf ds = some ns → FzL K mg F ds vs → vs = ns.map V.int
  | [], ns, vs, h, f => by
    have f : vs = [] := f
    cases h; subst f; rfl
  | d :: ds, ns, vs, h, f => by
    obtain ⟨v, r, rfl, f1, f2⟩ := f
    cases d with
    | int i =>
      obtain ⟨br, h1, rfl⟩ := Option.map_eq_some_iff.mp (show (intsOf ds).map _ = some ns from h)
      have f1 : v = .int i := f1
      subst f1
      rw [ints_fz h1 f2]; rfl
    | _ => cases h
theorem fz_ints : ∀ (ns : List Int), FzL K mg F (ns.map .int) (ns.map V.int)
  | [] => rfl
  | n :: ns => ⟨_, _, rfl, rfl, fz_ints ns⟩
end
abbrev rLenA (K : PySem.W.Frag) : List V → Hp → VK → Prop := fun xs H Q =>
  (fun xs H Q => ∃ p ys, xs = [.ref p] ∧ (SqL K H p ys ∨ SqT K H p ys) ∧ Q (.int ys.length) H) xs H Q ∨ ((fun xs H Q => ∃ z, xs = [.str z] ∧ z.length ≤ sizeLine ∧ Q (.int z.length) H) xs H Q ∨
    ((fun (xs : List V) (H : Hp) (Q : VK) => ∃ a kvs, xs = [V.ref a] ∧ Rd H a (.dK kvs) ∧ Q (.int kvs.length) H) xs H Q ∨ (fun (xs : List V) (H : Hp) (Q : VK) => ∃ a kvs, xs = [V.ref a] ∧ Rd H a (.dT kvs) ∧ Q (.int kvs.length) H) xs H Q))
theorem d_lenT {X : Cx} {pins : List (Addr × Obj)} {σ : L2.St} {H : Hp} {s : Shared} {a : Addr} {kvs : List (List Key × V)} {A : Around} {E : Value → Shared → Prop} {Q : Value → Shared → Prop} (I : Inv X pins σ H s) (e : Rd H a (.dT kvs)) (h : ∀ t s', Inv X pins σ H s' → Q (.int kvs.length t) s') :
    wpAny (model X.prog X.w) A (call (.builtin "len") [.ref a]) Q E s := by
  obtain ⟨z, hd, ys, rel, dd⟩ := dt_rd I.hok e
  have hl : kvs.length = ys.length := Paired.length rel
  refine call_len_dictH hd dd (by rw [sizeLine_eq] at z; omega) ?_
  rw [← hl]
  exact h _ _ (I.tok _)
section
variable {X : Cx}
theorem cr_lenA : CallR X (.builtin "len") (rLenA X.K) := CallR_or call_len_seq (CallR_or call_len_str (CallR_or (fun pins s σ H xs us Q I r h => by
  obtain ⟨a, kvs, rfl, ha, q⟩ := h
  obtain ⟨u, rfl, ru⟩ := vals1 r
  cases ru
  exact d_len I ha fun t s' I' => ⟨.int kvs.length, H, I', ⟨t, rfl⟩, q⟩) (fun pins s σ H xs us Q I r h => by
  obtain ⟨a, kvs, rfl, ha, q⟩ := h
  obtain ⟨u, rfl, ru⟩ := vals1 r
  cases ru
  exact d_lenT I ha fun t s' I' => ⟨.int kvs.length, H, I', ⟨t, rfl⟩, q⟩)))
end
section
variable {K : PySem.W.Frag} {mg : MG}
theorem fb1 {F H : Hp} {x : D} {vs : List V} (h : FbL K mg F H [x] vs) : ∃ v, vs = [v] ∧ Fb K mg F H x v := by
  obtain ⟨v, r, rfl, h1, h2⟩ := h
  have h2 : r = [] := h2
  subst h2
  exact ⟨v, rfl, h1⟩
theorem fb2 {F H : Hp} {x y : D} {vs : List V} (h : FbL K mg F H [x, y] vs) : ∃ v u, vs = [v, u] ∧ Fb K mg F H x v ∧ Fb K mg F H y u := by
  obtain ⟨v, r, rfl, h1, h2⟩ := h
  obtain ⟨u, rfl, h3⟩ := fb1 h2
  exact ⟨v, u, rfl, h1, h3⟩
theorem fd_len : FnD K mg (rLenA K) fLen := fun F H xs vs z Q e hx hz q => by
  unfold fLen at hz
  split at hz
  · cases hz
    obtain ⟨v, rfl, a, us, rfl, h1, h2⟩ := fb1 hx
    exact .inl ⟨a, us, rfl, .inl h1, by rw [← h2.length]; exact q.here e rfl⟩
  · cases hz
    obtain ⟨v, rfl, a, us, rfl, h1, h2⟩ := fb1 hx
    exact .inl ⟨a, us, rfl, .inr (.inl (.inl (e.ex _ _ rfl h1))), by rw [← h2.length]; exact q.here e rfl⟩
  · split at hz
    · rename_i s hl
      cases hz
      obtain ⟨v, rfl, h⟩ := fb1 hx
      have h : v = .str s := h
      subst h
      exact .inr (.inl ⟨s, rfl, lim_le hl, q.here e rfl⟩)
    · cases hz
  · rename_i t ks ws
    cases hz
    obtain ⟨v, rfl, a, us, rfl, h1, h2⟩ := fb1 hx
    cases t with
    | false =>
      obtain ⟨kk, p1, p2, p3⟩ := h2
      exact .inr (.inr (.inl ⟨a, _, rfl, p3, by rw [List.length_zip, p2, Nat.min_self, ← h1.length]; exact q.here e rfl⟩))
    | true =>
      obtain ⟨kk, p1, p2, p3⟩ := h2
      exact .inr (.inr (.inr ⟨a, _, rfl, p3, by rw [List.length_zip, p2, Nat.min_self, ← h1.length]; exact q.here e rfl⟩))
  · cases hz
theorem fd_tuple : FnD K mg (fun xs H Q => ∃ p ys, xs = [.ref p] ∧ ((SqL K H p ys ∧ ∀ l, H l = none → Q (.ref l) (upd H l (.tup ys))) ∨ (SqT K H p ys ∧ Q (.ref p) H))) fTuple := fun F H xs vs z Q e hx hz q => by
  unfold fTuple at hz
  split at hz
  · cases hz
    obtain ⟨v, rfl, a, us, rfl, h1, h2⟩ := fb1 hx
    exact ⟨a, us, rfl, .inl ⟨h1, fun l hl => q.tup e h2 hl⟩⟩
  · cases hz
    obtain ⟨v, rfl, a, us, rfl, h1, h2⟩ := fb1 hx
    exact ⟨a, us, rfl, .inr ⟨.inl (.inl (e.ex _ _ rfl h1)), q.here e ⟨a, us, rfl, h1, h2⟩⟩⟩
  · cases hz
abbrev rListOf (K : PySem.W.Frag) : List V → Hp → VK → Prop := fun xs H Q => ∃ p ys, xs = [.ref p] ∧ (SqL K H p ys ∨ SqT K H p ys) ∧ ∀ l, H l = none → Q (.ref l) (upd H l (.lst ys))
theorem fd_list : FnD K mg (rListOf K) fList := fun F H xs vs z Q e hx hz q => by
  unfold fList at hz
  split at hz
  · cases hz
    obtain ⟨v, rfl, a, us, rfl, h1, h2⟩ := fb1 hx
    exact ⟨a, us, rfl, .inl h1, fun l hl => q.lst e h2 hl⟩
  · cases hz
    obtain ⟨v, rfl, a, us, rfl, h1, h2⟩ := fb1 hx
    exact ⟨a, us, rfl, .inr (.inl (.inl (e.ex _ _ rfl h1))), fun l hl => q.lst e h2 hl⟩
  · cases hz
theorem fd_abs : FnD K mg (fun xs H Q => ∃ i, xs = [.int i] ∧ Q (.int (if i < 0 then -i else i)) H) fAbs := fun F H xs vs z Q e hx hz q => by
  unfold fAbs at hz
  split at hz
  · cases hz
    obtain ⟨v, rfl, h⟩ := fb1 hx
    have h : v = .int _ := h
    subst h
    exact ⟨_, rfl, q.here e rfl⟩
  · cases hz
theorem fd_int : FnD K mg (fun xs H Q => (∃ i, xs = [.int i] ∧ Q (.int i) H) ∨ ∃ k, xs = [.bl k] ∧ Q (.int (if k then 1 else 0)) H) fInt := fun F H xs vs z Q e hx hz q => by
  unfold fInt at hz
  split at hz
  · cases hz
    obtain ⟨v, rfl, h⟩ := fb1 hx
    have h : v = .int _ := h
    subst h
    exact .inl ⟨_, rfl, q.here e rfl⟩
  · cases hz
    obtain ⟨v, rfl, h⟩ := fb1 hx
    have h : v = .bl _ := h
    subst h
    exact .inr ⟨_, rfl, q.here e rfl⟩
  · cases hz
theorem fd_any : FnD K mg (rAny K) fAny := fun F H xs vs z Q e hx hz q => by
  unfold fAny at hz
  split at hz
  · obtain ⟨bs, hb, rfl⟩ := Option.map_eq_some_iff.mp hz
    obtain ⟨v, rfl, a, us, rfl, h1, h2⟩ := fb1 hx
    rw [bls_fz hb h2] at h1
    exact ⟨a, bs, rfl, h1, q.here e rfl⟩
  · cases hz
theorem fd_all : FnD K mg (rAll K) fAll := fun F H xs vs z Q e hx hz q => by
  unfold fAll at hz
  split at hz
  · obtain ⟨bs, hb, rfl⟩ := Option.map_eq_some_iff.mp hz
    obtain ⟨v, rfl, a, us, rfl, h1, h2⟩ := fb1 hx
    rw [bls_fz hb h2] at h1
    exact ⟨a, bs, rfl, h1, q.here e rfl⟩
  · cases hz
theorem fd_sum : FnD K mg (rSum K) fSum := fun F H xs vs z Q e hx hz q => by
  unfold fSum at hz
  split at hz
  · obtain ⟨bs, hb, rfl⟩ := Option.map_eq_some_iff.mp hz
    obtain ⟨v, rfl, a, us, rfl, h1, h2⟩ := fb1 hx
    rw [ints_fz hb h2] at h1
    exact ⟨a, bs, rfl, h1, q.here e rfl⟩
  · cases hz
theorem fd_min2 : FnD K mg (fun xs H Q => ∃ i j, xs = [.int i, .int j] ∧ Q (.int (if j < i then j else i)) H) fMin2 := fun F H xs vs z Q e hx hz q => by
  unfold fMin2 at hz
  split at hz
  · cases hz
    obtain ⟨v, u, rfl, h1, h2⟩ := fb2 hx
    have h1 : v = .int _ := h1
    have h2 : u = .int _ := h2
    subst h1 h2
    exact ⟨_, _, rfl, q.here e rfl⟩
  · cases hz
theorem fd_max2 : FnD K mg (fun xs H Q => ∃ i j, xs = [.int i, .int j] ∧ Q (.int (if j > i then j else i)) H) fMax2 := fun F H xs vs z Q e hx hz q => by
  unfold fMax2 at hz
  split at hz
  · cases hz
    obtain ⟨v, u, rfl, h1, h2⟩ := fb2 hx
    have h1 : v = .int _ := h1
    have h2 : u = .int _ := h2
    subst h1 h2
    exact ⟨_, _, rfl, q.here e rfl⟩
  · cases hz
end
/-! ### sorted of ints -/
def srtI (ns : List Int) : List Int := ns.mergeSort fun a b => decide (a ≤ b)
theorem srtI_eq {ns ms : List Int} (p : ms.Perm ns) (s : ms.Pairwise (· ≤ ·)) : ms = srtI ns := by
  have h1 : (srtI ns).Perm ns := List.mergeSort_perm ns _
  have h2 : (srtI ns).Pairwise (· ≤ ·) := by
    have := List.pairwise_mergeSort (le := fun a b : Int => decide (a ≤ b)) (fun a b c h g => by simp at *; omega) (fun a b => by simp; omega) ns
    exact this.imp fun h => by simpa using h
  exact (p.trans h1.symm).eq_of_pairwise (fun a b _ _ x y => Int.le_antisymm x y) s h2
end Mi

set_option Elab.async false
set_option linter.all false
set_option maxRecDepth 100000
namespace Mi
open PySem PySem.Spec PyProof.Rows L2

/-! ## slices -/
def cutD (xs : List D) (lo hi : Option Int) : List D := (xs.drop (HT.sIx xs.length 0 lo)).take (HT.sIx xs.length xs.length hi - HT.sIx xs.length 0 lo)
def dSl (lo hi : Option Int) : D → Option D
  | .lst ds => some (.lst (cutD ds lo hi))
  | .tup ds => some (.tup (cutD ds lo hi))
  | _ => none
def partR : Option Opd → Env → Rs (Option Int × Env)
  | none, env => .ok (none, env)
  | some o, env => (o.run env).bind fun (a, e1) => match o.get a e1 with
    | some (.int i) => .ok (some i, e1)
    | _ => .bad
def mSl (o : Opd) (lo hi : Option Opd) : ME := fun env => (o.run env).bind fun (x, e1) => (partR lo e1).bind fun (l, e2) => (partR hi e2).bind fun (h, e3) => match o.get x e3 with
  | some d => optR e3 (dSl l h d)
  | _ => .bad
section
variable {K : PySem.W.Frag} {mg : MG} {W : WX}
theorem FzL.cut {F : Hp} {ds : List D} {vs : List V} (h : FzL K mg F ds vs) (lo hi : Option Int) : FzL K mg F (cutD ds lo hi) (cutV vs lo hi) := by
  unfold cutD cutV
  rw [h.length]
  exact (h.drop _).take _
theorem cutV_whole {xs : List V} {lo hi : Option Int} (h : HT.sIx xs.length 0 lo = 0 ∧ HT.sIx xs.length xs.length hi = xs.length) : cutV xs lo hi = xs := by
  unfold cutV
  rw [h.1, h.2]
  simp
end
section
variable {X : Cx} {W : WX} {e : Expr} {elo ehi : Option Expr} {o : Opd} {lo hi : Option Opd} {pos p2 : Pos}
/-- a part of a slice -/
def tPrt (K : PySem.W.Frag) (mg : MG) (W : WX) (o : Option Opd) : TO := fun σ H Q => ∃ B F env, Sta K mg B F env σ H ∧ Pst K mg W B F σ (fun x _ F' H' => Q x H') (partR o env)
theorem PO_imp {t t' : TO} {e : Option Expr} (h : PO X e t) (i : ∀ σ H Q, t' σ H Q → t σ H Q) : PO X e t' := ⟨fun pins s σ H Q I q => h.run pins s σ H Q I (i σ H Q q)⟩
theorem sp_none : PO X none (tPrt X.K X.mg W none) := PO_imp po_none fun σ H Q ⟨B, F, env, s, h⟩ => h F H s (Ex.refl F)
theorem sp_some (he : PE X e (tOpd X.K X.mg W o)) : PO X (some e) (tPrt X.K X.mg W (some o)) := by
  refine PO_imp (po_some he) fun σ H Q ⟨B, F, env, s, h⟩ => ?_
  refine ⟨B, F, env, s, (Pst.bind h).imp fun x env1 F1 H1 s1 e1 h1 v hv => ?_⟩
  simp only at h1
  cases g : o.get x env1 with
  | none => rw [g] at h1; exact h1.elim
  | some d =>
    rw [g] at h1
    cases d with
    | int i => exact ⟨i, hv.fb s1 g, h1 F1 H1 s1 (Ex.refl F1)⟩
    | _ => exact h1.elim
abbrev rSlAll (K : PySem.W.Frag) : V → Option Int → Option Int → Hp → VK → Prop := fun x lo hi H Q => rSlL K x lo hi H Q ∨ rSlA K x lo hi H Q
theorem sl_all : SlR X (rSlAll X.K) := sl_list.or sl_tupA
theorem se_slice (he : PE X e (tOpd X.K X.mg W o)) (hl : PO X elo (tPrt X.K X.mg W lo)) (hh : PO X ehi (tPrt X.K X.mg W hi)) : PE X (.Subscript e (.Slice elo ehi none p2) pos) (tM X.K X.mg W (mSl o lo hi)) := by
  refine PE_imp (pe_slice sl_all he hl hh) fun σ H Q ⟨B, F, env, s, h⟩ => ?_
  refine ⟨B, F, env, s, (Pst.bind h).imp fun x env1 F1 H1 s1 e1 h1 v hv => ?_⟩
  refine ⟨B, F1, env1, s1, (Pst.bind h1).imp fun l env2 F2 H2 s2 e2 h2 => ?_⟩
  refine ⟨B, F2, env2, s2, (Pst.bind h2).imp fun hh env3 F3 H3 s3 e3 h3 => ?_⟩
  simp only at h3
  cases g : o.get x env3 with
  | none => rw [g] at h3; exact h3.elim
  | some d =>
    rw [g] at h3
    have fb := (hv.ex (e2.trans e3)).fb s3 g
    cases d with
    | lst ds =>
      obtain ⟨a, vs, rfl, f1, f2⟩ := fb
      refine .inl ⟨a, vs, rfl, f1, fun p hp => ?_⟩
      have st := Step.laid (o := .lst (cutV vs l hh)) s3.fH hp
      exact h3 _ _ (s3.step st) st.fF _ ⟨p, _, rfl, .inl (.inl upd_same), (f2.cut l hh).ex st.fF⟩
    | tup ds =>
      obtain ⟨a, vs, rfl, f1, f2⟩ := fb
      refine .inr ⟨a, vs, rfl, .inl (.inl (s3.fH.ex _ _ rfl f1)), fun hw => ?_, fun _ p hp => ?_⟩
      · refine h3 F3 H3 s3 (Ex.refl F3) _ ⟨a, vs, rfl, f1, ?_⟩
        have := f2.cut l hh
        rw [cutV_whole hw] at this
        exact this
      · have st := Step.laid (o := .tup (cutV vs l hh)) s3.fH hp
        exact h3 _ _ (s3.step st) st.fF _ ⟨p, _, rfl, upd_same, (f2.cut l hh).ex st.fF⟩
    | _ => exact h3.elim
end

/-! ## attributes -/
def FldOk (K : PySem.W.Frag) (mg : MG) (cs : List Str) (f : Str) : Prop := ∀ c ∈ cs, ∀ C, mg c = some (.ref C) → Cls K C ∧ NoAttr K C f
def lookD : List Str → List D → Str → Option D
  | n :: ns, d :: ds, f => if f == n then some d else lookD ns ds f
  | _, _, _ => none
def dFld (cs : List Str) (f : Str) : D → Option D
  | .obj c ns vs => if cs.contains c = true then lookD ns vs f else none
  | _ => none
theorem look_fz {K : PySem.W.Frag} {mg : MG} {F : Hp} {f : Str} {d : D} : ∀ {ns : List Str} {ds : List D} {vs : List V}, ns.length = vs.length → FzL K mg F ds vs → lookD ns ds f = some d → ∃ v, (ns.zip vs).lookup f = some v ∧ Fz K mg F d v
  | [], _, _, _, _, h => by unfold lookD at h; cases h
  | n :: ns, [], _, _, _, h => by unfold lookD at h; cases h
  | n :: ns, e :: ds, vs, hl, hd, h => by
    obtain ⟨v, r, rfl, h1, h2⟩ := hd
    unfold lookD at h
    rw [List.zip_cons_cons, List.lookup_cons]
    cases q : f == n with
    | true => rw [q] at h; cases h; exact ⟨v, rfl, h1⟩
    | false => rw [q] at h; exact look_fz (by simpa using hl) h2 h
theorem ud_fld {K : PySem.W.Frag} {mg : MG} {cs : List Str} {f : Str} (ok : FldOk K mg cs f) : UnD K mg (fun x H1 Q => ∃ a C dx fs v, x = .ref a ∧ H1 a = some (.ins C dx fs) ∧ Cls K C ∧ NoAttr K C f ∧ fs.lookup f = some v ∧ Q v H1) (dFld cs f) := fun F H x vx z Q e hx hz q => by
  unfold dFld at hz
  split at hz
  · rename_i c ns vs
    split at hz
    · rename_i hc
      obtain ⟨a, C, dx, us, rfl, h1, h2, h3, h4⟩ := hx
      obtain ⟨v, hv, fv⟩ := look_fz h3 h4 hz
      obtain ⟨k1, k2⟩ := ok c (by simpa using hc) C h1
      exact ⟨a, C, dx, _, v, rfl, e.ex _ _ rfl h2, k1, k2, hv, q.here e fv⟩
    · cases hz
  · cases hz
section
variable {X : Cx} {W : WX} {e a b c : Expr} {o oa ob oc : Opd} {pos : Pos} {m : ME}
theorem se_fld {cs : List Str} {f : Str} (ok : FldOk X.K X.mg cs f) (he : PE X e (tOpd X.K X.mg W o)) (hb : attributeBase e f X.env (eval e X.env) = eval e X.env := by rfl) : PE X (.Attribute e f pos) (tM X.K X.mg W (mUn (dFld cs f) o)) :=
  PE_imp (pe_fld he hb) (tM_un (ud_fld ok))

/-! ## is -/
def dIs : D → D → Option D
  | .non, .non => some (.bl true)
  | _, .non => some (.bl false)
  | .bl a, .bl b => some (.bl (decide (a = b)))
  | _, _ => none
def dIsNot (x y : D) : Option D := match dIs x y with
  | some (.bl b) => some (.bl (!b))
  | _ => none
abbrev rIsA : R2 := fun x y H Q => (fun (x y : V) (H : Hp) (Q : VK) => y = .non ∧ Q (.bl (decide (x = .non))) H) x y H Q ∨ rIsB x y H Q
abbrev rIsNotA : R2 := fun x y H Q => (fun (x y : V) (H : Hp) (Q : VK) => y = .non ∧ Q (.bl (!decide (x = .non))) H) x y H Q ∨ rNotB x y H Q
theorem op_isA : OpR X (compareOp .Is) rIsA := OpR_or op_isN op_isBl
theorem op_isNotA : OpR X (compareOp .IsNot) rIsNotA := OpR_or op_notN op_notBl
theorem fb_non {K : PySem.W.Frag} {mg : MG} {F H : Hp} {x : D} {v : V} (h : Fb K mg F H x v) (hn : x ≠ .non) : v ≠ .non := by
  cases x with
  | non => exact absurd rfl hn
  | bl b => have h : v = .bl b := h; rw [h]; intro z; cases z
  | int i => have h : v = .int i := h; rw [h]; intro z; cases z
  | str s => have h : v = .str s := h; rw [h]; intro z; cases z
  | ty n => have h : v = .ty n := h; rw [h]; intro z; cases z
  | glo n => obtain ⟨a, rfl, _⟩ := h; intro z; cases z
  | tup ds => obtain ⟨a, _, rfl, _⟩ := h; intro z; cases z
  | lst ds => obtain ⟨a, _, rfl, _⟩ := h; intro z; cases z
  | dic t ks ws => obtain ⟨a, _, rfl, _⟩ := h; intro z; cases z
  | obj c ns ws => obtain ⟨a, _, _, _, rfl, _⟩ := h; intro z; cases z
theorem od_is {K : PySem.W.Frag} {mg : MG} : OpD K mg rIsA dIs := fun F H x y vx vy z Q e hx hy hz q => by
  unfold dIs at hz
  split at hz
  · cases hz
    have hx : vx = .non := hx
    exact .inl ⟨hy, by rw [hx]; exact q.here e rfl⟩
  · rename_i hn
    cases hz
    exact .inl ⟨hy, by rw [decide_eq_false (fb_non hx (fun z => hn z))]; exact q.here e rfl⟩
  · cases hz
    exact .inr ⟨_, _, hx, hy, q.here e rfl⟩
  · cases hz
theorem od_isNot {K : PySem.W.Frag} {mg : MG} : OpD K mg rIsNotA dIsNot := fun F H x y vx vy z Q e hx hy hz q => by
  unfold dIsNot dIs at hz
  split at hz
  · rename_i b hb
    cases hz
    split at hb
    · cases hb
      have hx : vx = .non := hx
      exact .inl ⟨hy, by rw [hx]; exact q.here e rfl⟩
    · rename_i hn
      cases hb
      exact .inl ⟨hy, by rw [decide_eq_false (fb_non hx (fun z => hn z))]; exact q.here e rfl⟩
    · cases hb
      exact .inr ⟨_, _, hx, hy, q.here e rfl⟩
    · cases hb
  · cases hz

/-! ## a < b < c -/
def mChain (f g : D → D → Option D) (a b c : Opd) : ME := fun env => (a.run env).bind fun (x, e1) => (b.run e1).bind fun (y, e2) => match a.get x e2, b.get y e2 with
  | some dx, some dy => match f dx dy with
    | some (.bl true) => (c.run e2).bind fun (z, e3) => match b.get y e3, c.get z e3 with
      | some dy, some dz => optR e3 (g dy dz)
      | _, _ => .bad
    | some (.bl false) => .ok (.bl false, e2)
    | _ => .bad
  | _, _ => .bad
theorem tM_chain {r r' : R2} {f g : D → D → Option D} (hf : OpD X.K X.mg r f) (hg : OpD X.K X.mg r' g) : ∀ σ H Q, tM X.K X.mg W (mChain f g oa ob oc) σ H Q → tChain r r' (tOpd X.K X.mg W oa) (tOpd X.K X.mg W ob) (tOpd X.K X.mg W oc) σ H Q := by
  rintro σ H Q ⟨B, F, env, s, h⟩
  refine ⟨B, F, env, s, (Pst.bind h).imp fun x env1 F1 H1 s1 e1 h1 vx hx => ?_⟩
  refine ⟨B, F1, env1, s1, (Pst.bind h1).imp fun y env2 F2 H2 s2 e2 h2 vy hy => ?_⟩
  simp only at h2
  cases q1 : oa.get x env2 with
  | none => rw [q1] at h2; exact h2.elim
  | some dx =>
    cases q2 : ob.get y env2 with
    | none => rw [q1, q2] at h2; exact h2.elim
    | some dy =>
      rw [q1, q2] at h2
      simp only at h2
      cases q3 : f dx dy with
      | none => rw [q3] at h2; exact h2.elim
      | some z =>
        rw [q3] at h2
        refine hf F2 H2 dx dy vx vy z _ s2.fH ((hx.ex e2).fb s2 q1) (hy.fb s2 q2) q3 fun F' H' v st hz => ?_
        cases z with
        | bl k =>
          have hz : v = .bl k := hz
          refine ⟨k, hz, ?_⟩
          cases k with
          | false => exact h2 F' H' (s2.step st) st.fF _ rfl
          | true =>
            refine ⟨B, F', env2, s2.step st, (Pst.mono st.fF (Pst.bind h2)).imp fun w env3 F3 H3 s3 e3 h3 vz hzz => ?_⟩
            simp only at h3
            cases q4 : ob.get y env3 with
            | none => rw [q4] at h3; exact h3.elim
            | some dy' =>
              cases q5 : oc.get w env3 with
              | none => rw [q4, q5] at h3; exact h3.elim
              | some dz =>
                rw [q4, q5] at h3
                simp only at h3
                cases q6 : g dy' dz with
                | none => rw [q6] at h3; exact h3.elim
                | some z2 =>
                  rw [q6] at h3
                  exact hg F3 H3 dy' dz vy vz z2 Q s3.fH ((hy.ex (st.fF.trans e3)).fb s3 q4) (hzz.fb s3 q5) q6 fun F4 H4 v4 st4 hz4 => h3 F4 H4 (s3.step st4) st4.fF v4 hz4
        | _ => exact h2.elim
theorem se_chain {op op' : CmpOp} {r r' : R2} {f g : D → D → Option D} (ho : OpR X (compareOp op) r) (hf : OpD X.K X.mg r f) (ho' : OpR X (compareOp op') r') (hg : OpD X.K X.mg r' g) (ha : PE X a (tOpd X.K X.mg W oa)) (hb : PE X b (tOpd X.K X.mg W ob)) (hc : PE X c (tOpd X.K X.mg W oc))
    (hm : lastMarks [op, op'] [b, c] = false := by with_unfolding_all rfl) : PE X (.Compare a [op, op'] [b, c] pos) (tM X.K X.mg W (mChain f g oa ob oc)) := PE_imp (pe_chain ho ho' ha hb hc hm) (tM_chain hf hg)
theorem st_chain {op op' : CmpOp} {r r' : R2} {f g : D → D → Option D} (ho : OpR X (compareOp op) r) (hf : OpD X.K X.mg r f) (ho' : OpR X (compareOp op') r') (hg : OpD X.K X.mg r' g) (ha : PE X a (tOpd X.K X.mg W oa)) (hb : PE X b (tOpd X.K X.mg W ob)) (hc : PE X c (tOpd X.K X.mg W oc))
    (hm : lastMarks [op, op'] [b, c] = false := by with_unfolding_all rfl) : PT X (.Compare a [op, op'] [b, c] pos) (tMT X.K X.mg W (mTst (mChain f g oa ob oc))) :=
  PT_imp (pt_chain ho ho' ha hb hc hm) fun σ H Q h => tM_chain hf hg σ H _ (tMT_tst (X := X) (W := W) (f := fun _ _ => fun _ _ _ => True) σ H Q h)

/-! ## a, b = e -/
def mAsgT (b : Bd) (m : ME) : MS := fun env => (m env).bind fun (d, e1) => match b d e1 with
  | some e2 => .ok (.nx, e2)
  | none => .bad
theorem ss_asgT {tg : Expr} {g : TG} {bd : Bd} {js : List Nat} (he : PE X e (tM X.K X.mg W m)) (hg : PG X tg g) (gd : GD X.K X.mg g bd js) (hs : swapsWithSole [tg] e pos.line X.env = pure false := by rfl) (hw : swappedStores [tg] e X.env = pure none := by rfl)
    (h1 : (assignEach [tg] X.env).map (·.2) = [assign tg X.env] := by rfl) : PS X (.Assign [tg] e pos) (tMS X.K X.mg W (mAsgT bd m)) := by
  refine PS_imp (ps_asg he hg hs hw h1) fun D σ H ⟨B, F, env, s, h⟩ => ?_
  refine ⟨B, F, env, s, (PstS.bind h).imp fun d env1 F1 H1 s1 e1 h1 v hv => ?_⟩
  simp only at h1
  cases q : bd d env1 with
  | none => rw [q] at h1; exact h1.elim
  | some e2 =>
    rw [q] at h1
    exact gd B F1 env1 σ H1 d v e2 _ s1 hv q fun σ' s2 _ => h1 F1 σ' H1 s2 (Ex.refl F1)

/-! ## changes -/
/-- xs.append(e) -/
def mApp (i : Nat) (m : ME) : MS := fun env => match peek env i with
  | some (.lst _) => (m env).bind fun (d, e1) => match e1[i]? with
    | some (.ol ds) => if ds.length < lim then .ok (.nx, e1.set i (.ol (ds ++ [d]))) else .bad
    | some (.io ds) => if ds.length < lim then .ok (.nx, e1.set i (.io (ds ++ [d]))) else .bad
    | _ => .bad
  | _ => .bad
/-- xs[k] = e -/
def mSetI (i : Nat) (k : Opd) (m : ME) : MS := fun env => (m env).bind fun (d, e1) => if (peek e1 i).isNone then .bad else (k.run e1).bind fun (x, e2) => match k.get x e2 with
  | some (.int z) => match e2[i]? with
    | some (.ol ds) => match ixN ds.length z with
      | some j => .ok (.nx, e2.set i (.ol (ds.set j d)))
      | none => .bad
    | some (.io ds) => match ixN ds.length z with
      | some j => .ok (.nx, e2.set i (.io (ds.set j d)))
      | none => .bad
    | _ => .bad
  | _ => .bad
/-- d[k] = e -/
def mPut (i : Nat) (k : ME) (m : ME) : MS := fun env => (m env).bind fun (d, e1) => if (peek e1 i).isNone then .bad else (k e1).bind fun (x, e2) => match e2[i]? with
  | some (.od t ks ws) => if ws.length < lim then match dicPut t ks ws x d with
      | some (ks', ws') => .ok (.nx, e2.set i (.od t ks' ws'))
      | none => .bad
    else .bad
  | _ => .bad
end
section
variable {K : PySem.W.Frag} {mg : MG} {F H : Hp} {B : Base} {σ : L2.St} {env : Env} {W : WX} {i : Nat}
theorem Sta.peekV (s : Sta K mg B F env σ H) (h : ¬ (Mi.peek env i).isNone = true) : ∃ v, (σ[i]? : Option (Option V)) = some (some v) := by
  cases z : Mi.peek env i with
  | none => rw [z] at h; exact absurd rfl h
  | some d =>
    obtain ⟨v, e, _⟩ := s.peek z
    exact ⟨v, e⟩
theorem same_look {v : V} {p : Addr} (e : (σ[i]? : Option (Option V)) = some (some v)) (h : slotV σ i = some (.ref p)) : v = .ref p := by
  have := look_of h
  rw [e] at this
  injection (Option.some.inj this)
end
section
variable {X : Cx} {W : WX} {e a b c : Expr} {o oa ob oc : Opd} {pos : Pos} {m mk : ME}
theorem ss_app (i : Nat) {x : Str} {p2 p3 p4 : Pos} (he : PE X e (tM X.K X.mg W m)) (hN : X.N[i]? = some x := by rfl) (hv : Vis X.env.scope x := by first | exact Or.inl rfl | exact Or.inr (Or.inl rfl) | exact Or.inr (Or.inr rfl)) (hd : (x == ("__debug__" : Str)) = false := by decide)
    (hcd : (x == ("__classdict__" : Str)) = false := by decide)
    (hp : PE X (.Call (.Attribute (.Name x p2) "append" p3) [e] [] p4) (tBM X.K "list" rAppend (tVar i) (tCons (tM X.K X.mg W m) tNil))) (hs : swapsWith (.Call (.Attribute (.Name x p2) "append" p3) [e] [] p4) none pos.line X.env = pure false := by rfl) :
    PS X (.Expr (.Call (.Attribute (.Name x p2) "append" p3) [e] [] p4) pos) (tMS X.K X.mg W (mApp i m)) := by
  refine PS_imp (ps_expr hp hs) fun D σ H ⟨B, F, env, s, h⟩ => ?_
  unfold mApp at h
  split at h
  rotate_left
  · exact h.elim
  rename_i ds0 hpk
  obtain ⟨v0, ev0, a0, vs0, rfl, hr0, _⟩ := s.peek hpk
  refine ⟨.ref a0, ev0, .inl ⟨rfl, vs0, hr0⟩, B, F, env, s, (PstS.bind h).imp fun d env1 F1 H1 s1 e1 h1 v hv => ?_⟩
  simp only at h1
  cases q : env1[i]? with
  | none => rw [q] at h1; exact h1.elim
  | some x =>
    rw [q] at h1
    cases x with
    | ol ds =>
      simp only at h1
      split at h1
      · rename_i hl
        obtain ⟨p, us, ev, hF, h0, hH, hx⟩ := s1.sl i _ q
        refine ⟨p, us, v, same_look ev0 ev, rfl, hH, by rw [← hx.length]; exact lim_lt hl, ?_⟩
        exact h1 F1 σ _ (s1.mut (o := .lst (us ++ [v])) ⟨look_of ev, _, q, rfl⟩ hF (.inl h0) ⟨p, _, rfl, hF, h0, upd_same, hx.app ⟨v, [], rfl, hv, rfl⟩⟩ rfl) (Ex.refl F1)
      · exact h1.elim
    | io ds =>
      simp only at h1
      split at h1
      · rename_i hl
        obtain ⟨p, us, ev, hF, h0, hH, hx⟩ := s1.sl i _ q
        refine ⟨p, us, v, same_look ev0 ev, rfl, hH, by rw [← hx.length]; exact lim_lt hl, ?_⟩
        exact h1 F1 σ _ (s1.mut (o := .lst (us ++ [v])) ⟨look_of ev, _, q, rfl⟩ hF (.inr h0) ⟨p, _, rfl, hF, h0, upd_same, hx.app ⟨v, [], rfl, hv, rfl⟩⟩ rfl) (Ex.refl F1)
      · exact h1.elim
    | _ => exact h1.elim
theorem ss_setI (i : Nat) {x : Str} {k : Expr} {ok : Opd} {p2 p3 : Pos} (he : PE X e (tM X.K X.mg W m)) (hk : PE X k (tOpd X.K X.mg W ok)) (hN : X.N[i]? = some x := by rfl) (hv : Vis X.env.scope x := by first | exact Or.inl rfl | exact Or.inr (Or.inl rfl) | exact Or.inr (Or.inr rfl)) (hd : (x == ("__debug__" : Str)) = false := by decide)
    (hcd : (x == ("__classdict__" : Str)) = false := by decide)
    (hs : swapsWithSole [.Subscript (.Name x p2) k p3] e pos.line X.env = pure false := by rfl) (hw : swappedStores [.Subscript (.Name x p2) k p3] e X.env = pure none := by rfl)
    (h1 : (assignEach [.Subscript (.Name x p2) k p3] X.env).map (·.2) = [assign (.Subscript (.Name x p2) k p3) X.env] := by rfl) (hg : PG X (.Subscript (.Name x p2) k p3) (gSub (tVar i) (tOpd X.K X.mg W ok) rSetL) := by exact pg_sub (pe_var (by assumption) (by assumption) (by assumption) (by assumption)) (by assumption) set_list) :
    PS X (.Assign [.Subscript (.Name x p2) k p3] e pos) (tMS X.K X.mg W (mSetI i ok m)) := by
  refine PS_imp (ps_asg he hg hs hw h1) fun D σ H ⟨B, F, env, s, h⟩ => ?_
  refine ⟨B, F, env, s, (PstS.bind h).imp fun d env1 F1 H1 s1 e1 h1 v hv => ?_⟩
  simp only at h1
  by_cases hpk : (peek env1 i).isNone = true
  · rw [if_pos hpk] at h1; exact h1.elim
  rw [if_neg hpk] at h1
  obtain ⟨v0, ev0⟩ := s1.peekV hpk
  refine ⟨v0, ev0, B, F1, env1, s1, (PstS.bind h1).imp fun z env2 F2 H2 s2 e2 h2 vz hz => ?_⟩
  simp only at h2
  split at h2
  · rename_i zi hzi
    have hvz : vz = .int zi := hz.fb s2 hzi
    cases q : env2[i]? with
    | none => rw [q] at h2; exact h2.elim
    | some y =>
      rw [q] at h2
      cases y with
      | ol ds =>
        simp only at h2
        split at h2
        · rename_i j hj
          obtain ⟨p, us, ev, hF, h0, hH, hx⟩ := s2.sl i _ q
          refine ⟨p, us, zi, j, same_look ev0 ev, hvz, hH, by rw [← hx.length]; exact hj, ?_⟩
          exact h2 F2 σ _ (s2.mut (o := .lst (us.set j v)) ⟨look_of ev, _, q, rfl⟩ hF (.inl h0) ⟨p, _, rfl, hF, h0, upd_same, hx.set j (hv.ex e2)⟩ rfl) (Ex.refl F2)
        · exact h2.elim
      | io ds =>
        simp only at h2
        split at h2
        · rename_i j hj
          obtain ⟨p, us, ev, hF, h0, hH, hx⟩ := s2.sl i _ q
          refine ⟨p, us, zi, j, same_look ev0 ev, hvz, hH, by rw [← hx.length]; exact hj, ?_⟩
          exact h2 F2 σ _ (s2.mut (o := .lst (us.set j v)) ⟨look_of ev, _, q, rfl⟩ hF (.inr h0) ⟨p, _, rfl, hF, h0, upd_same, hx.set j (hv.ex e2)⟩ rfl) (Ex.refl F2)
        · exact h2.elim
      | _ => exact h2.elim
  · exact h2.elim
theorem ss_put (i : Nat) {x : Str} {k : Expr} {p2 p3 : Pos} (hu : X.A.units + 1 < cLine) (he : PE X e (tM X.K X.mg W m)) (hk : PE X k (tM X.K X.mg W mk)) (hs : swapsWith e (some (.Subscript (.Name x p2) k p3)) pos.line X.env = pure false := by rfl) (hN : X.N[i]? = some x := by rfl) (hv : Vis X.env.scope x := by first | exact Or.inl rfl | exact Or.inr (Or.inl rfl) | exact Or.inr (Or.inr rfl)) (hd : (x == ("__debug__" : Str)) = false := by decide)
    (hcd : (x == ("__classdict__" : Str)) = false := by decide) :
    PS X (.Assign [.Subscript (.Name x p2) k p3] e pos) (tMS X.K X.mg W (mPut i mk m)) := by
  refine PS_imp (ps_dput hu (pe_var hN hv hd hcd) hk he hs) fun D σ H ⟨B, F, env, s, h⟩ => ?_
  refine ⟨B, F, env, s, (PstS.bind h).imp fun d env1 F1 H1 s1 e1 h1 v hv => ?_⟩
  simp only at h1
  by_cases hpk : (peek env1 i).isNone = true
  · rw [if_pos hpk] at h1; exact h1.elim
  rw [if_neg hpk] at h1
  obtain ⟨v0, ev0⟩ := s1.peekV hpk
  refine ⟨v0, ev0, B, F1, env1, s1, (PstS.bind h1).imp fun z env2 F2 H2 s2 e2 h2 vz hz => ?_⟩
  simp only at h2
  cases q : env2[i]? with
  | none => rw [q] at h2; exact h2.elim
  | some y =>
    rw [q] at h2
    cases y with
    | od t ks ws =>
      simp only at h2
      split at h2
      · rename_i hl
        obtain ⟨p, us, ev, hF, h0, hH, hx⟩ := s2.sl i _ q
        have hv2 := hv.ex e2
        cases r : dicPut t ks ws z d with
        | none => rw [r] at h2; exact h2.elim
        | some pr =>
          obtain ⟨ks', ws'⟩ := pr
          rw [r] at h2
          simp only at h2
          unfold dicPut at r
          cases t with
          | false =>
            obtain ⟨kk, p1, p2, p3⟩ := hH
            simp only at r
            cases q2 : keyOf z with
            | none => rw [p1, q2] at r; cases r
            | some k =>
              rw [p1, q2] at r
              simp only [Option.some.injEq] at r
              obtain ⟨us', g1, g2, g3⟩ := put_zip (k := k) (x := z) (ks := ks) p2 hx hv2
              refine ⟨p, _, same_look ev0 ev, .inl ⟨_, k, p3, keyOf_fz q2 hz, by rw [List.length_zip, p2, Nat.min_self, ← hx.length]; exact lim_lt hl, rfl⟩, ?_⟩
              refine h2 F2 σ _ (s2.mut (o := .dK _) ⟨look_of ev, _, q, rfl⟩ hF (.inl h0) ⟨p, us', rfl, hF, h0, ⟨if hasK kk k = true then kk else kk ++ [k], ?_, g2, by rw [upd_same, g1]⟩, ?_⟩ rfl) (Ex.refl F2)
              · by_cases hh : hasK kk k = true
                · rw [if_pos hh] at r ⊢; cases r; exact p1
                · rw [if_neg hh] at r ⊢; cases r; exact keysOf_app p1 q2
              · by_cases hh : hasK kk k = true
                · rw [if_pos hh] at r g3; cases r; exact g3
                · rw [if_neg hh] at r g3; cases r; exact g3
          | true =>
            obtain ⟨kk, p1, p2, p3⟩ := hH
            simp only at r
            cases q2 : tkeyOf z with
            | none => rw [p1, q2] at r; cases r
            | some k =>
              rw [p1, q2] at r
              simp only [Option.some.injEq] at r
              obtain ⟨us', g1, g2, g3⟩ := put_zip (k := k) (x := z) (ks := ks) p2 hx hv2
              obtain ⟨b, eb, hb⟩ := tkeyOf_fz q2 hz
              refine ⟨p, _, same_look ev0 ev, .inr ⟨_, k, b, p3, eb, s2.fH.ex _ _ rfl hb, by rw [List.length_zip, p2, Nat.min_self, ← hx.length]; exact lim_lt hl, rfl⟩, ?_⟩
              refine h2 F2 σ _ (s2.mut (o := .dT _) ⟨look_of ev, _, q, rfl⟩ hF (.inl h0) ⟨p, us', rfl, hF, h0, ⟨if hasK kk k = true then kk else kk ++ [k], ?_, g2, by rw [upd_same, g1]⟩, ?_⟩ rfl) (Ex.refl F2)
              · by_cases hh : hasK kk k = true
                · rw [if_pos hh] at r ⊢; cases r; exact p1
                · rw [if_neg hh] at r ⊢; cases r; exact tkeysOf_app p1 q2
              · by_cases hh : hasK kk k = true
                · rw [if_pos hh] at r g3; cases r; exact g3
                · rw [if_neg hh] at r g3; cases r; exact g3
      · exact h2.elim
    | _ => exact h2.elim
end
end Mi

set_option Elab.async false
set_option linter.all false
set_option maxRecDepth 100000
namespace Mi
open PySem PySem.Spec PyProof.Rows L2 Ob

/-! ## <, <=, >, >= of ints, and of tuples of such at any depth -/
structure OrdOk (op : CmpOp) (ii : Int → Int → Bool) (nn : Nat → Nat → Bool) : Prop where
  oi : ∀ (A : Around) (s : Shared) (a b : Int) (t u : Tok), RcOp op A s (.int a t) (.int b u) (ii a b)
  tups : ∀ (A : Around) (s : Shared) (l b : Addr) (items items2 : Array Value) (e r : Nat → Bool), s.heap.IsTuple l items → s.heap.IsTuple b items2 → A.units < cLine →
    (∀ j (h1 : j < items.size) (h2 : j < items2.size), SeqAt.EqAt A.in1 s items[j] items2[j] (e j)) → (∀ j (h1 : j < items.size) (h2 : j < items2.size), e j = false → RcOp op A.in1 s items[j] items2[j] (r j)) →
    RcOp op A s (.ref l) (.ref b) (lexAt e r (nn items.size items2.size) 0 (min items.size items2.size))
  cmp : ∀ a b, compareOp op a b = richCompare op a b
theorem ord_lt : OrdOk .Lt (fun a b => decide (a < b)) (fun m n => decide (m < n)) := ⟨fun _ _ a b t u => RcOp.lt_int a b t u, fun _ _ _ _ _ _ _ _ h1 h2 h3 h4 h5 => RcOp.tuples_lt h1 h2 h3 h4 h5, fun _ _ => rfl⟩
theorem ord_le : OrdOk .LtE (fun a b => decide (a ≤ b)) (fun m n => decide (m ≤ n)) := ⟨fun _ _ a b t u => RcOp.le_int a b t u, fun _ _ _ _ _ _ _ _ h1 h2 h3 h4 h5 => RcOp.tuples_le h1 h2 h3 h4 h5, fun _ _ => rfl⟩
theorem ord_gt : OrdOk .Gt (fun a b => decide (b < a)) (fun m n => decide (m > n)) := ⟨fun _ _ a b t u => RcOp.gt_int a b t u, fun _ _ _ _ _ _ _ _ h1 h2 h3 h4 h5 => RcOp.tuples_gt h1 h2 h3 h4 h5, fun _ _ => rfl⟩
theorem ord_ge : OrdOk .GtE (fun a b => decide (b ≤ a)) (fun m n => decide (m ≥ n)) := ⟨fun _ _ a b t u => RcOp.ge_int a b t u, fun _ _ _ _ _ _ _ _ h1 h2 h3 h4 h5 => RcOp.tuples_ge h1 h2 h3 h4 h5, fun _ _ => rfl⟩
/-- the first unequal pair tells, or the lengths do -/
def cmpLs (nn : Nat → Nat → Bool) (f : D → D → Option Bool) : Nat → Nat → List D → List D → Bool
  | m, n, x :: xs, y :: ys => if eqD x y = true then cmpLs nn f m n xs ys else (f x y).getD false
  | m, n, _, _ => nn m n
def cmpN (ii : Int → Int → Bool) (nn : Nat → Nat → Bool) : Nat → D → D → Option Bool
  | _, .int i, .int j => some (ii i j)
  | n + 1, .tup xs, .tup ys => if ((xs.zip ys).all fun p => eqD p.1 p.2 || (cmpN ii nn n p.1 p.2).isSome) = true then some (cmpLs nn (cmpN ii nn n) xs.length ys.length xs ys) else none
  | _, _, _ => none
def dOrd (ii : Int → Int → Bool) (nn : Nat → Nat → Bool) (x y : D) : Option D := if lvl 40 x = true ∧ lvl 40 y = true then (cmpN ii nn 40 x y).map .bl else none
abbrev dLt := dOrd (fun a b => decide (a < b)) (fun m n => decide (m < n))
abbrev dLe := dOrd (fun a b => decide (a ≤ b)) (fun m n => decide (m ≤ n))
abbrev dGt := dOrd (fun a b => decide (b < a)) (fun m n => decide (m > n))
abbrev dGe := dOrd (fun a b => decide (b ≤ a)) (fun m n => decide (m ≥ n))

theorem lexAt_cmp {nn : Nat → Nat → Bool} {f : D → D → Option Bool} {xs0 ys0 : List D} {m n : Nat} : ∀ (i : Nat) (xs ys : List D), xs0.drop i = xs → ys0.drop i = ys →
    lexAt (fun j => match xs0[j]?, ys0[j]? with | some x, some y => eqD x y | _, _ => false) (fun j => match xs0[j]?, ys0[j]? with | some x, some y => (f x y).getD false | _, _ => false) (nn m n) i (min xs.length ys.length) = cmpLs nn f m n xs ys
  | i, [], ys, _, _ => by simp [lexAt, cmpLs]
  | i, x :: xs, [], _, _ => by simp [lexAt, cmpLs]
  | i, x :: xs, y :: ys, hx, hy => by
    have gx : xs0[i]? = some x := by
      have := congrArg (fun l : List D => l[0]?) hx
      simpa using this
    have gy : ys0[i]? = some y := by
      have := congrArg (fun l : List D => l[0]?) hy
      simpa using this
    have hx' : xs0.drop (i + 1) = xs := by
      have := congrArg List.tail hx
      simpa using this
    have hy' : ys0.drop (i + 1) = ys := by
      have := congrArg List.tail hy
      simpa using this
    rw [List.length_cons, List.length_cons, Nat.succ_min_succ, lexAt_succ, lexAt_cmp (i + 1) xs ys hx' hy']
    simp only [gx, gy]
    rfl
section
variable {X : Cx} {pins : List (Addr × Obj)} {σ : L2.St} {H : Hp} {s : Shared} {op : CmpOp} {ii : Int → Int → Bool} {nn : Nat → Nat → Bool}
theorem vals_lookup {xs : List V} {us : List Value} (r : Vals xs us) {j : Nat} (h : j < us.toArray.size) : ∃ v, xs[j]? = some v ∧ RelV v us.toArray[j] := by
  have hj : j < us.length := by simpa using h
  have hx : j < xs.length := by rw [r.length]; exact hj
  obtain ⟨u, e, f⟩ := r.get (List.getElem?_eq_getElem hx)
  refine ⟨xs[j], List.getElem?_eq_getElem hx, ?_⟩
  rw [List.getElem?_eq_getElem hj] at e
  cases e
  simpa using f
theorem ord_run (O : OrdOk op ii nn) (I : Inv X pins σ H s) : ∀ (n : Nat) (A : Around) (x y : D) (vx vy : V) (u w : Value) (b : Bool), n ≤ 40 → A.units + 41 + n < cLine → lvl n x = true → lvl n y = true → Fz X.K X.mg H x vx → Fz X.K X.mg H y vy → RelV vx u → RelV vy w → cmpN ii nn n x y = some b → RcOp op A s u w b := by
  have hint : ∀ (A : Around) (i j : Int) (vx vy : V) (u w : Value), Fz X.K X.mg H (.int i) vx → Fz X.K X.mg H (.int j) vy → RelV vx u → RelV vy w → RcOp op A s u w (ii i j) := fun A i j vx vy u w f1 f2 r1 r2 => by
    have f1 : vx = .int i := f1
    have f2 : vy = .int j := f2
    subst f1 f2
    obtain ⟨t, rfl⟩ := r1
    obtain ⟨t', rfl⟩ := r2
    exact O.oi A s i j t t'
  intro n
  induction n with
  | zero =>
    intro A x y vx vy u w b hn hu l1 l2 f1 f2 r1 r2 h
    unfold cmpN at h
    split at h
    · cases h; exact hint A _ _ vx vy u w f1 f2 r1 r2
    · rename_i e; cases e
    · cases h
  | succ n ih =>
    intro A x y vx vy u w b hn hu l1 l2 f1 f2 r1 r2 h
    unfold cmpN at h
    split at h
    · cases h; exact hint A _ _ vx vy u w f1 f2 r1 r2
    · rename_i n' xs ys e
      cases e
      split at h
      · rename_i hall
        cases h
        obtain ⟨a, vs, rfl, g1, g2⟩ := f1
        obtain ⟨c, us, rfl, k1, k2⟩ := f2
        cases r1
        cases r2
        obtain ⟨its, rv, p, _⟩ := I.tuple (.inl (.inl g1))
        obtain ⟨its2, rv2, p2, _⟩ := I.tuple (.inl (.inl k1))
        have l1' : xs.all (lvl n) = true := l1
        have l2' : ys.all (lvl n) = true := l2
        have e1 : its.toArray.size = xs.length := by rw [List.size_toArray, ← rv.length, ← g2.length]
        have e2 : its2.toArray.size = ys.length := by rw [List.size_toArray, ← rv2.length, ← k2.length]
        have R := O.tups A s a c its.toArray its2.toArray (fun j => match xs[j]?, ys[j]? with | some x, some y => eqD x y | _, _ => false) (fun j => match xs[j]?, ys[j]? with | some x, some y => (cmpN ii nn n x y).getD false | _, _ => false) p p2 (by omega) (fun j h1 h2 => ?_) (fun j h1 h2 he => ?_)
        · rw [e1, e2] at R
          have := lexAt_cmp (nn := nn) (f := cmpN ii nn n) (xs0 := xs) (ys0 := ys) (m := xs.length) (n := ys.length) 0 xs ys rfl rfl
          rw [this] at R
          exact R
        · obtain ⟨v, hv, rvv⟩ := vals_lookup rv h1
          obtain ⟨v2, hv2, rvv2⟩ := vals_lookup rv2 h2
          obtain ⟨x, hx, fx⟩ := g2.getV hv
          obtain ⟨y, hy, fy⟩ := k2.getV hv2
          have lx := List.all_eq_true.mp l1' x (List.mem_of_getElem? hx)
          have ly := List.all_eq_true.mp l2' y (List.mem_of_getElem? hy)
          obtain ⟨as, q1⟩ := Dp.reads I _ v _ (fz_dp n x v lx fx) rvv
          obtain ⟨bs, q2⟩ := Dp.reads I _ v2 _ (fz_dp n y v2 ly fy) rvv2
          simp only [hx, hy]
          obtain ⟨c1, d1⟩ := lvl_shape n x lx
          obtain ⟨c2, d2⟩ := lvl_shape n y ly
          exact SeqAt.eqAt_reads x.py y.py A.in1 s _ _ as bs q1 q2 c1 c2 (by show A.units + 1 + min x.py.depth y.py.depth < cLine; omega)
        · obtain ⟨v, hv, rvv⟩ := vals_lookup rv h1
          obtain ⟨v2, hv2, rvv2⟩ := vals_lookup rv2 h2
          obtain ⟨x, hx, fx⟩ := g2.getV hv
          obtain ⟨y, hy, fy⟩ := k2.getV hv2
          have lx := List.all_eq_true.mp l1' x (List.mem_of_getElem? hx)
          have ly := List.all_eq_true.mp l2' y (List.mem_of_getElem? hy)
          simp only [hx, hy] at he ⊢
          have hz : (xs.zip ys)[j]? = some (x, y) := by rw [List.getElem?_zip_eq_some]; exact ⟨hx, hy⟩
          have ho := List.all_eq_true.mp hall _ (List.mem_of_getElem? hz)
          simp only [he, Bool.false_or] at ho
          obtain ⟨b', hb'⟩ := Option.isSome_iff_exists.mp ho
          rw [hb']
          exact ih A.in1 x y v v2 _ _ b' (by omega) (by show A.units + 1 + 41 + n < cLine; omega) lx ly fx fy rvv rvv2 hb'
      · cases h
    · cases h
/-- the rule's reading: two data that compare -/
def rOrd (K : PySem.W.Frag) (mg : MG) (ii : Int → Int → Bool) (nn : Nat → Nat → Bool) : R2 := fun x y H Q => ∃ dx dy b, lvl 40 dx = true ∧ lvl 40 dy = true ∧ Fz K mg H dx x ∧ Fz K mg H dy y ∧ cmpN ii nn 40 dx dy = some b ∧ Q (.bl b) H
theorem op_ord (O : OrdOk op ii nn) (hu : X.A.units + 81 < cLine) : OpR X (compareOp op) (rOrd X.K X.mg ii nn) := by
  intro pins s σ H x y v u Q I rx ry h
  obtain ⟨dx, dy, b, l1, l2, f1, f2, hc, q⟩ := h
  rw [O.cmp]
  exact ord_run O I 40 X.A dx dy x y v u b (Nat.le_refl _) (by omega) l1 l2 f1 f2 rx ry hc X.prog X.w X.xe (EP X pins σ Q) ⟨.bl b, H, I, rfl, q⟩
end
theorem od_ord {K : PySem.W.Frag} {mg : MG} {ii : Int → Int → Bool} {nn : Nat → Nat → Bool} : OpD K mg (rOrd K mg ii nn) (dOrd ii nn) := fun F H x y vx vy z Q e hx hy hz q => by
  unfold dOrd at hz
  split at hz
  · rename_i hl
    obtain ⟨b, hb, rfl⟩ := Option.map_eq_some_iff.mp hz
    exact ⟨x, y, b, hl.1, hl.2, hx.fzH e, hy.fzH e, hb, q.here e rfl⟩
  · cases hz
end Mi

set_option Elab.async false
set_option linter.all false
set_option maxRecDepth 100000
namespace Mi
open PySem PySem.Spec PyProof.Rows L2

section
variable {A : Around} {k : Nat}
theorem hu1 (hr : Room k A) : A.units + 1 < cLine := by have := hr.un; omega
theorem hu64 (hr : Room k A) : A.units + 64 < cLine := by have := hr.un; omega
theorem hu65 (hr : Room k A) : A.units + 65 < cLine := by have := hr.un; omega
theorem hu81 (hr : Room k A) : A.units + 81 < cLine := by have := hr.un; omega
end
section
variable {X : Cx} {W : WX} {e a b c : Expr} {es : List Expr} {o oa ob oc : Opd} {os : List Opd} {pos : Pos} {m ma mb : ME} {ml : MA}
/-! ## names of the module -/
theorem se_ty {x : Str} {n : String} {p : Pos} (hg : Gl X x) (hm : X.mg x = none) (hv : bootBuiltins x = some (.type n)) (hn : x ≠ "__name__" := by decide) (hd : (x == ("__debug__" : Str)) = false := by decide) : PE X (.Name x p) (tOpd X.K X.mg W (.c (.ty n))) := by
  refine PE_imp (pe_bltn (v := .ty n) hg hm hv rfl hn hd) fun σ H Q ⟨B, F, env, s, h⟩ => ?_
  exact h F H s (Ex.refl F) (.ty n) rfl
theorem se_gi {x : Str} {i : Int} {p : Pos} (hg : Gl X x) (hm : ∃ t, X.mg x = some (.int i t)) (hd : (x == ("__debug__" : Str)) = false := by decide) : PE X (.Name x p) (tOpd X.K X.mg W (.c (.int i))) := by
  obtain ⟨t, hm⟩ := hm
  exact se_gc (v := .int i) rfl hg hm ⟨t, rfl⟩ hd
theorem se_gs {x y : Str} {p : Pos} (hg : Gl X x) (hm : ∃ t, X.mg x = some (.str y t)) (hd : (x == ("__debug__" : Str)) = false := by decide) : PE X (.Name x p) (tOpd X.K X.mg W (.c (.str y))) := by
  obtain ⟨t, hm⟩ := hm
  exact se_gc (v := .str y) rfl hg hm ⟨t, rfl⟩ hd
theorem sm_of {d : D} (h : PE X e (tOpd X.K X.mg W (.c d))) : PE X e (tM X.K X.mg W (mK d)) := by
  refine PE_imp h fun σ H Q ⟨B, F, env, s, h⟩ => ⟨B, F, env, s, fun F1 H1 s1 e1 v hv => h F1 H1 s1 e1 v hv⟩
/-! ## a returned list that is the caller's own -/
def mRetL (m : MA) : MS := fun env => (m env).bind fun (ds, e1) => .ok (.ro ds, e1)
theorem ss_retL (he : PE X e (tMO X.K X.mg W ml)) : PS X (.Return (some e) pos) (tMS X.K X.mg W (mRetL ml)) := by
  refine PS_imp (ps_ret he) fun D σ H ⟨B, F, env, s, h⟩ => ?_
  refine ⟨B, F, env, s, (PstS.bind h).imp fun ds env1 F1 H1 s1 e1 h1 p vs ho hF h0 hio hH hd => h1 F1 σ H1 s1 (Ex.refl F1) p vs hF h0 hio hH hd⟩
/-! ## list(x), sorted(x), owned -/
def mFnL (f : List D → Option D) (as : List Opd) : MA := fun env => (runL as env).bind fun (xs, e1) => match getL as xs e1 with
  | some ds => match f ds with
    | some (.lst zs) => .ok (zs, e1)
    | _ => .bad
  | none => .bad
/-- functions that make a new list of what their argument holds -/
def FnL (K : PySem.W.Frag) (mg : MG) (r : List V → Hp → VK → Prop) (f : List D → Option D) : Prop :=
  ∀ (F H : Hp) (xs : List D) (vs : List V) (zs : List D) (Q : VK), Ex F H → FbL K mg F H xs vs → f xs = some (.lst zs) → (∀ p us, H p = none → FzL K mg F zs us → Q (.ref p) (upd H p (.lst us))) → r vs H Q
theorem tMO_fn {K : PySem.W.Frag} {mg : MG} {r : List V → Hp → VK → Prop} {f : List D → Option D} {as : List Opd} (ho : FnL K mg r f) : ∀ σ H Q, tMO K mg W (mFnL f as) σ H Q → tCB r (tOps K mg W as) σ H Q := by
  rintro σ H Q ⟨B, F, env, s, h⟩
  refine ⟨B, F, env, s, (Pst.bind h).imp fun xs env1 F1 H1 s1 e1 h1 vs hx => ?_⟩
  simp only at h1
  cases q1 : getL as xs env1 with
  | none => rw [q1] at h1; exact h1.elim
  | some ds =>
    rw [q1] at h1
    simp only at h1
    split at h1
    · rename_i zs q3
      refine ho F1 H1 ds vs zs Q s1.fH (hx.fb s1 q1) q3 fun p us hp hu => ?_
      obtain ⟨s2, a1, a2, a3, a4⟩ := s1.laidO (o := .lst us) hp
      exact h1 _ _ s2 (Ex.refl F1) p us a4 a1 a2 a3 upd_same hu
    · exact h1.elim
theorem fl_list {K : PySem.W.Frag} {mg : MG} : FnL K mg (rListOf K) fList := fun F H xs vs zs Q e hx hz q => by
  unfold fList at hz
  split at hz
  · cases hz
    obtain ⟨v, rfl, a, us, rfl, h1, h2⟩ := fb1 hx
    exact ⟨a, us, rfl, .inl h1, fun l hl => q l us hl h2⟩
  · cases hz
    obtain ⟨v, rfl, a, us, rfl, h1, h2⟩ := fb1 hx
    exact ⟨a, us, rfl, .inr (.inl (.inl (e.ex _ _ rfl h1))), fun l hl => q l us hl h2⟩
  · cases hz
theorem so_list {p : Pos} (hg : Gl X "list") (hm : X.mg "list" = none) (hv : bootBuiltins "list" = some (.type "list")) (ha : PA X (e :: es) (tOps X.K X.mg W os))
    (he : starEach (e :: es) X.env = (false, eval e X.env) :: starEach es X.env := by rfl) (hpl : (backTo pos (starEach es X.env)).any (·.1) = false := by rfl) : PE X (.Call (.Name "list" p) (e :: es) [] pos) (tMO X.K X.mg W (mFnL fList os)) := PE_imp (pe_callTy call_list_of hg hm hv ha (by decide) (by decide) he hpl) (tMO_fn fl_list)
/-! ## d.get(k, x) -/
def mGet2 (o k : Opd) (m : ME) : ME := fun env => (o.run env).bind fun (x, e1) => match o.get x e1 with
  | some (.dic _ _ _) => (k.run e1).bind fun (y, e2) => (m e2).bind fun (z, e3) => match o.get x e3, k.get y e3 with
    | some (.dic t ks ws), some dk => match dicGet t ks ws dk with
      | some (some d) => .ok (d, e3)
      | some none => .ok (z, e3)
      | none => .bad
    | _, _ => .bad
  | _ => .bad
theorem se_get2 {f : Expr} {apos cpos : Pos} (hu : X.A.units + 1 < cLine) (ho : PE X a (tOpd X.K X.mg W oa)) (he : PE X e (tOpd X.K X.mg W o)) (hf : PE X f (tM X.K X.mg W m)) (m2 : M2 X a "get" apos e f cpos) : PE X (.Call (.Attribute a "get" apos) [e, f] [] cpos) (tM X.K X.mg W (mGet2 oa o m)) := by
  refine PE_imp (pe_dget2 hu ho he hf m2) fun σ H Q ⟨B, F, env, s, h⟩ => ?_
  refine ⟨B, F, env, s, (Pst.bind h).imp fun x env1 F1 H1 s1 e1 h1 vx hx => ?_⟩
  simp only at h1
  split at h1
  · rename_i t ks ws q1
    obtain ⟨p, us, rfl, f1, f2⟩ := hx.fb s1 q1
    refine ⟨p, rfl, ?_, B, F1, env1, s1, (Pst.bind h1).imp fun y env2 F2 H2 s2 e2 h2 vy hy => ?_⟩
    · cases t with
      | false => obtain ⟨kk, _, _, z⟩ := f2; exact .inl ⟨_, z⟩
      | true => obtain ⟨kk, _, _, z⟩ := f2; exact .inr ⟨_, z⟩
    refine ⟨B, F2, env2, s2, (Pst.bind h2).imp fun z env3 F3 H3 s3 e3 h3 vz hz => ?_⟩
    simp only at h3
    split at h3
    · rename_i t' ks' ws' dk q2 q3
      obtain ⟨p', us', ep, g1, g2⟩ := (hx.ex (e2.trans e3)).fb s3 q2
      cases ep
      have gk := (hy.ex e3).fb s3 q3
      split at h3
      · rename_i d q4
        obtain ⟨ov, hg, hr⟩ := dic_get s3.fH g2 g1 gk q4
        rcases hr with ⟨r1, r2⟩ | ⟨d', v, r1, r2, r3⟩
        · cases r1
        · cases r1
          exact ⟨ov, hg, by rw [r2]; exact h3 F3 H3 s3 (Ex.refl F3) v r3⟩
      · rename_i q4
        obtain ⟨ov, hg, hr⟩ := dic_get s3.fH g2 g1 gk q4
        rcases hr with ⟨r1, r2⟩ | ⟨d', v, r1, r2, r3⟩
        · exact ⟨ov, hg, by rw [r2]; exact h3 F3 H3 s3 (Ex.refl F3) vz hz⟩
        · cases r1
      · exact h3.elim
    · exact h3.elim
  · exact h1.elim
/-! ## isinstance against built-in types -/
def tyName : D → Option String
  | .non => some "NoneType"
  | .bl _ => some "bool"
  | .int _ => some "int"
  | .str _ => some "str"
  | .tup _ => some "tuple"
  | .lst _ => some "list"
  | .dic false _ _ => some "dict"
  | _ => none
/-- the answer for the built-in types that are asked for -/
def isTy (a b : String) : Option Bool := if a = b then some true else if b = "int" then some (decide (a = "bool")) else if b = "bool" ∨ b = "str" ∨ b = "tuple" ∨ b = "list" ∨ b = "dict" then some false else none
def isB6 (n : String) : Bool := n = "int" || n = "bool" || n = "str" || n = "tuple" || n = "list" || n = "dict"
def fIsTy : List D → Option D
  | [.obj c _ _, .ty n] => if c = "Office" ∧ isB6 n = true then some (.bl false) else none
  | [x, .ty n] => match tyName x with
    | some a => (isTy a n).map .bl
    | none => none
  | _ => none
theorem isTy_kit {a b : String} {r : Bool} (ha : a = "NoneType" ∨ a = "bool" ∨ a = "int" ∨ a = "str" ∨ a = "tuple" ∨ a = "list" ∨ a = "dict") (h : isTy a b = some r) : kitB a b = some r := by
  unfold isTy at h
  split at h
  · rename_i e; cases h; subst e; rcases ha with rfl | rfl | rfl | rfl | rfl | rfl | rfl <;> decide +kernel
  · rename_i ne
    split at h
    · rename_i e; subst e; cases h
      rcases ha with rfl | rfl | rfl | rfl | rfl | rfl | rfl <;> first | exact absurd rfl ne | decide +kernel
    · rename_i ne2
      split at h
      · rename_i e
        cases h
        rcases e with rfl | rfl | rfl | rfl | rfl <;> rcases ha with rfl | rfl | rfl | rfl | rfl | rfl | rfl <;> first | exact absurd rfl ne | decide +kernel
      · cases h
/-- what isinstance asks of an own class -/
structure IsiTxt (K : PySem.W.Frag) (C : Addr) : Prop where
  cl : Cls K C
  ha : PySem.W.findIn K (.ref C) "__class__" = some (some (.builtin "object.__class__"))
  hn : PySem.W.specialIn K (.builtin "object.__class__") "__get__" = some (some (.builtin "getset_descriptor.__get__"))
  htk : PySem.W.takesIn K (.builtin "object.__class__") = some true
  hm : PySem.W.mroIn K C (.type "object") = some true
  m1 : PySem.W.mroIn K C (.type "int") = some false
  m2 : PySem.W.mroIn K C (.type "bool") = some false
  m3 : PySem.W.mroIn K C (.type "str") = some false
  m4 : PySem.W.mroIn K C (.type "tuple") = some false
  m5 : PySem.W.mroIn K C (.type "list") = some false
  m6 : PySem.W.mroIn K C (.type "dict") = some false
def IsiC (K : PySem.W.Frag) (mg : MG) : Prop := ∀ C, mg "Office" = some (.ref C) → IsiTxt K C
theorem isi_kit {K : PySem.W.Frag} {C : Addr} {n : String} (h : IsiTxt K C) (hb : isB6 n = true) : PySem.W.kitOne K (.ref C) (.type n) = some false := by
  have key : ∀ n : String, PySem.W.kitMeta n = true → PySem.W.mroIn K C (.type n) = some false → PySem.W.kitOne K (.ref C) (.type n) = some false := fun n h1 h2 => by
    unfold PySem.W.kitOne PySem.W.kitCls
    rw [if_neg (show ¬ (Value.ref C == Value.type n) = true by intro z; have := LawfulBEq.eq_of_beq z; cases this)]
    simp only []
    rw [if_pos h1]
    exact h2
  unfold isB6 at hb
  simp only [Bool.or_eq_true, decide_eq_true_eq] at hb
  rcases hb with ((((rfl | rfl) | rfl) | rfl) | rfl) | rfl
  · exact key _ (by decide +kernel) h.m1
  · exact key _ (by decide +kernel) h.m2
  · exact key _ (by decide +kernel) h.m3
  · exact key _ (by decide +kernel) h.m4
  · exact key _ (by decide +kernel) h.m5
  · exact key _ (by decide +kernel) h.m6
theorem fd_isTy {K : PySem.W.Frag} {mg : MG} (ic : IsiC K mg) : FnD K mg (rIsi K) fIsTy := fun F H xs vs z Q e hx hz q => by
  unfold fIsTy at hz
  split at hz
  · rename_i c ns ws n
    split at hz
    · rename_i hc
      obtain ⟨rfl, hb⟩ := hc
      cases hz
      obtain ⟨v, u, rfl, h1, h2⟩ := fb2 hx
      have h2 : u = .ty n := h2
      subst h2
      obtain ⟨a, C, dx, us, rfl, hC, hH, _, _⟩ := h1
      have t := ic C hC
      exact ⟨.ref a, .ty n, _, _, false, rfl, ClsV.ty n, .base (.ins (e.ex _ _ rfl hH) t.cl t.ha t.hn t.htk t.hm), isi_kit t hb, q.here e rfl⟩
    · cases hz
  · rename_i x n hno
    obtain ⟨v, u, rfl, h1, h2⟩ := fb2 hx
    have h2 : u = .ty n := h2
    subst h2
    cases hy : tyName x with
    | none => rw [hy] at hz; cases hz
    | some a =>
      rw [hy] at hz
      obtain ⟨b, hb, rfl⟩ := Option.map_eq_some_iff.mp hz
      have fin : ∀ t : Value, t = .type a → TyX K H v t → (a = "NoneType" ∨ a = "bool" ∨ a = "int" ∨ a = "str" ∨ a = "tuple" ∨ a = "list" ∨ a = "dict") → rIsi K [v, .ty n] H Q := fun t et ht ha => by
        subst et
        exact ⟨v, .ty n, _, _, b, rfl, ClsV.ty n, ht, kit_ty (isTy_kit ha hb), q.here e rfl⟩
      cases x with
      | non => have h1 : v = .non := h1; cases hy; subst h1; exact fin _ rfl (.base .non) (by simp)
      | bl c => have h1 : v = .bl c := h1; cases hy; subst h1; exact fin _ rfl (.base (.bl c)) (by simp)
      | int c => have h1 : v = .int c := h1; cases hy; subst h1; exact fin _ rfl (.base (.int c)) (by simp)
      | str c => have h1 : v = .str c := h1; cases hy; subst h1; exact fin _ rfl (.base (.str c)) (by simp)
      | tup ds => obtain ⟨p, us, rfl, k1, k2⟩ := h1; cases hy; exact fin _ rfl (.base (.tup (e.ex _ _ rfl k1))) (by simp)
      | lst ds =>
        obtain ⟨p, us, rfl, k1, k2⟩ := h1
        cases hy
        rcases k1 with (k1 | ⟨ob, k1⟩) | ⟨ob, its, n, k1, k2, _⟩
        · exact fin _ rfl (.base (.lst k1)) (by simp)
        · exact fin _ rfl (.base (.frz k1)) (by simp)
        · exact fin _ rfl (.kList k1 k2) (by simp)
      | dic t ks ws =>
        obtain ⟨p, us, rfl, k1, k2⟩ := h1
        cases t with
        | false =>
          obtain ⟨kk, _, _, k3⟩ := k2
          cases hy
          rcases k3 with k3 | ⟨ob, k3⟩
          · exact fin _ rfl (.base (.dK k3)) (by simp)
          · exact fin _ rfl (.fDict k3) (by simp)
        | true => cases hy
      | _ => cases hy
  · cases hz
/-! ## further small things -/
def dNeg : D → Option D
  | .int i => some (.int (-i))
  | _ => none
theorem ud_neg {K : PySem.W.Frag} {mg : MG} : UnD K mg (rU fun i => .int (-i)) dNeg := fun F H x vx z Q e hx hz q => by
  unfold dNeg at hz
  split at hz
  · cases hz; exact ⟨_, hx, q.here e rfl⟩
  · cases hz
/-! ## a new instance, by __init__'s promise -/
/-- self is new; behind it holds what f tells, under the names ns -/
def spC (K : PySem.W.Frag) (mg : MG) (C : Addr) (ns : List Str) (f : OF) : Sp := fun vs H Q E => ∃ F x dx vr ds, vs = .ref x :: vr ∧ Ex F H ∧ F x = none ∧ H x = some (.ins C dx []) ∧ FzL K mg F ds vr ∧ (match f ds with
  | .bad => False
  | .exc y => ExcP K mg [x] F H y E
  | .ok zs => ∀ F' H' us, Step [x] F H F' H' → F' x = none → H' x = some (.ins C dx (ns.zip us)) → ns.length = us.length → FzL K mg F' zs us → Q .non H')
def mMake (cn : Str) (ns : List Str) (f : OF) (a : MA) : ME := fun env => (a env).bind fun (ds, e1) => match f ds with
  | .bad => .bad
  | .exc y => .exc y e1
  | .ok zs => .ok (.obj cn ns zs, e1)
theorem tM_make {K : PySem.W.Frag} {mg : MG} {cn : Str} {ns : List Str} {C : Addr} {f : OF} {a : MA} {E : XK} (hC : mg cn = some (.ref C)) : ∀ σ H Q, tM K mg (fun cls d _ H => E cls d H) (mMake cn ns f a) σ H Q → tMake C (spC K mg C ns f) [] E (tMA K mg (fun cls d _ H => E cls d H) a) σ H Q := by
  rintro σ H Q ⟨B, F, env, s, h⟩
  refine ⟨B, F, env, s, (Pst.bind h).imp fun ds env1 F1 H1 s1 e1 h1 vs hv x dx hx hdx hne => ?_⟩
  simp only at h1
  have nF : ∀ p, H1 p = none → F1 p = none := fun p hp => by
    cases q : F1 p with
    | none => rfl
    | some u => rcases s1.fH.rd p u (.inl q) with z | ⟨_, z⟩ <;> rw [hp] at z <;> cases z
  have keep : ∀ a o, H1 a = some o → upd (upd H1 dx (.own x)) x (.ins C dx []) a = some o := fun a o e => by
    rw [upd_ne (ne_of_none e hx), upd_ne (ne_of_none e hdx)]; exact e
  have keepN : ∀ a, H1 a ≠ none → upd (upd H1 dx (.own x)) x (.ins C dx []) a ≠ none := fun a e => by
    cases z : H1 a with
    | none => exact absurd z e
    | some o => rw [keep a o z]; simp
  have e2 : Ex F1 (upd (upd H1 dx (.own x)) x (.ins C dx [])) := s1.fH.trans (.of keep)
  refine ⟨F1, x, dx, vs, ds, by rw [List.append_nil], e2, nF x hx, upd_same, hv, ?_⟩
  cases q : f ds with
  | bad => rw [q] at h1; exact h1.elim
  | exc y =>
    rw [q] at h1
    intro F' H' d C' st hn ha hC'
    exact h1 F' H' d C' (s1.step ⟨st.fF, st.fH, fun a o e _ => st.kH a o (keep a o e) (by simpa using ne_of_none e hx), fun a e n => st.new a (keepN a e) n⟩) st.fF ha hC'
  | ok zs =>
    rw [q] at h1
    intro F' H' us st hF' hx' hl hz
    obtain ⟨g1, g2⟩ := st.fH.freeze hF' hx'
    have stp : Step [] F1 H1 (upd F' x (.ins C dx (ns.zip us))) H' := ⟨st.fF.trans g1, g2, fun a o e _ => st.kH a o (keep a o e) (by simpa using ne_of_none e hx), fun a e n => by
      have : a ≠ x := fun z => e (by rw [z]; exact hx)
      rw [upd_ne this]
      exact st.new a (keepN a e) n⟩
    exact ⟨rfl, h1 _ H' (s1.step stp) stp.fF (.ref x) ⟨x, C, dx, us, rfl, hC, upd_same, hl, hz.ex g1⟩⟩
theorem se_make {C f : Addr} {k : Nat} {fd : FuncData} {ps : List Str} {cn : Str} {ns : List Str} {g : OF} {p : Pos} {E : XK} (M : Mk X.K C f) (F : FnOk X.prog X.w X.K X.mg X.base (L2.CX X.prog X.w) k f fd ps (spC X.K X.mg C ns g)) (tk : Takes X (fun cls d _ H => E cls d H)) (hr : Room (k + 1) X.A) (hg : Gl X cn) (hm : X.mg cn = some (.ref C)) (hb : Binds X.K fd ps [])
    (ha : PA X (e :: es) (tMA X.K X.mg (fun cls d _ H => E cls d H) ml)) (hdb : (cn == ("__debug__" : Str)) = false := by decide) (he : starEach (e :: es) X.env = (false, eval e X.env) :: starEach es X.env := by rfl) (hpl : (backTo pos (starEach es X.env)).any (·.1) = false := by rfl) :
    PE X (.Call (.Name cn p) (e :: es) [] pos) (tM X.K X.mg (fun cls d _ H => E cls d H) (mMake cn ns g ml)) :=
  PE_imp (pe_make M F hr hg hm hb .nil (passes_call tk fun _ _ _ _ h => h) ha hdb he hpl) (tM_make hm)
end
end Mi

set_option Elab.async false
set_option linter.all false
set_option maxRecDepth 100000
namespace Mi
open PySem PySem.Spec PyProof.Rows L2 

/-! ## d.setdefault(k, x) where the keys are tuples -/
section
variable {X : Cx} {pins : List (Addr × Obj)} {σ : L2.St} {H : Hp} {s : Shared} {a b : Addr} {r : Value} {d : V} {k : List Key} {A : Around} {E : Value → Shared → Prop}
theorem d_setdT {kvs : List (List Key × V)} {Q : Value → Shared → Prop} (hu : A.units + 1 < cLine) (I : Inv X pins σ H s) (e : H a = some (.dT kvs)) (eb : H b = some (.tup (k.map kV))) (rd : RelV d r) (hl : kvs.length < sizeLine)
    (h1 : ∀ v, valV kvs k = some v → ∀ (w' : Value) (s' : Shared), Inv X pins σ H s' → RelV v w' → Q w' s') (h2 : valV kvs k = none → ∀ (w' : Value) (s' : Shared), Inv X pins σ (upd H a (.dT (putK kvs k d))) s' → RelV d w' → Q w' s') :
    wpAny (model X.prog X.w) A (call (.builtin "dict.setdefault") [.ref a, .ref b, r]) Q E s := by
  obtain ⟨z, hd, xs, rel, dd⟩ := dt_of I.hok e
  have hz : xs.length ≤ sizeLine := by rw [← Paired.length rel]; exact z
  have q := rel.val k
  refine call_setdefault_heap (hsz := hz) (tupleKind_room_in1 hu) (key_of I.hok eb) hd dd (fun p hp => ?_) fun hn h' dd' hs => ?_
  · rw [hp] at q
    cases q0 : valV kvs k with
    | none => rw [q0] at q; exact (show False from q).elim
    | some v0 => rw [q0] at q; exact h1 v0 q0 _ _ (I.tok _) q
  · rw [hn] at q
    cases q0 : valV kvs k with
    | some v0 => rw [q0] at q; exact (show False from q).elim
    | none =>
      have hl2 : (putK kvs k d).length ≤ sizeLine := by have := length_putK kvs k d; omega
      refine h2 q0 _ _ ?_ rd
      obtain ⟨q, es, ep, hq, h2, h3, h4, _, h5⟩ := dd'
      refine d_write I (by rw [e]; exact True.intro) hs ⟨q, hq⟩ ⟨hl2, hd, _, (rel.put k eb rd).keeps fun c ys ec => ?_, q, es, ep, hq, h2, h3, h4, h5⟩
      rw [upd_ne (ne_of ec e (fun z => nomatch z))]
      exact ec
end
def tDSetdT (td ty tx : TE) : TE := fun σ H Q => td σ H fun x H1 => ∃ a, x = .ref a ∧ IsD H1 a ∧ ty σ H1 fun y H2 => tx σ H2 fun z H3 => ∃ (kvs : List (List Key × V)) (k : List Key) (b : Addr), H3 a = some (.dT kvs) ∧ y = .ref b ∧ H3 b = some (.tup (k.map kV)) ∧ kvs.length < sizeLine ∧
  (∀ v, valV kvs k = some v → Q v H3) ∧ (valV kvs k = none → Q z (upd H3 a (.dT (putK kvs k z))))
section
variable {X : Cx} {o e f : Expr} {td ty tx : TE} {apos cpos : Pos}
theorem pe_dsetdT (hu : X.A.units + 1 < cLine) (ho : PE X o td) (he : PE X e ty) (hf : PE X f tx) (m : M2 X o "setdefault" apos e f cpos) : PE X (.Call (.Attribute o "setdefault" apos) [e, f] [] cpos) (tDSetdT td ty tx) := by
  refine ⟨fun pins s σ H Q I h => ?_⟩
  refine wpAny_Call_method m.base m.few m.line PySem.F.plainAttrs_dict PySem.F.slot_dict_setdefault PySem.F.type_dict_setdefault (thn (ho.run pins s σ H _ I h) fun u s1 ⟨x, H1, I1, rx, a, ex, d, q1⟩ => ?_)
  subst ex
  obtain rfl : u = Value.ref a := rx
  obtain ⟨t1, t2, _⟩ := isD_at I1 d
  refine ⟨t1, t2, ?_⟩
  rw [m.trees]
  refine Calls.callWith_builtin rfl (Calls.evalArgs_plain (Calls.spliced_cons (thn (he.run pins s1 σ H1 _ I1 q1) fun iv s2 ⟨y, H2, I2, ry, q2⟩ =>
    Calls.spliced_cons (thn (hf.run pins s2 σ H2 _ I2 q2) fun fv s3 ⟨z, H3, I3, rz, kvs, k, b, ea, ey, eb, hl, q3, q4⟩ => Calls.spliced_nil ?_))))
  subst ey
  obtain rfl : iv = Value.ref b := ry
  exact d_setdT hu I3 ea eb rz hl (fun v hv w' s4 I4 rw' => ⟨v, _, I4, rw', q3 v hv⟩) fun hn w' s4 I4 rw' => ⟨z, _, I4, rw', q4 hn⟩
end

/-! ## what an office keeps of a row of moves -/
abbrev K3 := Int × Int × Int
abbrev Mv := Int × Int × Int × Int
abbrev KG := List (K3 × List Int)
def kK (k : K3) : List Key := [.inl k.1, .inl k.2.1, .inl k.2.2]
def kD (k : K3) : D := .tup [.int k.1, .int k.2.1, .int k.2.2]
def mvD (m : Mv) : D := .tup [.int m.1, .int m.2.1, .int m.2.2.1, .int m.2.2.2]
def kIns : KG → K3 → Int → KG
  | [], k, g => [(k, [g])]
  | e :: r, k, g => if e.1 = k then (e.1, e.2 ++ [g]) :: r else e :: kIns r k g
def keptOf (row : List Mv) : KG := row.foldl (fun acc m => kIns acc (m.1, m.2.1, m.2.2.1) m.2.2.2) []
def keptD (g : KG) : D := .dic true (g.map fun e => kD e.1) (g.map fun e => .lst (e.2.map .int))
def rowD (row : List Mv) : D := .tup (row.map mvD)
def mvOf : D → Option Mv
  | .tup [.int a, .int b, .int c, .int d] => some (a, b, c, d)
  | _ => none
def listOf {α : Type} (f : D → Option α) : List D → Option (List α)
  | [] => some []
  | d :: ds => match f d, listOf f ds with
    | some a, some r => some (a :: r)
    | _, _ => none
def rowOf : D → Option (List Mv)
  | .tup ds => if ds.length ≤ lim then listOf mvOf ds else none
  | _ => none
def rowsOf : D → Option (List (List Mv))
  | .tup ds => if ds.length ≤ lim then listOf rowOf ds else none
  | _ => none
theorem listOf_map {α : Type} {f : D → Option α} {g : α → D} {P : α → Prop} (h : ∀ d a, f d = some a → d = g a ∧ P a) : ∀ {ds : List D} {as : List α}, listOf f ds = some as → ds = as.map g ∧ ∀ a ∈ as, P a
  | [], as, e => by cases e; exact ⟨rfl, fun a h => nomatch h⟩
  | d :: ds, as, e => by
    unfold listOf at e
    cases q1 : f d with
    | none => rw [q1] at e; cases e
    | some a =>
      cases q2 : listOf f ds with
      | none => rw [q1, q2] at e; cases e
      | some r =>
        rw [q1, q2] at e
        cases e
        obtain ⟨x1, x2⟩ := h d a q1
        obtain ⟨y1, y2⟩ := listOf_map h q2
        refine ⟨by rw [x1, y1]; rfl, fun b hb => ?_⟩
        rcases List.mem_cons.mp hb with rfl | hb
        · exact x2
        · exact y2 b hb
theorem mvOf_eq {d : D} {m : Mv} (h : mvOf d = some m) : d = mvD m ∧ True := by
  unfold mvOf at h
  split at h
  · cases h; exact ⟨rfl, trivial⟩
  · cases h
theorem rowOf_eq {d : D} {r : List Mv} (h : rowOf d = some r) : d = rowD r ∧ r.length ≤ lim := by
  unfold rowOf at h
  split at h
  · split at h
    · rename_i ds hl
      obtain ⟨e, _⟩ := listOf_map (g := mvD) (P := fun _ => True) (fun _ _ => mvOf_eq) h
      refine ⟨by rw [e]; rfl, ?_⟩
      rw [e] at hl
      simpa using hl
    · cases h
  · cases h
theorem rowsOf_eq {d : D} {rs : List (List Mv)} (h : rowsOf d = some rs) : d = .tup (rs.map rowD) ∧ rs.length ≤ lim ∧ ∀ r ∈ rs, r.length ≤ lim := by
  unfold rowsOf at h
  split at h
  · split at h
    · rename_i ds hl
      obtain ⟨e, p⟩ := listOf_map (g := rowD) (P := fun r => r.length ≤ lim) (fun _ _ => rowOf_eq) h
      refine ⟨by rw [e], ?_, p⟩
      rw [e] at hl
      simpa using hl
    · cases h
  · cases h
theorem kK_inj {a b : K3} (h : kK a = kK b) : a = b := by
  obtain ⟨a1, a2, a3⟩ := a
  obtain ⟨b1, b2, b3⟩ := b
  simp [kK] at h
  obtain ⟨rfl, rfl, rfl⟩ := h
  rfl
theorem tkeys_kD : ∀ g : KG, tkeysOf (g.map fun e => kD e.1) = some (g.map fun e => kK e.1)
  | [] => rfl
  | e :: r => by
    show (match tkeyOf (kD e.1), tkeysOf (r.map fun e => kD e.1) with | some k, some r => some (k :: r) | _, _ => none) = _
    rw [tkeys_kD r]
    rfl
/-- the dict of lists as it stands -/
def KvsOf (acc : KG) (qs : List Addr) : List (List Key × V) := (acc.map fun e => kK e.1).zip (qs.map V.ref)
theorem kIns_new : ∀ {acc : KG} {qs : List Addr} {k : K3} {g : Int}, acc.length = qs.length → valV (KvsOf acc qs) (kK k) = none → kIns acc k g = acc ++ [(k, [g])]
  | [], _, _, _, _, _ => rfl
  | e :: r, [], _, _, h, _ => by simp at h
  | e :: r, q :: qs, k, g, h, hv => by
    have hz : KvsOf (e :: r) (q :: qs) = (kK e.1, V.ref q) :: KvsOf r qs := rfl
    rw [hz] at hv
    by_cases hk : e.1 = k
    · rw [valV_pos (by rw [hk])] at hv; cases hv
    · rw [valV_neg (fun z => hk (kK_inj z))] at hv
      unfold kIns
      rw [if_neg hk, kIns_new (by simpa using h) hv]
      rfl
theorem kIns_old : ∀ {acc : KG} {qs : List Addr} {k : K3} {g : Int} {v : V}, acc.length = qs.length → valV (KvsOf acc qs) (kK k) = some v →
    ∃ i q e, v = .ref q ∧ qs[i]? = some q ∧ acc[i]? = some e ∧ kIns acc k g = acc.set i (e.1, e.2 ++ [g])
  | [], qs, _, _, _, h, hv => by cases hv
  | e :: r, [], _, _, _, h, _ => by simp at h
  | e :: r, q :: qs, k, g, v, h, hv => by
    have hz : KvsOf (e :: r) (q :: qs) = (kK e.1, V.ref q) :: KvsOf r qs := rfl
    rw [hz] at hv
    by_cases hk : e.1 = k
    · rw [valV_pos (by rw [hk])] at hv
      cases hv
      refine ⟨0, q, e, rfl, rfl, rfl, ?_⟩
      unfold kIns
      rw [if_pos hk]
      rfl
    · rw [valV_neg (fun z => hk (kK_inj z))] at hv
      obtain ⟨i, q', e', h1, h2, h3, h4⟩ := kIns_old (g := g) (by simpa using h) hv
      refine ⟨i + 1, q', e', h1, by simpa using h2, by simpa using h3, ?_⟩
      unfold kIns
      rw [if_neg hk, h4]
      rfl
theorem kIns_len (acc : KG) (k : K3) (g : Int) : (kIns acc k g).length ≤ acc.length + 1 := by
  induction acc with
  | nil => simp [kIns]
  | cons e r ih =>
    unfold kIns
    split
    · simp
    · simp only [List.length_cons]; omega
theorem kIns_goals {n : Nat} {k : K3} {g : Int} : ∀ {acc : KG}, (∀ e ∈ acc, e.2.length ≤ n) → ∀ e ∈ kIns acc k g, e.2.length ≤ n + 1
  | [], _, e, he => by
    have : e = (k, [g]) := by simpa [kIns] using he
    subst this
    simp
  | a :: r, h, e, he => by
    unfold kIns at he
    split at he
    · rcases List.mem_cons.mp he with rfl | he
      · have := h a List.mem_cons_self
        simp only [List.length_append, List.length_singleton]; omega
      · have := h e (List.mem_cons_of_mem _ he)
        omega
    · rcases List.mem_cons.mp he with rfl | he
      · have := h _ List.mem_cons_self
        omega
      · exact kIns_goals (fun e he => h e (List.mem_cons_of_mem _ he)) e he
/-- a row's goals at p: the lists at qs -/
structure GoalsAt (H0 H : Hp) (p : Addr) (acc : KG) (qs : List Addr) : Prop where
  len : acc.length = qs.length
  nd : qs.Nodup
  new : ∀ q ∈ qs, H0 q = none
  dc : H p = some (.dT (KvsOf acc qs))
  ls : ∀ (i : Nat) q e, qs[i]? = some q → acc[i]? = some e → H q = some (.lst (e.2.map V.int))
theorem GoalsAt.fz {K : PySem.W.Frag} {mg : MG} {H0 H F : Hp} {p : Addr} {acc : KG} {qs : List Addr} (g : GoalsAt H0 H p acc qs) (hp : F p = H p) (hq : ∀ q ∈ qs, F q = H q) : Fz K mg F (keptD acc) (.ref p) := by
  refine ⟨p, qs.map V.ref, rfl, ?_, _, tkeys_kD acc, by simp [g.len], .inl ?_⟩
  · refine .of (by simp [g.len]) fun i d v h1 h2 => ?_
    rw [List.getElem?_map] at h1 h2
    cases e1 : acc[i]? with
    | none => rw [e1] at h1; cases h1
    | some e =>
      cases e2 : qs[i]? with
      | none => rw [e2] at h2; cases h2
      | some q =>
        rw [e1] at h1; rw [e2] at h2
        cases h1; cases h2
        exact ⟨q, _, rfl, .inl (.inl (by rw [hq q (List.mem_of_getElem? e2)]; exact g.ls i q e e2 e1)), fz_ints _⟩
  · rw [hp, g.dc]; rfl
end Mi

set_option Elab.async false
set_option linter.all false
set_option maxRecDepth 100000
namespace Mi
open PySem PySem.Spec PyProof.Rows L2

/-! ## Office.keep -/
abbrev kNames : List Str := ["sizes", "moves", "closings", "kept_goals"]
structure OffTxt (K : PySem.W.Frag) (C : Addr) : Prop where
  cl : Cls K C
  n1 : NoAttr K C "sizes"
  n2 : NoAttr K C "moves"
  n3 : NoAttr K C "closings"
  n4 : NoAttr K C "kept_goals"
def fKeep : OF := fun ds => match ds with
  | [a, b, c] => match rowsOf b with
    | some rs => .ok [a, b, c, .lst (rs.map fun r => keptD (keptOf r))]
    | none => .bad
  | _ => .bad
theorem spC_len {K : PySem.W.Frag} {mg : MG} {C : Addr} {ns : List Str} {f : OF} {n : Nat} (hf : ∀ ds, ds.length ≠ n → f ds = .bad) : ∀ vs H Q E, spC K mg C ns f vs H Q E → vs.length = n + 1 := fun vs H Q E ⟨F, x, dx, vr, ds, e, _, _, _, hd, h⟩ => by
  rw [e, List.length_cons, ← hd.length]
  by_cases q : ds.length = n
  · rw [q]
  · rw [hf ds q] at h; exact h.elim
theorem fKeep_len : ∀ ds, ds.length ≠ 3 → fKeep ds = .bad := fun ds h => by
  unfold fKeep
  split
  · exact absurd rfl h
  · rfl
def tKeepRow (K : PySem.W.Frag) : TS := tFor (iTup K (tVar 4)) (gTup K 4 (gCons (gName 6) (gCons (gName 7) (gCons (gName 8) (gCons (gName 9) gNil)))))
  (tDrop (tBM K "list" rAppend (tDSetdT (tVar 5) (tTup (tCons (tVar 6) (tCons (tVar 7) (tCons (tVar 8) tNil)))) (tLst tNil)) (tCons (tVar 9) tNil)))
def tKeep (K : PySem.W.Frag) : TS := tSeq (sFld K (tVar 0) (tVar 1) "sizes") (tSeq (sFld K (tVar 0) (tVar 2) "moves") (tSeq (sFld K (tVar 0) (tVar 3) "closings") (tSeq (sFld K (tVar 0) (tLst tNil) "kept_goals")
  (tFor (iTup K (tVar 2)) (gName 4) (tSeq (tAsg tDNewT (gName 5)) (tSeq (tKeepRow K) (tDrop (tBM K "list" rAppend (tFld K (tVar 0) "kept_goals") (tCons (tVar 5) tNil)))))))))
def kSt (x : Addr) (v1 v2 v3 : V) (s4 s5 s6 s7 s8 s9 : Option V) : L2.St := [some (.ref x), some v1, some v2, some v3, s4, s5, s6, s7, s8, s9]
/-- the loop over a row -/
theorem keepRow {K : PySem.W.Frag} {mg : MG} {F H1 : Hp} {x : Addr} {v1 v2 v3 : V} {row : List Mv} {vr : V} {p : Addr} {H : Hp} {D : Ends} {s6 s7 s8 s9 : Option V} (hp : H1 p = none) (hl : row.length ≤ lim) (eF : Ex F H1)
    (hr : Fz K mg F (rowD row) vr) (h0 : H p = some (.dT [])) (kp : ∀ a o, H1 a = some o → H a = some o)
    (hD : ∀ qs s6 s7 s8 s9 H', (∀ a o, H1 a = some o → H' a = some o) → GoalsAt H1 H' p (keptOf row) qs → D.nx (kSt x v1 v2 v3 (some vr) (some (.ref p)) s6 s7 s8 s9) H') :
    tKeepRow K D (kSt x v1 v2 v3 (some vr) (some (.ref p)) s6 s7 s8 s9) H := by
  obtain ⟨a, ms, rfl, ha, hms⟩ := hr
  have sq : ∀ H', (∀ a o, H1 a = some o → H' a = some o) → SqT K H' a ms := fun H' k => .inl (.inl (k _ _ (eF.ex _ _ rfl ha)))
  have hlen : ms.length = row.length := by rw [← hms.length]; simp
  refine ⟨_, rfl, a, rfl, ⟨ms, sq H kp⟩, ?_⟩
  refine for_tup (xs := ms) (fun i σ H' => ∃ s6 s7 s8 s9 qs, σ = kSt x v1 v2 v3 (some (.ref a)) (some (.ref p)) s6 s7 s8 s9 ∧ (∀ a o, H1 a = some o → H' a = some o) ∧ GoalsAt H1 H' p (keptOf (row.take i)) qs ∧ (keptOf (row.take i)).length ≤ i ∧ ∀ e ∈ keptOf (row.take i), e.2.length ≤ i)
    ⟨s6, s7, s8, s9, [], rfl, kp, ⟨rfl, .nil, fun _ h => (nomatch h), h0, fun i q e h => by simp at h⟩, Nat.zero_le _, fun e h => (nomatch h)⟩ (fun i σ H' hi ⟨_, _, _, _, _, _, k, _⟩ => sq H' k) (fun i v0 σ H' ev0 ⟨s6, s7, s8, s9, qs, es, k, G, gl, gg⟩ => ?_) (fun σ H' ⟨s6, s7, s8, s9, qs, es, k, G, _⟩ => ?_)
  · subst es
    have hi : i < ms.length := (List.getElem?_eq_some_iff.mp ev0).1
    have hir : i < row.length := by omega
    obtain ⟨v, ev, fv⟩ := hms.get (i := i) (d := mvD row[i]) (by rw [List.getElem?_map, List.getElem?_eq_getElem hir]; rfl)
    have ev' : v0 = v := by rw [ev0] at ev; exact Option.some.inj ev
    have etk : keptOf (row.take (i + 1)) = kIns (keptOf (row.take i)) (row[i].1, row[i].2.1, row[i].2.2.1) row[i].2.2.2 := by
      rw [List.take_succ_eq_append_getElem hir]
      unfold keptOf
      rw [List.foldl_append]
      rfl
    generalize row[i] = m at fv etk
    obtain ⟨m1, m2, m3, m4⟩ := m
    obtain ⟨b, vs, rfl, hb, w1, r1, rfl, f1, w2, r2, rfl, f2, w3, r3, rfl, f3, w4, r4, rfl, f4, rfl⟩ := fv
    have f1 : w1 = .int m1 := f1
    have f2 : w2 = .int m2 := f2
    have f3 : w3 = .int m3 := f3
    have f4 : w4 = .int m4 := f4
    subst f1 f2 f3 f4
    rw [ev']
    refine ⟨b, _, rfl, .inl (.inl (k _ _ (eF.ex _ _ rfl hb))), rfl, _, _, rfl, _, _, rfl, _, _, rfl, _, _, rfl, rfl, ?_⟩
    show tDrop _ _ (kSt x v1 v2 v3 (some (.ref a)) (some (.ref p)) (some (.int m1)) (some (.int m2)) (some (.int m3)) (some (.int m4))) H'
    have hn : ∀ {q : Addr}, H' q = none → H1 q = none := fun {q} h => by
      cases e : H1 q with
      | none => rfl
      | some o => rw [k q o e] at h; cases h
    refine ⟨_, rfl, p, rfl, .inr ⟨_, .inl G.dc⟩, _, rfl, _, rfl, _, rfl, by show 3 ≤ sizeLine; rw [sizeLine_eq]; decide, fun t ht => ⟨by show 0 ≤ sizeLine; exact Nat.zero_le _, fun l hlf => ?_⟩⟩
    have tnp : p ≠ t := ne_of_none G.dc ht
    have lnt : t ≠ l := fun z => by rw [← z, upd_same] at hlf; cases hlf
    have hl0 : H' l = none := by rw [upd_ne (fun z => lnt z.symm)] at hlf; exact hlf
    have lnp : p ≠ l := ne_of_none G.dc hl0
    have k3 : ∀ a o, H' a = some o → upd (upd H' t (.tup [V.int m1, V.int m2, V.int m3])) l (.lst []) a = some o := fun a o e => by
      rw [upd_ne (ne_of_none e hl0), upd_ne (ne_of_none e ht)]; exact e
    refine ⟨_, kK (m1, m2, m3), t, k3 _ _ G.dc, rfl, by rw [upd_ne lnt, upd_same]; rfl, ?_, fun v hv => ?_, fun hv => ?_⟩
    · have : (KvsOf (keptOf (row.take i)) qs).length ≤ i := by unfold KvsOf; rw [List.length_zip]; simp; omega
      exact lim_lt (by omega)
    · obtain ⟨j, q, e, rfl, hq, he, hk⟩ := kIns_old (g := m4) G.len hv
      have hqm := List.mem_of_getElem? hq
      have hqs := G.ls j q e hq he
      have hq3 := k3 _ _ hqs
      refine ⟨.inl ⟨rfl, _, .inl (.inl hq3)⟩, _, rfl, q, _, .int m4, rfl, rfl, hq3, ?_, ?_⟩
      · rw [List.length_map]
        have := gg e (List.mem_of_getElem? he)
        exact lim_lt (by omega)
      · refine ⟨_, _, _, _, qs, rfl, fun a o e' => ?_, ?_, ?_, by rw [etk]; exact kIns_goals gg⟩
        · rw [upd_ne (ne_of_none e' (G.new q hqm))]; exact k3 _ _ (k _ _ e')
        · rw [etk, hk]
          refine ⟨by rw [List.length_set]; exact G.len, G.nd, G.new, ?_, fun i' q' e' h1 h2 => ?_⟩
          · rw [upd_ne (ne_of G.dc hqs (fun z => nomatch z)), k3 _ _ G.dc]
            unfold KvsOf
            rw [List.map_set]
            have : (keptOf (row.take i)).map (fun e => kK e.1) = ((keptOf (row.take i)).map fun e => kK e.1).set j (kK e.1) := by
              apply List.ext_getElem?
              intro n
              rw [List.getElem?_set]
              by_cases hn' : j = n
              · subst hn'
                rw [List.getElem?_map, he]
                have : j < (keptOf (row.take i)).length := (List.getElem?_eq_some_iff.mp he).1
                simp [this]
              · simp [hn']
            rw [← this]
          · rw [List.getElem?_set] at h2
            by_cases hij : j = i'
            · subst hij
              rw [hq] at h1
              cases h1
              rw [if_pos rfl] at h2
              split at h2
              · cases h2
                rw [upd_same]; simp
              · cases h2
            · rw [if_neg hij] at h2
              have hqq : q' ≠ q := fun z => by
                subst z
                have hj := (List.getElem?_eq_some_iff.mp hq)
                have hi' := (List.getElem?_eq_some_iff.mp h1)
                obtain ⟨j1, j2⟩ := hj
                obtain ⟨i1, i2⟩ := hi'
                exact hij ((List.getElem_inj G.nd).mp (by rw [j2, i2]))
              rw [upd_ne hqq]
              exact k3 _ _ (G.ls i' q' e' h1 h2)
        · rw [etk]; exact Nat.le_trans (kIns_len (keptOf (row.take i)) (m1, m2, m3) m4) (by omega)
    · have hk := kIns_new (g := m4) G.len hv
      have hl3 : upd (upd (upd H' t (.tup [V.int m1, V.int m2, V.int m3])) l (.lst [])) p (.dT (putK (KvsOf (keptOf (row.take i)) qs) (kK (m1, m2, m3)) (.ref l))) l = some (.lst []) := by rw [upd_ne (fun z => lnp z.symm), upd_same]
      refine ⟨.inl ⟨rfl, _, .inl (.inl hl3)⟩, _, rfl, l, _, .int m4, rfl, rfl, hl3, lim_lt (by decide), ?_⟩
      refine ⟨_, _, _, _, qs ++ [l], rfl, fun a o e' => ?_, ?_, ?_, by rw [etk]; exact kIns_goals gg⟩
      · have e2 := k _ _ e'
        rw [upd_ne (ne_of_none e2 hl0), upd_ne (ne_of_none e' hp)]; exact k3 _ _ e2
      · rw [etk, hk]
        refine ⟨by simp [G.len], ?_, ?_, ?_, fun i' q' e' h1 h2 => ?_⟩
        · refine List.nodup_append.mpr ⟨G.nd, by simp, fun a ha b hb => ?_⟩
          have hb : b = l := by simpa using hb
          subst hb
          intro z
          subst z
          obtain ⟨n, hn1⟩ := List.getElem?_of_mem ha
          have : n < (keptOf (row.take i)).length := by rw [G.len]; exact (List.getElem?_eq_some_iff.mp hn1).1
          have := G.ls n a _ hn1 (List.getElem?_eq_getElem this)
          rw [hl0] at this; cases this
        · intro q hq
          rcases List.mem_append.mp hq with hq | hq
          · exact G.new q hq
          · have : q = l := by simpa using hq
            subst this; exact hn hl0
        · rw [upd_ne lnp, upd_same, putK_new _ hv]
          unfold KvsOf
          rw [List.map_append, List.map_append, List.zip_append (by simp [G.len])]
          rfl
        · rw [List.getElem?_append] at h1 h2
          rw [G.len] at h2
          split at h1
          · rename_i hlt
            rw [if_pos hlt] at h2
            have := G.ls i' q' e' h1 h2
            rw [upd_ne (ne_of_none this hl0), upd_ne (ne_of this G.dc (fun z => nomatch z))]
            exact k3 _ _ this
          · rename_i hlt
            rw [if_neg hlt] at h2
            have hz : i' - qs.length = 0 := by
              have := (List.getElem?_eq_some_iff.mp h1).1
              simp at this; omega
            rw [hz] at h1 h2
            cases h1; cases h2
            rw [upd_same]; rfl
      · rw [etk]; exact Nat.le_trans (kIns_len (keptOf (row.take i)) (m1, m2, m3) m4) (by omega)
  · subst es
    rw [hlen, List.take_length] at G
    exact hD qs s6 s7 s8 s9 H' k G

/-- what is new since H0 is frozen -/
def frzAll (H0 F H : Hp) : Hp := fun a => match H0 a with
  | none => H a
  | some _ => F a
theorem frz_n {H0 F H : Hp} {a : Addr} (h : H0 a = none) : frzAll H0 F H a = H a := by unfold frzAll; rw [h]
theorem frz_s {H0 F H : Hp} {a : Addr} {o : HO} (h : H0 a = some o) : frzAll H0 F H a = F a := by unfold frzAll; rw [h]
theorem frz_step {H0 F H : Hp} {x : Addr} (e : Ex F H0) (hx : F x = none) (k : ∀ a o, H0 a = some o → a ≠ x → H a = some o) : Step [x] F H0 (frzAll H0 F H) H := by
  have hs : ∀ a u, Rd F a u → ∃ o, H0 a = some o := fun a u r => by
    rcases e.rd a u r with q | ⟨_, q⟩
    · exact ⟨_, q⟩
    · exact ⟨_, q⟩
  refine ⟨.of fun a o h => ?_, ⟨fun a u r => ?_, fun a o hd h => ?_⟩, fun a o h hn => k a o h (by simpa using hn), fun a h1 h2 => ?_⟩
  · obtain ⟨u, q⟩ := hs a o (.inl h)
    unfold frzAll; rw [q]; exact h
  · unfold Rd at r
    cases q : H0 a with
    | none => rw [frz_n q] at r; exact r
    | some o =>
      rw [frz_s q] at r
      have hax : a ≠ x := fun z => by subst z; simp [hx] at r
      rcases e.rd a u r with w | ⟨o', w⟩
      · exact .inl (k a _ w hax)
      · exact .inr ⟨o', k a _ w hax⟩
  · unfold frzAll at h
    cases q : H0 a with
    | none => rw [q] at h; exact h
    | some o' =>
      rw [q] at h
      have hax : a ≠ x := fun z => by subst z; simp [hx] at h
      exact k a _ (e.ex a o hd h) hax
  · unfold frzAll
    cases q : H0 a with
    | none => exact absurd q h1
    | some o => exact h2
theorem GoalsAt.mono {H0 H1 H H' : Hp} {p : Addr} {acc : KG} {qs : List Addr} (g : GoalsAt H1 H p acc qs) (h : ∀ a, H1 a = none → H0 a = none) (k : ∀ a o, H a = some o → (a = p ∨ a ∈ qs) → H' a = some o) : GoalsAt H0 H' p acc qs :=
  ⟨g.len, g.nd, fun q hq => h q (g.new q hq), k _ _ g.dc (.inl rfl), fun i q e h1 h2 => k _ _ (g.ls i q e h1 h2) (.inr (List.mem_of_getElem? h1))⟩
structure KeptAt (H0 H : Hp) (g : Addr) (rs : List (List Mv)) (ps : List Addr) : Prop where
  len : ps.length = rs.length
  ls : H g = some (.lst (ps.map V.ref))
  rw : ∀ (i : Nat) p r, ps[i]? = some p → rs[i]? = some r → H0 p = none ∧ p ≠ g ∧ ∃ qs, GoalsAt H0 H p (keptOf r) qs ∧ g ∉ qs
theorem putF_new {f : Str} {v : V} : ∀ {fs : List (Str × V)}, fs.lookup f = none → putF f v fs = fs ++ [(f, v)]
  | [], _ => rfl
  | (g, w) :: r, h => by
    have hne : ¬ g = f := fun z => by
      subst z
      have e2 : List.lookup g ((g, w) :: r) = some w := by simp [List.lookup]
      rw [e2] at h; cases h
    have h2 : r.lookup f = none := by
      have e : (f == g) = false := by simpa using fun z => hne z.symm
      have e2 : List.lookup f ((g, w) :: r) = List.lookup f r := by simp only [List.lookup, e]
      rw [e2] at h
      exact h
    show (if g = f then _ else (g, w) :: putF f v r) = _
    rw [if_neg hne, putF_new h2]
    rfl
theorem putF_len {f : Str} {v : V} : ∀ {fs : List (Str × V)}, (putF f v fs).length ≤ fs.length + 1
  | [] => Nat.le_refl _
  | (g, w) :: r => by
    show (if g = f then (g, v) :: r else (g, w) :: putF f v r).length ≤ _
    split
    · simp
    · have := putF_len (f := f) (v := v) (fs := r)
      simp only [List.length_cons]; omega
theorem putF_few {f : Str} {v : V} {fs : List (Str × V)} {n : Nat} (h : fs.length ≤ n) : (putF f v fs).length ≤ n + 1 := Nat.le_trans putF_len (by omega)
theorem keep_read {K : PySem.W.Frag} {mg : MG} {C : Addr} (T : OffTxt K C) {vs : List V} {H : Hp} {Q : VK} {E : XK} {N : List Str} (hN : N.length = 10) (h : spC K mg C kNames fKeep vs H Q E) :
    tKeep K { nx := fun _ H' => Q .non H', rt := Q } (L2.start N vs) H := by
  obtain ⟨F, x, dx, vr, ds, rfl, eF, hFx, hHx, hd, h⟩ := h
  obtain ⟨a, b, c, rfl⟩ : ∃ a b c, ds = [a, b, c] := by
    by_cases q : ds.length = 3
    · match ds, q with
      | [a, b, c], _ => exact ⟨a, b, c, rfl⟩
    · rw [fKeep_len ds q] at h; exact h.elim
  unfold fKeep at h
  cases hrs : rowsOf b with
  | none => simp only [hrs] at h
  | some rs =>
  simp only [hrs] at h
  obtain ⟨eb, hl, hls⟩ := rowsOf_eq hrs
  obtain ⟨v1, _, rfl, f1, v2, _, rfl, f2, v3, _, rfl, f3, rfl⟩ := hd
  rw [eb] at f2
  obtain ⟨am, ms, rfl, ham, hms⟩ := f2
  have est : L2.start N [V.ref x, v1, V.ref am, v3] = kSt x v1 (.ref am) v3 none none none none none none := by
    unfold L2.start kSt
    rw [hN]; rfl
  rw [est]
  have h0n : ∀ {q : Addr}, H q = none → F q = none := fun {q} hq => by
    cases e : F q with
    | none => rfl
    | some o => rcases eF.rd q o (.inl e) with w | ⟨_, w⟩ <;> rw [hq] at w <;> cases w
  -- the plain fields
  refine ⟨_, rfl, _, rfl, x, C, dx, [], rfl, hHx, T.cl, T.n1, by show 0 < 1000; decide, ?_⟩
  refine ⟨_, rfl, _, rfl, x, C, dx, _, rfl, upd_same, T.cl, T.n2, Nat.lt_of_le_of_lt (putF_few (n := 0) (Nat.le_refl _)) (by decide), ?_⟩
  refine ⟨_, rfl, _, rfl, x, C, dx, _, rfl, upd_same, T.cl, T.n3, Nat.lt_of_le_of_lt (putF_few (putF_few (n := 0) (Nat.le_refl _))) (by decide), ?_⟩
  refine ⟨by show 0 ≤ sizeLine; exact Nat.zero_le _, fun g hg => ?_⟩
  have hgx : g ≠ x := fun z => by rw [z, upd_same] at hg; cases hg
  have hg0 : H g = none := by rw [upd_ne hgx, upd_ne hgx, upd_ne hgx] at hg; exact hg
  refine ⟨_, rfl, x, C, dx, _, rfl, by rw [upd_ne hgx.symm, upd_same], T.cl, T.n4, Nat.lt_of_le_of_lt (putF_few (putF_few (putF_few (n := 0) (Nat.le_refl _)))) (by decide), ?_⟩
  have e4 : putF "kept_goals" (V.ref g) (putF "closings" v3 (putF "moves" (V.ref am) (putF "sizes" v1 []))) = kNames.zip [v1, .ref am, v3, .ref g] := by
    have k1 : (("moves" : Str) == "sizes") = false := by decide +kernel
    have k2 : (("closings" : Str) == "sizes") = false := by decide +kernel
    have k3 : (("closings" : Str) == "moves") = false := by decide +kernel
    have k4 : (("kept_goals" : Str) == "sizes") = false := by decide +kernel
    have k5 : (("kept_goals" : Str) == "moves") = false := by decide +kernel
    have k6 : (("kept_goals" : Str) == "closings") = false := by decide +kernel
    rw [putF_new (f := "sizes") rfl, putF_new (f := "moves") (by simp [List.lookup, k1]), putF_new (f := "closings") (by simp [List.lookup, k2, k3]), putF_new (f := "kept_goals") (by simp [List.lookup, k4, k5, k6])]
    rfl
  rw [e4]
  have lk : List.lookup ("kept_goals" : Str) (kNames.zip [v1, V.ref am, v3, V.ref g]) = some (V.ref g) := by
    have k4 : (("kept_goals" : Str) == "sizes") = false := by decide +kernel
    have k5 : (("kept_goals" : Str) == "moves") = false := by decide +kernel
    have k6 : (("kept_goals" : Str) == "closings") = false := by decide +kernel
    simp [List.lookup, k4, k5, k6]
  -- the loop
  refine ⟨_, rfl, am, rfl, ⟨ms, ?_⟩, ?_⟩
  · have hax : am ≠ x := ne_of (eF.ex _ _ rfl ham) hHx (fun z => nomatch z)
    refine .inl (.inl ?_)
    rw [upd_ne hax, upd_ne (ne_of_none (eF.ex _ _ rfl ham) hg0), upd_ne hax, upd_ne hax, upd_ne hax]
    exact eF.ex _ _ rfl ham
  have hax : am ≠ x := ne_of (eF.ex _ _ rfl ham) hHx (fun z => nomatch z)
  have hml : ms.length = rs.length := by rw [← hms.length]; simp
  refine for_tup (xs := ms) (fun i σ H' => ∃ s4 s5 s6 s7 s8 s9 ps, σ = kSt x v1 (.ref am) v3 s4 s5 s6 s7 s8 s9 ∧ (∀ a o, H a = some o → a ≠ x → H' a = some o) ∧ H' x = some (.ins C dx (kNames.zip [v1, .ref am, v3, .ref g])) ∧ KeptAt H H' g (rs.take i) ps)
    ⟨none, none, none, none, none, none, [], rfl, fun a o e hn => ?_, upd_same, ⟨rfl, by rw [upd_ne hgx, upd_same]; rfl, fun i p r h1 _ => by simp at h1⟩⟩
    (fun i σ H' hi ⟨_, _, _, _, _, _, _, _, k, _⟩ => .inl (.inl (k _ _ (eF.ex _ _ rfl ham) hax))) (fun i v0 σ H' ev0 ⟨s4, s5, s6, s7, s8, s9, ps, es, k, hx', G⟩ => ?_) (fun σ H' ⟨s4, s5, s6, s7, s8, s9, ps, es, k, hx', G⟩ => ?_)
  · rw [upd_ne hn, upd_ne (ne_of_none e hg0), upd_ne hn, upd_ne hn, upd_ne hn]; exact e
  · subst es
    have hi : i < ms.length := (List.getElem?_eq_some_iff.mp ev0).1
    have hir : i < rs.length := by omega
    obtain ⟨v, ev, fv⟩ := hms.get (i := i) (d := rowD rs[i]) (by rw [List.getElem?_map, List.getElem?_eq_getElem hir]; rfl)
    have ev' : v0 = v := by rw [ev0] at ev; exact Option.some.inj ev
    subst ev'
    show tSeq _ _ _ (kSt x v1 (.ref am) v3 (some v0) s5 s6 s7 s8 s9) H'
    intro p hp
    have hx2 : H' x ≠ none := by rw [hx']; simp
    have hpx : p ≠ x := fun z => hx2 (by rw [← z]; exact hp)
    have hgp : p ≠ g := fun z => by rw [z, G.ls] at hp; cases hp
    have hp0 : H p = none := by
      cases e : H p with
      | none => rfl
      | some o => rw [k p o e hpx] at hp; cases hp
    have eF' : Ex F H' := by
      have st := frz_step (F := F) (H0 := H) (H := H') (x := x) eF hFx k
      exact st.fF.trans st.fH
    refine keepRow (mg := mg) (F := F) (H1 := H') (p := p) hp (hls _ (List.getElem_mem hir)) eF' fv upd_same (fun a o e => by rw [upd_ne (ne_of_none e hp)]; exact e) fun qs s6 s7 s8 s9 H2 k2 G2 => ?_
    refine ⟨_, rfl, x, C, dx, _, _, rfl, k2 _ _ hx', T.cl, T.n4, lk, .inl ⟨rfl, _, .inl (.inl (k2 _ _ G.ls))⟩, _, rfl, g, _, .ref p, rfl, rfl, k2 _ _ G.ls, ?_, ?_⟩
    · rw [List.length_map, G.len]; simp only [List.length_take]; exact lim_lt (by omega)
    have hxg : x ≠ g := hgx.symm
    have hn' : ∀ a, H' a = none → H a = none := fun a ha => by
      cases e : H a with
      | none => rfl
      | some o =>
        by_cases hax' : a = x
        · subst hax'; exact absurd ha hx2
        · rw [k a o e hax'] at ha; cases ha
    refine ⟨_, _, _, _, _, _, ps ++ [p], rfl, fun a o e hn => ?_, ?_, ?_⟩
    · rw [upd_ne (ne_of_none e hg0)]; exact k2 _ _ (k a o e hn)
    · rw [upd_ne hxg]; exact k2 _ _ hx'
    · refine ⟨?_, by rw [upd_same]; simp, fun j q r h1 h2 => ?_⟩
      · rw [List.length_append, G.len]; simp only [List.length_take, List.length_singleton]; omega
      · rw [List.getElem?_append] at h1
        split at h1
        · rename_i hlt
          rw [G.len] at hlt
          have hlt2 : j < i := by simp only [List.length_take] at hlt; omega
          rw [List.getElem?_take, if_pos (by omega)] at h2
          have h2' : (rs.take i)[j]? = some r := by rw [List.getElem?_take, if_pos hlt2]; exact h2
          obtain ⟨w1, w2, qs', w3, w4⟩ := G.rw j q r h1 h2'
          refine ⟨w1, w2, qs', w3.mono (fun _ h => h) fun a o e ha => ?_, w4⟩
          have : a ≠ g := fun z => by
            rcases ha with ha | ha
            · exact w2 (by rw [← ha, z])
            · exact w4 (by rw [← z]; exact ha)
          rw [upd_ne this]; exact k2 _ _ e
        · rename_i hlt
          have hz : j - ps.length = 0 := by
            have := (List.getElem?_eq_some_iff.mp h1).1
            simp at this; omega
          rw [hz] at h1
          cases h1
          have hji : j = i := by
            have h3 := (List.getElem?_eq_some_iff.mp h2).1
            have := G.len
            simp only [List.length_take] at h3 this
            omega
          rw [List.getElem?_take, if_pos (by omega), hji, List.getElem?_eq_getElem hir] at h2
          cases h2
          have hgq : g ∉ qs := fun z => by
            have := G2.new g z
            rw [G.ls] at this; cases this
          refine ⟨hp0, hgp, qs, G2.mono hn' fun a o e ha => ?_, hgq⟩
          have : a ≠ g := fun z => by
            rcases ha with ha | ha
            · exact hgp (by rw [← ha, z])
            · exact hgq (by rw [← z]; exact ha)
          rw [upd_ne this]; exact e
  · subst es
    rw [hml, List.take_length] at G
    have st := frz_step (F := F) (H0 := H) (H := H') (x := x) eF hFx k
    have fnew : ∀ {q : Addr}, H q = none → frzAll H F H' q = H' q := fun {q} hq => by unfold frzAll; rw [hq]
    have fx : frzAll H F H' x = none := by unfold frzAll; rw [hHx]; exact hFx
    refine h _ H' [v1, .ref am, v3, .ref g] st fx hx' rfl ⟨_, _, rfl, f1.ex st.fF, _, _, rfl, ?_, _, _, rfl, f3.ex st.fF, _, _, rfl, ?_, rfl⟩
    · rw [eb]; exact Fz.ex ⟨am, ms, rfl, ham, hms⟩ st.fF
    · refine ⟨g, ps.map V.ref, rfl, .inl (.inl (by rw [fnew hg0]; exact G.ls)), .of (by simp [G.len]) fun i d v h1 h2 => ?_⟩
      rw [List.getElem?_map] at h1 h2
      cases e1 : rs[i]? with
      | none => rw [e1] at h1; cases h1
      | some r =>
        cases e2 : ps[i]? with
        | none => rw [e2] at h2; cases h2
        | some p =>
          rw [e1] at h1; rw [e2] at h2
          cases h1; cases h2
          obtain ⟨w1, w2, qs, w3, w4⟩ := G.rw i p r e2 e1
          exact w3.fz (fnew w1) fun q hq => fnew (w3.new q hq)
end Mi

set_option Elab.async false
set_option linter.all false
set_option maxRecDepth 100000
namespace Mi
open PySem PySem.Spec PyProof.Rows L2

/-! ## Office.__init__ -/
def envC (N : Nat) (ds : List D) : Env := .dead :: (ds.map .fz ++ List.replicate (N - (ds.length + 1)) .dead)
def initT (t : MT) (r : MS) (k : Env → OR) : Env → OR := fun env => match t env with
  | .ok (false, e1) => k e1
  | .ok (true, e1) => match r e1 with
    | .exc x _ => .exc x
    | _ => .bad
  | .exc x _ => .exc x
  | .bad => .bad
def fInit (N : Nat) (t1 t2 t3 : MT) (r1 r2 r3 : MS) : OF := fun ds => if ds.length ≠ 3 then .bad else initT t1 r1 (fun e => initT t2 r2 (fun e => initT t3 r3 (fun _ => fKeep ds) e) e) (envC N ds)
/-- an office without bounds is made of its parts -/
def fRaw : OF := fKeep
section
variable {K : PySem.W.Frag} {mg : MG} {F H : Hp}
theorem sta_startC {N : List Str} {ds : List D} {vs : List V} {x : Addr} (e : Ex F H) (hd : FzL K mg F ds vs) (hl : vs.length + 1 ≤ N.length) : Sta K mg ⟨F, H, []⟩ F (envC N.length ds) (L2.start N (.ref x :: vs)) H := by
  have hl2 := hd.length
  have hlN : (V.ref x :: vs).length ≤ N.length := by simp; omega
  refine ⟨Ex.refl F, e, fun a _ h => h, fun a o h _ => h, fun a h => absurd h (by simp), ?_, fun i s h => ?_, fun i j p a b => ?_, fun a h => absurd h (by simp)⟩
  · show _ = (slots (L2.start N (.ref x :: vs))).length
    rw [start_len hlN]; unfold envC; simp; omega
  · cases i with
    | zero => cases h; trivial
    | succ i =>
      have h : (ds.map Sl.fz ++ List.replicate (N.length - (ds.length + 1)) Sl.dead)[i]? = some s := h
      by_cases hi : i < ds.length
      · rw [List.getElem?_append_left (by simpa using hi), List.getElem?_map] at h
        rw [List.getElem?_eq_getElem hi] at h
        cases h
        obtain ⟨v, e1, f1⟩ := hd.get (List.getElem?_eq_getElem hi)
        exact ⟨v, start_get (by simpa using e1), f1⟩
      · rw [List.getElem?_append_right (by simpa using hi), List.getElem?_replicate] at h
        split at h
        · cases h; trivial
        · cases h
  · obtain ⟨_, s, h, o⟩ := a
    exfalso
    cases i with
    | zero => cases h; cases o
    | succ i =>
      have h : (ds.map Sl.fz ++ List.replicate (N.length - (ds.length + 1)) Sl.dead)[i]? = some s := h
      by_cases hi : i < ds.length
      · rw [List.getElem?_append_left (by simpa using hi), List.getElem?_map] at h
        rw [List.getElem?_eq_getElem hi] at h
        cases h; cases o
      · rw [List.getElem?_append_right (by simpa using hi), List.getElem?_replicate] at h
        split at h
        · cases h; cases o
        · cases h
theorem Step.more {io io' : List Addr} {F H F' H' : Hp} (s : Step io F H F' H') (h : ∀ a ∈ io, a ∈ io') : Step io' F H F' H' := ⟨s.fF, s.fH, fun a o e n => s.kH a o e fun z => n (h a z), s.new⟩
theorem init_step {F0 H0 : Hp} {env : Env} {σ : L2.St} {D : Ends} {E : XK} {t : MT} {r : MS} {k : Env → OR} {P : OR → Prop} (s : Sta K mg ⟨F0, H0, []⟩ F env σ H) (h : P (initT t r k env)) (hbad : ¬ P .bad)
    (hexc : ∀ y, P (.exc y) → ExcP K mg [] F0 H0 y E) (next : ∀ env' F' H', Sta K mg ⟨F0, H0, []⟩ F' env' σ H' → P (k env') → D.nx σ H') :
    tIfS (tMT K mg (fun cls d _ H => E cls d H) t) (tMS K mg (fun cls d _ H => E cls d H) r) tNext D σ H := by
  refine ⟨⟨F0, H0, []⟩, F, env, s, ?_⟩
  unfold initT at h
  cases q : t env with
  | bad => rw [q] at h; exact hbad h
  | exc y e1 =>
    rw [q] at h
    exact fun F' H' d C s' e' ha hC => hexc y h F' H' d C (s'.stepOf (s.f0.trans e')) s'.ios ha hC
  | ok p =>
    obtain ⟨b, e1⟩ := p
    rw [q] at h
    intro F' H' s' e'
    cases b with
    | false => exact next e1 F' H' s' h
    | true =>
      refine ⟨⟨F0, H0, []⟩, F', e1, s', ?_⟩
      simp only at h
      cases q2 : r e1 with
      | bad => rw [q2] at h; exact hbad h
      | exc y e2 =>
        rw [q2] at h
        exact fun F2 σ2 H2 d C s2 e3 ha hC => hexc y h F2 H2 d C (s2.stepOf (s'.f0.trans e3)) s2.ios ha hC
      | ok p2 => rw [q2] at h; exact absurd h hbad
abbrev kCall (K : PySem.W.Frag) (mg : MG) (C : Addr) (E : XK) : TS := tDrop (tMeth C "keep" (spC K mg C kNames fKeep) [] E (tVar 0) (tCons (tVar 1) (tCons (tVar 2) (tCons (tVar 3) tNil))))
theorem keep_call {C : Addr} {N : List Str} {F0 H0 : Hp} {x dx : Addr} {v1 v2 v3 : V} {ds : List D} {Q : VK} {E : XK} {H' : Hp} {env : Env} {F' : Hp} (hN : 4 ≤ N.length) (eF : Ex F0 H0) (hFx : F0 x = none) (hx : H0 x = some (.ins C dx []))
    (hd : FzL K mg F0 ds [v1, v2, v3]) (s : Sta K mg ⟨F0, H0, []⟩ F' env (L2.start N [.ref x, v1, v2, v3]) H')
    (h : match fKeep ds with | .bad => False | .exc y => ExcP K mg [x] F0 H0 y E | .ok zs => ∀ F' H' us, Step [x] F0 H0 F' H' → F' x = none → H' x = some (.ins C dx (kNames.zip us)) → kNames.length = us.length → FzL K mg F' zs us → Q .non H') :
    kCall K mg C E { nx := fun _ H' => Q .non H', rt := Q } (L2.start N [.ref x, v1, v2, v3]) H' := by
  have st : Step [] F0 H0 F' H' := s.stepOf s.f0
  have hx' : H' x = some (.ins C dx []) := st.kH _ _ hx (by simp)
  have gs : ∀ (i : Nat) (v : V), [V.ref x, v1, v2, v3][i]? = some v → (L2.start N [.ref x, v1, v2, v3])[i]? = some (some v) := fun i v e => look_of (start_get e)
  refine ⟨_, gs 0 _ rfl, x, dx, [], rfl, hx', rfl, _, gs 1 _ rfl, _, gs 2 _ rfl, _, gs 3 _ rfl, ?_⟩
  refine ⟨F', x, dx, [v1, v2, v3], ds, rfl, st.fH, st.new x (by rw [hx]; simp) hFx, hx', hd.ex st.fF, ?_⟩
  cases q : fKeep ds with
  | bad => rw [q] at h; exact h
  | exc y =>
    unfold fKeep at q
    split at q
    · split at q <;> cases q
    · cases q
  | ok zs =>
    rw [q] at h
    exact fun F2 H2 us st2 a1 a2 a3 a4 => h F2 H2 us ((st.more (by simp)).trans (fun p hp => by
      have hpx : p = x := by simpa using hp
      rw [hpx, hx']; simp) st2) a1 a2 a3 a4
def tInit (K : PySem.W.Frag) (mg : MG) (C : Addr) (E : XK) (t1 t2 t3 : MT) (r1 r2 r3 : MS) : TS :=
  tSeq (tIfS (tMT K mg (fun cls d _ H => E cls d H) t1) (tMS K mg (fun cls d _ H => E cls d H) r1) tNext) (tSeq (tIfS (tMT K mg (fun cls d _ H => E cls d H) t2) (tMS K mg (fun cls d _ H => E cls d H) r2) tNext)
    (tSeq (tIfS (tMT K mg (fun cls d _ H => E cls d H) t3) (tMS K mg (fun cls d _ H => E cls d H) r3) tNext) (kCall K mg C E)))
theorem fInit_len {N : Nat} {t1 t2 t3 : MT} {r1 r2 r3 : MS} : ∀ ds : List D, ds.length ≠ 3 → fInit N t1 t2 t3 r1 r2 r3 ds = .bad := fun ds h => by unfold fInit; rw [if_pos h]
theorem init_read {C : Addr} {N : List Str} {t1 t2 t3 : MT} {r1 r2 r3 : MS} {vs : List V} {Q : VK} {E : XK} (hN : 4 ≤ N.length) (h : spC K mg C kNames (fInit N.length t1 t2 t3 r1 r2 r3) vs H Q E) :
    tInit K mg C E t1 t2 t3 r1 r2 r3 { nx := fun _ H' => Q .non H', rt := Q } (L2.start N vs) H := by
  obtain ⟨F0, x, dx, vr, ds, rfl, eF, hFx, hHx, hd, h⟩ := h
  have hl : ds.length = 3 := by
    by_cases q : ds.length = 3
    · exact q
    · rw [fInit_len ds q] at h; exact h.elim
  obtain ⟨v1, v2, v3, rfl⟩ : ∃ v1 v2 v3, vr = [v1, v2, v3] := by
    have : vr.length = 3 := by rw [← hd.length]; exact hl
    match vr, this with
    | [a, b, c], _ => exact ⟨a, b, c, rfl⟩
  let P : OR → Prop := fun o => match o with
    | .bad => False
    | .exc y => ExcP K mg [x] F0 H y E
    | .ok zs => ∀ F' H' us, Step [x] F0 H F' H' → F' x = none → H' x = some (.ins C dx (kNames.zip us)) → kNames.length = us.length → FzL K mg F' zs us → Q .non H'
  have h : P (fInit N.length t1 t2 t3 r1 r2 r3 ds) := h
  have hbad : ¬ P .bad := fun z => z
  have hexc : ∀ y, P (.exc y) → ExcP K mg [] F0 H y E := fun y hy F' H' d C' st hn ha hC => by
    refine hy F' H' d C' (st.more (by simp)) (fun a ha' => ?_) ha hC
    have : a = x := by simpa using ha'
    subst this
    rw [st.kH _ _ hHx (by simp)]; simp
  unfold fInit at h
  rw [if_neg (by rw [hl]; simp)] at h
  have s0 : Sta K mg ⟨F0, H, []⟩ F0 (envC N.length ds) (L2.start N [.ref x, v1, v2, v3]) H := sta_startC eF hd (by simpa using hN)
  refine init_step s0 h hbad hexc fun e1 F1 H1 s1 h1 => ?_
  refine init_step s1 h1 hbad hexc fun e2 F2 H2 s2 h2 => ?_
  refine init_step s2 h2 hbad hexc fun e3 F3 H3 s3 h3 => ?_
  exact keep_call hN eF hFx hHx hd s3 h3
theorem raw_read {C : Addr} {N : List Str} {vs : List V} {Q : VK} {E : XK} (hN : 4 ≤ N.length) (h : spC K mg C kNames fRaw vs H Q E) :
    kCall K mg C E { nx := fun _ H' => Q .non H', rt := Q } (L2.start N vs) H := by
  obtain ⟨F0, x, dx, vr, ds, rfl, eF, hFx, hHx, hd, h⟩ := h
  have hl : ds.length = 3 := by
    by_cases q : ds.length = 3
    · exact q
    · unfold fRaw at h; rw [fKeep_len ds q] at h; exact h.elim
  obtain ⟨v1, v2, v3, rfl⟩ : ∃ v1 v2 v3, vr = [v1, v2, v3] := by
    have : vr.length = 3 := by rw [← hd.length]; exact hl
    match vr, this with
    | [a, b, c], _ => exact ⟨a, b, c, rfl⟩
  exact keep_call hN eF hFx hHx hd (sta_startC eF hd (by simpa using hN)) h
end
end Mi

set_option Elab.async false
set_option linter.all false
set_option maxRecDepth 100000
namespace Mi
open PySem PySem.Spec PyProof.Rows L2

/-! ## what the top has written -/
structure DefAt (K : PySem.W.Frag) (mg : MG) (x : Str) (st : Stmt) where
  a : Addr
  fd : FuncData
  F : Fun K x x st a fd
  g : mg x = some (.ref a)
def mkDef {K : PySem.W.Frag} {h : Heap} {mg : MG} {x : Str} {st : Stmt} {f : Addr} (X : K.In h) (G : h.Ns mainGlobals mg) {oc kV doc pm cdv ct : Value} {od an : Option Addr} {osl : Array (Option Value)}
    (a : PySem.W.nsIn K mainGlobals x = some (some (.ref f))) (l : K.lookup f = some ⟨oc, od, .func (PySem.W.fnOf x x (defArgs st) (defBody st) (defScope st) .none kV doc pm an cdv ct), osl⟩)
    (c : PySem.W.codeIn K cdv x = true) (k : PySem.W.keepIn K (.ref f) = true) : DefAt K mg x st := ⟨f, _, fun_mk l c k, PySem.W.mg_of X G a⟩
structure MethAt (K : PySem.W.Frag) (C : Addr) (m qual : Str) (st : Stmt) where
  a : Addr
  fd : FuncData
  F : Fun K m qual st a fd
  m : Meth K C m a
def mkMeth {K : PySem.W.Frag} {C : Addr} {m qual : Str} {st : Stmt} {f : Addr} {oc kV doc pm cdv ct : Value} {od an : Option Addr} {osl : Array (Option Value)}
    (a : PySem.W.findIn K (.ref C) m = some (some (.ref f))) (i : PySem.W.isFn K (.ref f) = true) (l : K.lookup f = some ⟨oc, od, .func (PySem.W.fnOf m qual (defArgs st) (defBody st) (defScope st) .none kV doc pm an cdv ct), osl⟩)
    (c : PySem.W.codeIn K cdv qual = true) (k : PySem.W.keepIn K (.ref f) = true) : MethAt K C m qual st := ⟨f, _, fun_mk l c k, ⟨a, i, k⟩⟩
structure OfficeAt (K : PySem.W.Frag) (mg : MG) (stI stK : Stmt) where
  C : Addr
  g : mg "Office" = some (.ref C)
  T : OffTxt K C
  I : MethAt K C "__init__" "Office.__init__" stI
  mks : PySem.W.makesIn K C = true
  kp : PySem.W.keepIn K (.ref C) = true
  P : MethAt K C "keep" "Office.keep" stK
theorem OfficeAt.M {K : PySem.W.Frag} {mg : MG} {stI stK : Stmt} (o : OfficeAt K mg stI stK) : Mk K o.C o.I.a := ⟨o.mks, o.I.m.at_, o.I.m.fn, o.kp⟩

/-! ## the law's own end -/
def spLaw (K : PySem.W.Frag) : Sp := fun vs H Q _ => ∃ (a : Addr) (ns : List Int), vs = [.ref a] ∧ SqL K H a (ns.map V.int) ∧ ns.length ≤ 63 ∧ ∀ H', Q (.bl true) H'
def LawOk (n : Nat) (m : MS) : Prop := ∀ ns : List Int, ns.length ≤ 63 → runP 1 n m [.lst (ns.map .int)] = .ok (.bl true)
theorem fn_law {P : Program} {w : World} {K : PySem.W.Frag} {mg : MG} {base : Heap} {x qual y : Str} {st : Stmt} {f : Addr} {fd : FuncData} {N : List Str} {k : Nat} {m : MS} (F : Fun K x qual st f fd) (S : FnScope N [y] (defScope st)) (hb : BodyOk P w K mg base N qual st k m)
    (hp : LawOk N.length m) (hn : 1 ≤ N.length := by decide) : FnOk P w K mg base (L2.CX P w) (k + 1) f fd [y] (spLaw K) := by
  refine F.okX S (fun vs H Q E h => ?_) fun cdv A outer s H vs Q E hr h => ⟨_, hb f cdv A outer s H E hr, ?_⟩
  · obtain ⟨a, ns, rfl, _⟩ := h
    rfl
  · obtain ⟨a, ns, rfl, hS, hl, hq⟩ := h
    refine body_P hn ⟨H, [.lst (ns.map .int)], Ex.refl H, ⟨_, _, rfl, ⟨a, ns.map V.int, rfl, hS, fz_ints ns⟩, rfl⟩, ?_⟩
    rw [hp ns hl]
    intro F' H' v _ hv
    have hv : v = .bl true := hv
    rw [hv]
    exact hq H'
theorem walkM {l : PySem.W.OpenLaw} {k : Nat} {q : Program} {loose : List Str} {XP : (Str → Option Value) → Heap → Prop} {YP : World → Heap → Prop} {d : DefRec} {K : Params → PySem.W.Frag} {x : Str} (hn : l.most = some 63) (hdf : d.params.defaults = []) (hr : Room k callerA)
    (hY : ∀ (w : World) (h : Heap), YP w h → (K w.params).In h)
    (F : ∀ (w : World) (mg : Str → Option Value) (fa : Addr) (h : Heap), (K w.params).In h → h.Ns mainGlobals mg → mg d.name = some (.ref fa) →
      ∃ fd : FuncData, (∀ (s : Shared) (u : Value), BindsTo s fd ⟨[u], []⟩ [(x, u)]) ∧ ∀ base : Heap, (K w.params).In base → base.Ns mainGlobals mg → FnOk l.prog w (K w.params) mg base (L2.CX l.prog w) k fa fd [x] (spLaw (K w.params))) :
    PySem.W.WalkO q loose XP YP l.row.toRowW d [] (fun f vs => PySem.call f vs) :=
  L2.walk_of (n := 63) (k := k) (x := x) (CX := fun w => L2.CX l.prog w) (sp := fun w => spLaw (K w.params)) hn (by decide) hdf hr hY F (fun _ _ a ns hl _ hS => ⟨a, ns, rfl, hS, hl, fun _ => rfl⟩)
    fun _ _ _ _ _ ⟨_, _, _, _, _, _, _, _, _, _, _, _, z⟩ => z
end Mi

set_option Elab.async false
set_option linter.all false
set_option maxRecDepth 100000
namespace Mi
open PySem PySem.Spec PyProof.Rows L2

/-! ## sorted -/
def tup1 : D → Bool
  | .tup (_ :: _) => true
  | _ => false
def noTup : D → Bool
  | .int _ => true
  | .str _ => true
  | .bl _ => true
  | .lst _ => true
  | _ => false
def srtOk (ds : List D) : Bool := (ds.all fun d => lvl 40 d) && (ds.all fun x => ds.all fun y => PySem.W.alike x.py y.py) && (ds.all tup1 || ds.all noTup)
noncomputable def srtD (ds : List D) : List D := ds.mergeSort (PySem.W.dataLe false D.py)
noncomputable def fSorted : List D → Option D
  | [.lst ds] => if ds.length ≤ lim ∧ (ds.length < 2 ∨ srtOk ds = true) then some (.lst (srtD ds)) else none
  | [.dic false ks ws] => match intsOf ks with
    | some ns => if ns.length < 64 then some (.lst ((srtI ns).map .int)) else none
    | none => none
  | _ => none
def rSortA (K : PySem.W.Frag) (mg : MG) : List V → Hp → VK → Prop := fun vs H Q => ∃ (F : Hp) (a : Addr) (us : List V) (ds : List D), vs = [V.ref a] ∧ SqL K H a us ∧ Ex F H ∧ FzL K mg F ds us ∧ ds.length ≤ lim ∧ (ds.length < 2 ∨ srtOk ds = true) ∧
  ∀ p us', H p = none → FzL K mg F (srtD ds) us' → Q (.ref p) (upd H p (.lst us'))
section
variable {X : Cx}
open PySem.W in
theorem each_of {R : Value → D → Prop} {K : PySem.W.Frag} {mg : MG} {F : Hp} : ∀ {ds : List D} {us : List V} {its : List Value}, FzL K mg F ds us → Vals us its → (∀ d x v, d ∈ ds → Fz K mg F d x → RelV x v → R v d) → EachIs R its ds
  | [], us, its, h, r, k => by
    have h : us = [] := h
    subst h
    cases r
    exact .nil
  | d :: ds, us, its, h, r, k => by
    obtain ⟨x, ur, rfl, h1, h2⟩ := h
    cases r with
    | cons rv rr => exact .cons (k d x _ List.mem_cons_self h1 rv) (each_of h2 rr fun d' x' v' m => k d' x' v' (List.mem_cons_of_mem _ m))
open PySem.W in
theorem each_to {K : PySem.W.Frag} {mg : MG} {F : Hp} : ∀ {ds : List D} {its : List Value}, EachIs (fun (v : Value) (d : D) => ∃ x : V, RelV x v ∧ Fz K mg F d x) its ds → ∃ us, FzL K mg F ds us ∧ Vals us its
  | _, _, .nil => ⟨[], rfl, .nil⟩
  | _, _, .cons ⟨x, r, f⟩ h => by
    obtain ⟨us, h1, h2⟩ := each_to h
    exact ⟨x :: us, ⟨x, us, rfl, f, h1⟩, .cons r h2⟩
theorem alike_of {ds : List D} (h : srtOk ds = true) : PySem.W.AllAlike (ds.map D.py) := by
  unfold srtOk at h
  simp only [Bool.and_eq_true, List.all_eq_true] at h
  intro d hd d' hd'
  obtain ⟨x, hx, rfl⟩ := List.mem_map.mp hd
  obtain ⟨y, hy, rfl⟩ := List.mem_map.mp hd'
  exact h.1.2 x hx y hy
theorem sortable_of {ds : List D} (h : srtOk ds = true) : PySem.W.Sortable (ds.map D.py) := by
  unfold srtOk at h
  simp only [Bool.and_eq_true, Bool.or_eq_true, List.all_eq_true] at h
  rcases h.2 with h | h
  · refine .inl fun d hd => ?_
    obtain ⟨x, hx, rfl⟩ := List.mem_map.mp hd
    have := h x hx
    unfold tup1 at this
    split at this
    · rename_i a r
      exact ⟨a.py, D.pyL r, rfl⟩
    · cases this
  · refine .inr fun d hd => ?_
    obtain ⟨x, hx, rfl⟩ := List.mem_map.mp hd
    have := h x hx
    unfold noTup at this
    split at this <;> first | cases this; done | exact ⟨by simp [D.py], fun xs => by simp [D.py]⟩
theorem lvl_of {ds : List D} (h : srtOk ds = true) {d : D} (m : d ∈ ds) : lvl 40 d = true := by
  unfold srtOk at h
  simp only [Bool.and_eq_true, List.all_eq_true] at h
  exact h.1.1 d m
theorem cr_sortA (hu : X.A.units + 81 < cLine) : CallR X (.builtin "sorted") (rSortA X.K X.mg) := by
  intro pins s σ H vs us' Q I r h
  obtain ⟨F, a, us, ds, rfl, hs, eF, hf, hl, hok, q⟩ := h
  obtain ⟨its, rv, hlp, hz⟩ := I.list hs
  rw [Vals.ref1 r]
  have elen : its.length = ds.length := by rw [hf.length, rv.length]
  rcases hok with h2 | hok
  · refine SrtO.sorted_ord (ltv := fun _ _ => false) ⟨fun _ _ h => (by cases h), fun _ _ _ _ _ => rfl⟩ hlp.isList (by rw [← rv.length]; exact hz) (fun h3 => absurd h3 (by omega)) fun out h1 h3 => ?_
    have eo : out = its := by
      have := h3.perm
      match its, elen, this with
      | [], _, p => exact List.Perm.eq_nil p
      | [x], _, p => exact List.Perm.eq_singleton p
      | x :: y :: r, e, _ => simp at e; omega
    subst eo
    have es : srtD ds = ds := by
      unfold srtD
      match ds, h2 with
      | [], _ => simp
      | [d], _ => simp
      | _ :: _ :: _, h => simp at h; omega
    obtain ⟨ep, he'⟩ := PyProof.Rows.sortedAll_at s.heap out out.toArray
    exact ⟨.ref _, upd H (s.heap.objs.size + 1) (.lst us), I.laid (t' := s.toks) (fun _ _ => PyProof.Rows.sortedAll_old) (Nat.le_succ _) ⟨hz, out, ep, rv, he'⟩, rfl, q _ us (I.hok.fresh (Nat.le_succ _)) (by rw [es]; exact hf)⟩
  · refine PySem.W.sorted_data (R := fun (v : Value) (d : D) => ∃ x : V, RelV x v ∧ Fz X.K X.mg F d x) (enc := D.py) (bs := ds) hlp.isList (each_of hf rv fun d x v _ f r => ⟨x, r, f⟩)
      (each_of hf rv fun d x v m f r => Dp.reads I _ x v (fz_dp 40 d x (lvl_of hok m) (f.ex eF)) r) (alike_of hok) (sortable_of hok) (by exact lim_le hl) (fun b m => ?_) fun out hlo he => ?_
    · have := (lvl_shape 40 b (lvl_of hok m)).2
      omega
    · obtain ⟨zs, z1, z2⟩ := each_to he
      obtain ⟨ep, he'⟩ := PyProof.Rows.sortedAll_at s.heap its out.toArray
      have hlen : zs.length ≤ sizeLine := by rw [z2.length, hlo]; exact lim_le hl
      exact ⟨.ref _, upd H (s.heap.objs.size + 1) (.lst zs), I.laid (t' := s.toks) (fun _ _ => PyProof.Rows.sortedAll_old) (Nat.le_succ _) ⟨hlen, out, ep, z2, he'⟩, rfl, q _ zs (I.hok.fresh (Nat.le_succ _)) z1⟩
abbrev rSortDI : List V → Hp → VK → Prop := fun xs H Q => ∃ (a : Addr) (kvs : List (Key × V)) (ks : List Int), xs = [.ref a] ∧ Rd H a (.dK kvs) ∧ kvs.map (·.1) = ks.map Sum.inl ∧ ks.length < 64 ∧ ∀ (ys : List Int) (p : Addr), ys.Perm ks → ys.Pairwise (· ≤ ·) → H p = none → Q (.ref p) (upd H p (.lst (ys.map V.int)))
abbrev rSortAll (K : PySem.W.Frag) (mg : MG) : List V → Hp → VK → Prop := fun xs H Q => rSortA K mg xs H Q ∨ rSortDI xs H Q
theorem cr_sortedA (hc : X.calm = true) (hu : X.A.units + 81 < cLine) : CallR X (.builtin "sorted") (rSortAll X.K X.mg) := CallR_or (cr_sortA hu) (call_sortedDI hc)
end
section
variable {K : PySem.W.Frag} {mg : MG}
theorem keys_ints : ∀ {ks : List D} {ns : List Int} {kk : List Key}, intsOf ks = some ns → keysOf ks = some kk → kk = ns.map Sum.inl
  | [], ns, kk, h, k => by cases h; cases k; rfl
  | d :: ds, ns, kk, h, k => by
    cases d with
    | int i =>
      obtain ⟨br, h1, rfl⟩ := Option.map_eq_some_iff.mp (show (intsOf ds).map _ = some ns from h)
      unfold keysOf at k
      cases q : keysOf ds with
      | none => rw [q] at k; simp [keyOf] at k
      | some kr =>
        rw [q] at k
        simp [keyOf] at k
        subst k
        rw [keys_ints h1 q]; rfl
    | _ => cases h
theorem fd_sortedA : FnD K mg (rSortAll K mg) fSorted := fun F H xs vs z Q e hx hz q => by
  unfold fSorted at hz
  split at hz
  · rename_i ds
    split at hz
    · rename_i hc
      cases hz
      obtain ⟨v, rfl, a, us, rfl, h1, h2⟩ := fb1 hx
      exact .inl ⟨F, a, us, ds, rfl, h1, e, h2, hc.1, hc.2, fun p us' hp hf => q.lst e hf hp⟩
    · cases hz
  · rename_i ks ws
    split at hz
    · rename_i ns hns
      split at hz
      · rename_i hl
        cases hz
        obtain ⟨v, rfl, a, us, rfl, h1, kk, p1, p2, p3⟩ := fb1 hx
        have ek := keys_ints hns p1
        refine .inr ⟨a, _, ns, rfl, p3, ?_, hl, fun ys p hp hs hn => ?_⟩
        · rw [← ek, List.map_fst_zip (by omega)]
        · rw [srtI_eq hp hs]
          exact q.lst e (fz_ints _) hn
      · cases hz
    · cases hz
  · cases hz
end
end Mi

set_option Elab.async false
set_option linter.all false
set_option maxRecDepth 100000
namespace Mi
open PySem PySem.Spec PyProof.Rows L2
section
variable {X : Cx} {W : WX} {tg iter elt : Expr} {ifs : List Expr} {scope : Scope} {own : List (Str × Nat)} {vs : List Nat} {pos : Pos} {it : MA} {g : TG} {b : Bd} {js : List Nat} {mt : MT} {m : ME}
theorem so_lcV (hc : X.calm = true) (hN : X.N.Nodup) (hi : PI X tg iter (tMI X.K X.mg W it)) (ok : BlkOk X.N X.env.scope scope own) (gd : GD X.K X.mg g b js) (hj : ∀ j ∈ js, j ∈ own.map (·.2))
    (hg : ∀ (s : Shared) (H : Hp) (C : Addr) (cl : List (Str × Addr)) (fp : List Addr), PG (X.blk s H scope (compEnvC scope cl C X.env) fp) tg g) (ht : ∀ (s : Shared) (H : Hp) (C : Addr) (cl : List (Str × Addr)) (fp : List Addr), PTs (X.blk s H scope (compEnvC scope cl C X.env) fp) ifs (tMT X.K X.mg WF mt))
    (he : ∀ (s : Shared) (H : Hp) (C : Addr) (cl : List (Str × Addr)) (fp : List Addr), PE (X.blk s H scope (compEnvC scope cl C X.env) fp) elt (tM X.K X.mg WF m)) (hs : ∀ x, foldedSetIterable iter X.env x = pure x := by intro _; rfl) (hv : own.map (·.2) = vs := by rfl) :
    PE X (.ListComp elt [⟨tg, iter, ifs, 0⟩] scope pos) (tMO X.K X.mg W (mComp vs it b mt m)) := by
  subst hv
  exact so_lc hc hN hi ok gd hj hg ht he hs
theorem ss_setLcV {i : Nat} {y : Str} {py spos : Pos} (hc : X.calm = true) (hN : X.N.Nodup) (hy : X.N[i]? = some y) (hyl : X.env.scope.names.lookup y = some .local)
    (hsw : swapsWith (.ListComp elt [⟨tg, iter, ifs, 0⟩] scope pos) (some (.Name y py)) spos.line X.env = pure true) (hi : PI X tg iter (tMI X.K X.mg W it)) (ok : BlkOk X.N X.env.scope scope own) (gd : GD X.K X.mg g b js) (hj : ∀ j ∈ js, j ∈ own.map (·.2))
    (hg : ∀ (s : Shared) (H : Hp) (C : Addr) (cl : List (Str × Addr)) (fp : List Addr), PG (X.blk s H scope (compEnvC scope cl C X.env) fp) tg g) (ht : ∀ (s : Shared) (H : Hp) (C : Addr) (cl : List (Str × Addr)) (fp : List Addr), PTs (X.blk s H scope (compEnvC scope cl C X.env) fp) ifs (tMT X.K X.mg WF mt))
    (he : ∀ (s : Shared) (H : Hp) (C : Addr) (cl : List (Str × Addr)) (fp : List Addr), PE (X.blk s H scope (compEnvC scope cl C X.env) fp) elt (tM X.K X.mg WF m)) (hs : ∀ x, foldedSetIterable iter X.env x = pure x := by intro _; rfl) (hv : own.map (·.2) = vs := by rfl) :
    PS X (.Assign [.Name y py] (.ListComp elt [⟨tg, iter, ifs, 0⟩] scope pos) spos) (tMS X.K X.mg W (mAsgL i (mComp vs it b mt m))) := by
  subst hv
  exact ss_setLc hc hN hy hyl hsw hi ok gd hj hg ht he hs
end
end Mi

set_option Elab.async false
set_option linter.all false
set_option maxRecDepth 100000
namespace Mi
open PySem PySem.Spec PyProof.Rows L2

/-! ## dict displays -/
def mD0 : ME := fun env => .ok (.dic false [] [], env)
def mD1 (k : Int) (i : Nat) : ME := fun env => match env[i]? with
  | some (.fz d) => .ok (.dic false [.int k] [d], env)
  | _ => .bad
section
variable {X : Cx} {W : WX} {pos : Pos}
theorem se_d0 : PE X (.Dict [] [] pos) (tM X.K X.mg W mD0) := by
  refine PE_imp pe_dnewK fun σ H Q ⟨B, F, env, s, h⟩ p hp => ?_
  have st := Step.laid (o := .dK []) s.fH hp
  exact h _ _ (s.step st) st.fF _ ⟨p, [], rfl, rfl, [], rfl, rfl, .inl upd_same⟩
theorem se_d1 (i : Nat) {k : Int} {j : Nat} {x : Str} {p1 p2 : Pos} (hN : X.N[i]? = some x := by rfl) (hv : Vis X.env.scope x := by first | exact Or.inl rfl | exact Or.inr (Or.inl rfl) | exact Or.inr (Or.inr rfl)) (hd : (x == ("__debug__" : Str)) = false := by decide)
    (hcd : (x == ("__classdict__" : Str)) = false := by decide) : PE X (.Dict [some (.Constant (.int k) j p1)] [.Name x p2] pos) (tM X.K X.mg W (mD1 k i)) := by
  refine PE_imp (pe_disp (pps_cons pe_int (pe_var hN hv hd hcd) pps_nil) rfl rfl (by simp) (by simp)) fun σ H Q ⟨B, F, env, s, h⟩ p hp => ?_
  unfold mD1 at h
  cases q : env[i]? with
  | none => rw [q] at h; exact h.elim
  | some y =>
    rw [q] at h
    cases y with
    | fz d =>
      obtain ⟨v, e, f⟩ := s.sl i _ q
      refine ⟨v, look_of e, upd_same, [(.inl k, v)], rfl, by simp, ?_⟩
      have st := Step.laid (o := .dK [(.inl k, v)]) s.fH hp
      have e2 : upd (upd H p (.dK [])) p (.dK (mergeK [] [(.inl k, v)])) = upd H p (.dK [(.inl k, v)]) := by
        funext a
        by_cases z : a = p
        · rw [z, upd_same, upd_same]; rfl
        · rw [upd_ne z, upd_ne z, upd_ne z]
      rw [e2]
      exact h _ _ (s.step st) st.fF _ ⟨p, [v], rfl, ⟨v, [], rfl, f.ex st.fF, rfl⟩, [.inl k], rfl, rfl, .inl upd_same⟩
    | _ => exact h.elim
end
end Mi

set_option Elab.async false
set_option linter.all false
set_option maxRecDepth 100000
namespace Mi
open PySem PySem.Spec PyProof.Rows L2

/-! ## own exceptions without arguments -/
section
variable {X : Cx} {C : Addr} {bmB : List Value} {B newId initId : String}
theorem pmk_own0 {x : Str} {p pos : Pos} (F : ExcBaseFacts B newId initId bmB) (q : PySem.W.excIn X.K C bmB newId = true) (gC : X.mg x = some (.ref C)) (kC : PySem.W.keepIn X.K (.ref C) = true) (r : Raises X (.ref C)) (hg : Gl X x)
    (hdb : (x == ("__debug__" : Str)) = false := by decide) : PMk X (.Call (.Name x p) [] [] pos) (fun _ H Q => Q (.ref C) none H) := by
  intro pins s σ H Q I h
  refine wpAny_Call_Name_kw (ld_glob I hg gC ?_ hdb)
  refine PySem.W.callWith_K0 I.kIn kC ?_
  obtain ⟨bm, N, nm, qn, bs, hdct, sn, sub, ab, col, dd, k0, k1, k2, k3, k5, mN, hC, hN, hni, T⟩ := exc_obj I.kIn q
  refine wpAny_call_exc_subT F T hC hN hni (fun h' e hm => ?_) (Nat.zero_le _)
  exact mk_of I hm r h (I.hok.gone hm.new)
end
def mRaise0 (cn : Str) : MS := fun env => .exc ⟨cn, [], []⟩ env
theorem ss_raise0 {X : Cx} {W : WX} {C : Addr} {bmB : List Value} {B newId initId : String} {x : Str} {p pos pos' : Pos} (hc : X.calm = true) (tk : Takes X W) (F : ExcBaseFacts B newId initId bmB) (q : PySem.W.excIn X.K C bmB newId = true) (gC : X.mg x = some (.ref C)) (kC : PySem.W.keepIn X.K (.ref C) = true)
    (h1 : PySem.W.subIn X.K (.ref C) (.type "BaseException") = some true) (h2 : PySem.W.typeIn X.K (.ref C) = some (.type "type")) (hg : Gl X x) (hdb : (x == ("__debug__" : Str)) = false := by decide) :
    PS X (.Raise (some (.Call (.Name x p) [] [] pos)) none pos') (tMS X.K X.mg W (mRaise0 x)) := by
  refine PS_imp (ps_raise hc tk (pmk_own0 F q gC kC (raises_own h1 h2) hg hdb)) fun D σ H ⟨B, F, env, s, h⟩ => ?_
  exact h F σ H none C s (Ex.refl F) (.inl ⟨rfl, rfl⟩) gC
/-! ## try, the first handler by its class -/
def mTry1 (cn : Str) (mb mh : MS) : MS := fun env => match mb env with
  | .exc x e1 => if x.c = cn then mh e1 else .bad
  | .ok p => .ok p
  | .bad => .bad
theorem try_read {K : PySem.W.Frag} {mg : MG} {Wout : WX} {cn : Str} {C : Addr} {mb mh : MS} {l : List (Value × (Addr → Value → Option Addr → TS))} (gC : mg cn = some (.ref C)) (hx : PySem.W.exmOne K (.ref C) (.ref C) = some true) {D : Ends} {σ : L2.St} {H : Hp}
    (h : tMS K mg Wout (mTry1 cn mb mh) D σ H) : tMS K mg (wMany K Wout D ((.ref C, fun _ _ _ => tMS K mg Wout mh) :: l)) mb D σ H := by
  obtain ⟨B, F, env, s, h⟩ := h
  refine ⟨B, F, env, s, ?_⟩
  unfold mTry1 at h
  cases r : mb env with
  | bad => rw [r] at h; exact h
  | ok p => rw [r] at h; exact h
  | exc x e1 =>
    rw [r] at h
    simp only at h
    split at h
    · rename_i e
      intro F' σ' H' d C' s' ex ha hC
      rw [e, gC] at hC
      cases hC
      exact ⟨true, hx, fun _ a _ => ⟨B, F', e1, s', PstS.mono ex h⟩, fun z => by cases z⟩
    · exact h.elim
theorem ss_try {X : Cx} {Wout : WX} {cn : Str} {C : Addr} {mb mh : MS} {l : List (Value × (Addr → Value → Option Addr → TS))} {body : List Stmt} {b₀ : Stmt} {suite : List Stmt} {np pos' pos : Pos} {hds : List ExceptHandler} (hs : X.stack = X.env :: X.outer) (hf : X.env.frame = some X.env.locals) (tk : Takes X Wout)
    (hc : Names X cn (.ref C)) (gC : X.mg cn = some (.ref C)) (hx : PySem.W.exmOne X.K (.ref C) (.ref C) = some true)
    (hb : ∀ (W : WX) (pn : List (Addr × Obj)) (xe : Value → Shared → Prop), Takes (X.tr pn xe) W → PassesOwn (model X.prog X.w) X.A X.env xe → PSs (X.tr pn xe) body (tMS X.K X.mg W mb))
    (hsu : ∀ (a : Addr) (oe : Obj) (cls : Value) (d : Option Addr) (pn : List (Addr × Obj)), Zc cls d oe → (∃ vs, oe.data = .fields vs) → PSs (X.suite a ((a, oe) :: pn)) (b₀ :: suite) (tMS X.K X.mg Wout mh)) (r : HdsOk X hds l) :
    PS X (.Try body (.ExceptHandler (some (.Name cn np)) none (b₀ :: suite) pos' :: hds) [] [] pos) (tMS X.K X.mg Wout (mTry1 cn mb mh)) :=
  PS_imp (ps_try_many hs hf tk hb (.cons hc hsu r)) fun D σ H h => try_read gC hx h
/-- what is told of an own exception class without __init__, under ValueError -/
structure ExC (K : PySem.W.Frag) (mg : MG) (x : Str) where
  C : Addr
  g : mg x = some (.ref C)
  q : PySem.W.excIn K C [.type "ValueError", .type "Exception", .type "BaseException", .type "object"] "ValueError.__new__" = true
  kp : PySem.W.keepIn K (.ref C) = true
  h1 : PySem.W.subIn K (.ref C) (.type "BaseException") = some true
  h2 : PySem.W.typeIn K (.ref C) = some (.type "type")
  hx : PySem.W.exmOne K (.ref C) (.ref C) = some true
/-! ## [..] * k -/
def mRep (m : MA) (k : Nat) : ME := fun env => (m env).bind fun (ds, e1) => if ds.length * k ≤ lim ∧ k < 1000000 then .ok (.lst (List.replicate k ds).flatten, e1) else .bad
theorem FzL.rep {K : PySem.W.Frag} {mg : MG} {F : Hp} {ds : List D} {vs : List V} (h : FzL K mg F ds vs) : ∀ k : Nat, FzL K mg F (List.replicate k ds).flatten (List.replicate k vs).flatten
  | 0 => rfl
  | k + 1 => by
    rw [List.replicate_succ, List.replicate_succ, List.flatten_cons, List.flatten_cons]
    exact h.app (FzL.rep h k)
theorem se_rep {X : Cx} {W : WX} {a : Expr} {pos p1 : Pos} {j : Nat} {m : MA} {k : Nat} (ha : PE X a (tMO X.K X.mg W m)) : PE X (.BinOp a .Mult (.Constant (.int (k : Int)) j p1) pos) (tM X.K X.mg W (mRep m k)) := by
  refine PE_imp (pe_op op_rep ha pe_int) fun σ H Q ⟨B, F, env, s, h⟩ => ?_
  refine ⟨B, F, env, s, (Pst.bind h).imp fun ds env1 F1 H1 s1 e1 h1 p vs ho hF h0 hio hH hd => ?_⟩
  simp only at h1
  split at h1
  · rename_i hl
    have hlen := hd.length
    refine ⟨p, (k : Int), vs, rfl, rfl, hH, by omega, by omega, by rw [← hlen]; exact lim_le (by simpa using hl.1), fun q hq => ?_⟩
    have st := Step.laid (o := .lst (List.replicate ((k : Int)).toNat vs).flatten) s1.fH hq
    exact h1 _ _ (s1.step st) st.fF _ ⟨q, _, rfl, .inl (.inl upd_same), (hd.ex st.fF).rep k⟩
  · exact h1.elim
/-- {'k': 'v'} -/
def mDs (k v : Str) : ME := fun env => .ok (.dic false [.str k] [.str v], env)
theorem se_ds {X : Cx} {W : WX} {k v : Str} {j j2 : Nat} {p1 p2 pos : Pos} : PE X (.Dict [some (.Constant (.str k) j p1)] [.Constant (.str v) j2 p2] pos) (tM X.K X.mg W (mDs k v)) := by
  refine PE_imp (pe_disp (pps_cons pe_str pe_str pps_nil) rfl rfl (by simp) (by simp)) fun σ H Q ⟨B, F, env, s, h⟩ p hp => ?_
  refine ⟨upd_same, [(.inr k, .str v)], rfl, by simp, ?_⟩
  have st := Step.laid (o := .dK [(.inr k, .str v)]) s.fH hp
  have e2 : upd (upd H p (.dK [])) p (.dK (mergeK [] [(.inr k, .str v)])) = upd H p (.dK [(.inr k, .str v)]) := by
    funext a
    by_cases z : a = p
    · rw [z, upd_same, upd_same]; rfl
    · rw [upd_ne z, upd_ne z, upd_ne z]
  rw [e2]
  exact h _ _ (s.step st) st.fF _ ⟨p, [.str v], rfl, ⟨.str v, [], rfl, rfl, rfl⟩, [.inr k], rfl, rfl, .inl upd_same⟩
end Mi

set_option Elab.async false
set_option linter.all false
set_option maxRecDepth 100000
namespace Mi
open PySem PySem.Spec PyProof.Rows L2

/-! ## == and != by a class's own __eq__, with both answers -/
structure OffEq (K : PySem.W.Frag) (C : Addr) : Prop where
  ne : PySem.W.findIn K (.ref C) "__ne__" = some (some (.builtin "object.__ne__"))
  ic : PySem.W.isClsIn K C = true
  ty : PySem.W.typeIn K (.ref C) = some (.type "type")
section
variable {prog : Program} {w : World} {A : Around} {E : Value → Shared → Prop} {s : Shared} {K : PySem.W.Frag} {x C f L : Addr} {ox : Obj} {od : Option Obj} {b tb : Value}
/-- the inherited != is bound as a builtin -/
theorem bound_ne {M : Model} {args : List Value} {Q : Option Value → Shared → Prop} (X : K.In s.heap) (J : PySem.W.InstAt s.heap x ox C od) (hn : PySem.W.findIn K (.ref C) "__ne__" = some (some (.builtin "object.__ne__")))
    (h : wpAny M A (call (.builtin "object.__ne__") (.ref x :: args)) (fun r => Q (some r)) E s) : wpAny M A (callSpecialIfBound? (.ref x) "__ne__" args) Q E s := by
  unfold callSpecialIfBound? bindSpecialIfBound?
  apply wpAny_holding; apply wpAny_bind; apply wpAny_bind; apply wpAny_bind; refine J.type.here ?_
  refine (PySem.W.looks_findIn X hn).here ?_
  have last : wpAny M A ((call (.builtin "object.__ne__") ([.ref x] ++ args)) >>= fun r => pure (some r)) Q E s := wpAny_bind (wpAny_mono h (fun _ _ q => wpAny_pure q) fun _ _ q => q)
  simp only [F.cmp_object.ne.bind]
  apply wpAny_bind; refine wpAny_askSetting (wpAny_ite ?_)
  split <;> first
    | exact wpAny_bind (wpAny_pure (wpAny_pure last))
    | exact wpAny_tryCatch (wpAny_bind (wpAny_pure (wpAny_pure last)))
theorem entry_ne (X : K.In s.heap) (J : PySem.W.InstAt s.heap x ox C od) (hs : PySem.W.findIn K (.ref C) "__eq__" = some (some (.ref f))) (hf : PySem.W.isFn K (.ref f) = true) (hu : A.units < cLine) {Q : Fin → Shared → Prop}
    (h : wpAny (model prog w) A (call (.ref f) [.ref x, b]) (fun r s' => ∃ z, r = .bool z ∧ Q (.done (.ret (.bool (!z)))) s') E s) : wpAny (model prog w) A (Builtin.«object.__ne__» ⟨[.ref x, b], []⟩) Q E s := by
  unfold Builtin.«object.__ne__»
  repeat (first
    | (with_reducible refine wpAny_cRoomFor hu ?_)
    | (refine wpAny_bind (m := callSpecialIfBound? (.ref x) (Str.ofString "__eq__") [b]) (PySem.W.ifBound_K X J hs hf (wpAny_mono h (fun r s' hr => by
        obtain ⟨z, rfl, q⟩ := hr
        repeat (first | exact q | exact wpAny_pure q | exact wpAny_truthy_bool q | (refine wpAny_bind (m := truthy (.bool _)) (wpAny_truthy_bool ?_)) | wp_step)) fun _ _ q => q)))
    | wp_step)
theorem try_ne (X : K.In s.heap) (J : PySem.W.InstAt s.heap x ox C od) (t : OffEq K C) (hm : PySem.W.mroIn K C (.type "object") = some true) (hs : PySem.W.findIn K (.ref C) "__eq__" = some (some (.ref f))) (hf : PySem.W.isFn K (.ref f) = true) (hu : A.units + 1 < cLine) {Q : Option Value → Shared → Prop}
    (h : wpAny (model prog w) A.in1 (call (.ref f) [.ref x, b]) (fun r s' => ∃ z, r = .bool z ∧ Q (some (.bool (!z))) s') E s) : wpAny (model prog w) A (tryCompare (.ref x) "__ne__" b) Q E s := by
  unfold tryCompare
  apply wpAny_bind
  refine bound_ne X J t.ne (wpAny_call (codeAny_call_builtin F.cmp_object.ne.plain F.cmpEntry_ne ?_))
  refine PySem.W.check_slot F.cmpKind_ne F.cmpSplit_ne (J.type.andThen (PySem.W.looks_mroIn X hm)) (F.cmpArgs_ne _ _) ?_
  refine entry_ne (A := A.in1) X J hs hf hu (wpAny_mono h (fun r s' hr => ?_) fun _ _ q => q)
  obtain ⟨z, rfl, q⟩ := hr
  exact ⟨z, rfl, wpAny_pure q⟩
theorem cmp_ne {h₀ : Heap} {m : Str → Option Value} {Q : Value → Shared → Prop} (hu : A.units + 1 < cLine) (fr : Fr h₀ L s.heap m) (X₀ : K.In h₀) (J : PySem.W.InstAt s.heap x ox C od) (t : OffEq K C) (hm : PySem.W.mroIn K C (.type "object") = some true) (hb : PySem.W.Looks (model prog w) s.heap (typeOf b) tb) (hn : PySem.W.notFirst K C tb = true)
    (hs : PySem.W.findIn K (.ref C) "__eq__" = some (some (.ref f))) (hf : PySem.W.isFn K (.ref f) = true)
    (h : wpAny (model prog w) A.in1 (call (.ref f) [.ref x, b]) (fun r s' => ∃ z, r = .bool z ∧ Q (.bool (!z)) s') E s) : wpAny (model prog w) A (richCompare .NotEq (.ref x) b) Q E s := by
  have X := X₀.keeps fr.keep
  have one : wpAny (model prog w) A (tryCompare (.ref x) "__ne__" b) (fun r s' => ∃ v, r = some v ∧ Q v s') E s := try_ne X J t hm hs hf hu (wpAny_mono h (fun r s' ⟨z, e, q⟩ => ⟨z, e, _, rfl, q⟩) fun _ _ q => q)
  unfold richCompare
  simp only [oneThing_ref]
  apply wpAny_holding; apply wpAny_bind; refine wpAny_cRoomFor (Nat.lt_of_succ_lt hu) ?_
  rw [cmpInfo_NotEq]
  apply wpAny_bind; refine J.type.here ?_; apply wpAny_bind; refine hb.here ?_
  split
  · rename_i q
    have e : PySem.W.subIn K tb (.ref C) = some false := by
      unfold PySem.W.notFirst at hn
      rcases Bool.or_eq_true_iff.mp hn with e | e
      · rw [LawfulBEq.eq_of_beq e] at q; simp at q
      · exact LawfulBEq.eq_of_beq e
    apply wpAny_bind; refine (PySem.W.looks_subIn X e).here ?_
    simp only [Bool.false_eq_true, if_false]
    exact wpAny_bind (wpAny_mono one (fun r s' z => by obtain ⟨v, rfl, q⟩ := z; exact wpAny_pure q) fun _ _ q => q)
  · apply wpAny_bind; refine wpAny_pure ?_
    simp only [Bool.false_eq_true, if_false]
    exact wpAny_bind (wpAny_mono one (fun r s' z => by obtain ⟨v, rfl, q⟩ := z; exact wpAny_pure q) fun _ _ q => q)
end
/-- what x == y (neg: x != y) asks: x an instance of C -/
def rEqO (K : PySem.W.Frag) (C : Addr) (sp : Sp) (E : XK) (neg : Bool) : R2 := fun x y H Q => ∃ a dx fs t, x = .ref a ∧ H a = some (.ins C dx fs) ∧ TyX K H y t ∧ PySem.W.notFirst K C t = true ∧ sp [x, y] H (fun z H' => ∃ b : Bool, z = .bl b ∧ Q (.bl (b != neg)) H') E
section
variable {X : Cx} {CX : CXT} {C g : Addr} {n : Nat} {sp : Sp} {E : XK}
theorem op_eqO (hs : PySem.W.findIn X.K (.ref C) "__eq__" = some (some (.ref g))) (hf : PySem.W.isFn X.K (.ref g) = true) (F : FnR X.prog X.w X.K X.mg X.base CX n g sp) (hr : Room n X.A) (hx : Passes CX X E) : OpR X (compareOp .Eq) (rEqO X.K C sp E false) := by
  intro pins s σ H x y v u Q I rx ry h
  obtain ⟨a, dx, fs, t, rfl, ha, ty, hn, q⟩ := h
  cases (show v = Value.ref a from rx)
  obtain ⟨P, kt, hP, _⟩ := kit_of I ry ty
  obtain ⟨mA, O, _⟩ := ins_get I.hok ha
  obtain ⟨od, J, _⟩ := O.look
  obtain ⟨m, hF⟩ := I.fr
  show wpAny (model X.prog X.w) X.A (richCompare .Eq (.ref a) u) _ _ s
  refine PySem.W.cmp_K (op := .Eq) (tb := t) hr.units0 hF I.ok.mod.kin J (kt.ty _ _ I.kIn hP) hn hs hf ?_
  refine wpAny_mono (wpAny_call (SlX.run_at (us := [.ref a, u]) (ws := [.ref a, y]) F hr I.env0 hx I (.cons rfl (.cons ry .nil)) q)) (fun r s' z => ?_) fun _ _ z => z
  obtain ⟨z', H', I', rz, b, ez, qz⟩ := z
  subst ez
  cases (show r = Value.bool b from rz)
  exact ⟨.bl (b != false), H', I', by cases b <;> rfl, qz⟩
theorem op_neO (t : OffEq X.K C) (hm : PySem.W.mroIn X.K C (.type "object") = some true) (hs : PySem.W.findIn X.K (.ref C) "__eq__" = some (some (.ref g))) (hf : PySem.W.isFn X.K (.ref g) = true) (F : FnR X.prog X.w X.K X.mg X.base CX n g sp) (hr : Room (n + 1) X.A) (hx : Passes CX X E) : OpR X (compareOp .NotEq) (rEqO X.K C sp E true) := by
  intro pins s σ H x y v u Q I rx ry h
  obtain ⟨a, dx, fs, t', rfl, ha, ty, hn, q⟩ := h
  cases (show v = Value.ref a from rx)
  obtain ⟨P, kt, hP, _⟩ := kit_of I ry ty
  obtain ⟨mA, O, _⟩ := ins_get I.hok ha
  obtain ⟨od, J, _⟩ := O.look
  obtain ⟨m, hF⟩ := I.fr
  show wpAny (model X.prog X.w) X.A (richCompare .NotEq (.ref a) u) _ _ s
  refine cmp_ne (tb := t') (hu1 hr) hF I.ok.mod.kin J t hm (kt.ty _ _ I.kIn hP) hn hs hf ?_
  refine wpAny_mono (wpAny_call (SlX.run_at (us := [.ref a, u]) (ws := [.ref a, y]) F hr.in1 I.env0.in1 hx I (.cons rfl (.cons ry .nil)) q)) (fun r s' z => ?_) fun _ _ z => z
  obtain ⟨z', H', I', rz, b, ez, qz⟩ := z
  subst ez
  cases (show r = Value.bool b from rz)
  exact ⟨b, rfl, .bl (b != true), H', I', by cases b <;> rfl, qz⟩
end
/-! ## over data -/
/-- what may stand on the right -/
def eqOk : D → Bool
  | .obj c _ _ => c = "Office"
  | x => (tyName x).isSome
def isOff : D → Bool
  | .obj _ _ _ => true
  | _ => false
theorem eq_ty {K : PySem.W.Frag} {mg : MG} {F H : Hp} {C : Addr} {y : D} {v : V} (ic : IsiC K mg) (hC : mg "Office" = some (.ref C)) (t : OffEq K C) (e : Ex F H) (h : Fb K mg F H y v) (hy : eqOk y = true) :
    ∃ tb, TyX K H v tb ∧ PySem.W.notFirst K C tb = true ∧ PySem.W.kitOne K tb (.ref C) = some (isOff y) := by
  have cls : ∀ n : String, PySem.W.subIn K (.type n) (.ref C) = some false → PySem.W.notFirst K C (.type n) = true ∧ PySem.W.kitOne K (.type n) (.ref C) = some false := fun n hn => by
    refine ⟨by unfold PySem.W.notFirst; rw [hn]; simp, ?_⟩
    unfold PySem.W.kitOne PySem.W.kitCls
    rw [if_neg (show ¬ (Value.type n == Value.ref C) = true by intro z; have := LawfulBEq.eq_of_beq z; cases this)]
    have h1 : (PySem.W.clsIn K C).isSome = true := t.ic
    simp only [h1, t.ty]
    rw [if_pos (by rfl)]
    exact hn
  have fin : ∀ n : String, TyX K H v (.type n) → PySem.W.subIn K (.type n) (.ref C) = some false → isOff y = false → ∃ tb, TyX K H v tb ∧ PySem.W.notFirst K C tb = true ∧ PySem.W.kitOne K tb (.ref C) = some (isOff y) := fun n h1 h2 h3 => ⟨_, h1, (cls n h2).1, by rw [h3]; exact (cls n h2).2⟩
  cases y with
  | non => have h : v = .non := h; subst h; exact fin _ (.base .non) (by kernel_rfl) rfl
  | bl c => have h : v = .bl c := h; subst h; exact fin _ (.base (.bl c)) (by kernel_rfl) rfl
  | int c => have h : v = .int c := h; subst h; exact fin _ (.base (.int c)) (by kernel_rfl) rfl
  | str c => have h : v = .str c := h; subst h; exact fin _ (.base (.str c)) (by kernel_rfl) rfl
  | tup ds => obtain ⟨p, us, rfl, k1, k2⟩ := h; exact fin _ (.base (.tup (e.ex _ _ rfl k1))) (by kernel_rfl) rfl
  | lst ds =>
    obtain ⟨p, us, rfl, k1, k2⟩ := h
    rcases k1 with (k1 | ⟨ob, k1⟩) | ⟨ob, its, n, k1, k2, _⟩
    · exact fin _ (.base (.lst k1)) (by kernel_rfl) rfl
    · exact fin _ (.base (.frz k1)) (by kernel_rfl) rfl
    · exact fin _ (.kList k1 k2) (by kernel_rfl) rfl
  | dic t ks ws =>
    obtain ⟨p, us, rfl, k1, k2⟩ := h
    cases t with
    | false =>
      obtain ⟨kk, _, _, k3⟩ := k2
      rcases k3 with k3 | ⟨ob, k3⟩
      · exact fin _ (.base (.dK k3)) (by kernel_rfl) rfl
      · exact fin _ (.fDict k3) (by kernel_rfl) rfl
    | true => cases hy
  | obj c ns ws =>
    have hc : c = "Office" := by simpa [eqOk] using hy
    subst hc
    obtain ⟨a, C', dx, us, rfl, hC', hH, _, _⟩ := h
    rw [hC] at hC'
    cases hC'
    have t' := ic C hC
    refine ⟨.ref C, .base (.ins (e.ex _ _ rfl hH) t'.cl t'.ha t'.hn t'.htk t'.hm), by unfold PySem.W.notFirst; simp, ?_⟩
    unfold PySem.W.kitOne
    rw [if_pos (by simp)]
    rfl
  | glo x => cases hy
  | ty n => cases hy
/-- isinstance(x, Office) -/
def fIsO : List D → Option D
  | [x, .glo n] => if n = "Office" ∧ eqOk x = true then some (.bl (isOff x)) else none
  | _ => none
theorem fd_isO {K : PySem.W.Frag} {mg : MG} {C : Addr} (ic : IsiC K mg) (hC : mg "Office" = some (.ref C)) (t : OffEq K C) : FnD K mg (rIsi K) fIsO := fun F H xs vs z Q e hx hz q => by
  unfold fIsO at hz
  split at hz
  · rename_i x n
    split at hz
    · rename_i hc
      obtain ⟨rfl, hy⟩ := hc
      cases hz
      obtain ⟨v, u, rfl, h1, h2⟩ := fb2 hx
      obtain ⟨a, rfl, ha⟩ := h2
      rw [hC] at ha
      cases ha
      obtain ⟨tb, k1, k2, k3⟩ := eq_ty ic hC t e h1 hy
      exact ⟨v, .ref C, _, _, isOff x, rfl, ClsV.own C, k1, k3, q.here e rfl⟩
    · cases hz
  · cases hz
/-- x == y, x != y, by f -/
def mEqO (f : PF) (neg : Bool) (a b : ME) : ME := fun env => (a env).bind fun (x, e1) => (b e1).bind fun (y, e2) => if isOff x = true ∧ eqOk x = true ∧ eqOk y = true then (match f [x, y] with
  | .ok (.bl r) => .ok (.bl (r != neg), e2)
  | _ => .bad) else .bad
section
variable {X : Cx} {W : WX} {a b e : Expr} {ma mb : ME} {pos : Pos} {C g : Addr} {f : PF} {k : Nat} {fd : FuncData} {ps : List Str}
theorem tM_eqO {K : PySem.W.Frag} {mg : MG} {E : XK} {neg : Bool} (ic : IsiC K mg) (hC : mg "Office" = some (.ref C)) (t : OffEq K C) : ∀ σ H Q, tM K mg W (mEqO f neg ma mb) σ H Q → tOp (rEqO K C (spP K mg f) E neg) (tM K mg W ma) (tM K mg W mb) σ H Q := by
  rintro σ H Q ⟨B, F, env, s, h⟩
  refine ⟨B, F, env, s, (Pst.bind h).imp fun x env1 F1 H1 s1 e1 h1 vx hx => ?_⟩
  refine ⟨B, F1, env1, s1, (Pst.bind h1).imp fun y env2 F2 H2 s2 e2 h2 vy hy => ?_⟩
  simp only at h2
  split at h2
  · rename_i hc
    obtain ⟨c1, c2, c3⟩ := hc
    cases x with
    | obj c ns ws =>
      have hc : c = "Office" := by simpa [eqOk] using c2
      subst hc
      have hx2 := hx.ex e2
      obtain ⟨p, C', dx, us, rfl, hC', hH, k1, k2⟩ := id hx2
      rw [hC] at hC'
      cases hC'
      obtain ⟨tb, t1, t2, _⟩ := eq_ty ic hC t s2.fH (hy.fb s2.fH) c3
      refine ⟨p, dx, _, tb, rfl, s2.fH.ex _ _ rfl hH, t1, t2, F2, _, s2.fH, .cons hx2 (.cons hy .nil), ?_⟩
      cases q : f [.obj "Office" ns ws, y] with
      | bad => rw [q] at h2; exact h2.elim
      | exc y' => rw [q] at h2; exact h2.elim
      | ok z =>
        rw [q] at h2
        cases z with
        | bl r =>
          intro F' H' v st hz
          have hz : v = .bl r := hz
          subst hz
          exact ⟨r, rfl, h2 F' H' (s2.step st) st.fF _ rfl⟩
        | _ => exact h2.elim
    | _ => cases c1
  · exact h2.elim
theorem se_eqO (F : FnOk X.prog X.w X.K X.mg X.base (L2.CX X.prog X.w) k g fd ps (spP X.K X.mg f)) (tk : Takes X W) (hr : Room (k + 1) X.A) (hb : Binds X.K fd ps []) (m : Meth X.K C "__eq__" g) (hC : X.mg "Office" = some (.ref C)) (ic : IsiC X.K X.mg) (t : OffEq X.K C)
    (ha : PE X a (tM X.K X.mg W ma)) (hb' : PE X b (tM X.K X.mg W mb)) (hm : behindInMarks .Eq b = false := by first | exact nobehind _ (by decide) (by decide) | rfl) : PE X (.Compare a [.Eq] [b] pos) (tM X.K X.mg W (mEqO f false ma mb)) :=
  PE_imp (pe_cmpR (op_eqO (E := fun _ _ _ => False) m.at_ m.fn ((F.raw hb .nil).imp fun vs H Q E h => by rw [List.append_nil]; exact h) (hr.mono (Nat.le_succ k)) (passes_call tk fun _ _ _ _ h => h.elim)) ha hb' hm) (tM_eqO ic hC t)
theorem se_neO (F : FnOk X.prog X.w X.K X.mg X.base (L2.CX X.prog X.w) k g fd ps (spP X.K X.mg f)) (tk : Takes X W) (hr : Room (k + 1) X.A) (hb : Binds X.K fd ps []) (m : Meth X.K C "__eq__" g) (hC : X.mg "Office" = some (.ref C)) (ic : IsiC X.K X.mg) (t : OffEq X.K C)
    (ha : PE X a (tM X.K X.mg W ma)) (hb' : PE X b (tM X.K X.mg W mb)) (hm : behindInMarks .NotEq b = false := by first | exact nobehind _ (by decide) (by decide) | rfl) : PE X (.Compare a [.NotEq] [b] pos) (tM X.K X.mg W (mEqO f true ma mb)) :=
  PE_imp (pe_cmpR (op_neO (E := fun _ _ _ => False) t (ic C hC).hm m.at_ m.fn ((F.raw hb .nil).imp fun vs H Q E h => by rw [List.append_nil]; exact h) hr (passes_call tk fun _ _ _ _ h => h.elim)) ha hb' hm) (tM_eqO ic hC t)
/-- as tests -/
theorem tT_eqO {m : ME} {t : TE} (h : ∀ σ H Q, tM X.K X.mg W m σ H Q → t σ H Q) : ∀ σ H Q, tMT X.K X.mg W (mTst m) σ H Q → tTest t σ H Q :=
  fun σ H Q q => h σ H _ (tMT_tst (X := X) (W := W) (f := fun _ _ => fun _ _ _ => True) σ H Q q)
theorem st_eqO (F : FnOk X.prog X.w X.K X.mg X.base (L2.CX X.prog X.w) k g fd ps (spP X.K X.mg f)) (tk : Takes X W) (hr : Room (k + 1) X.A) (hb : Binds X.K fd ps []) (m : Meth X.K C "__eq__" g) (hC : X.mg "Office" = some (.ref C)) (ic : IsiC X.K X.mg) (t : OffEq X.K C)
    (ha : PE X a (tM X.K X.mg W ma)) (hb' : PE X b (tM X.K X.mg W mb)) (hm : behindInMarks .Eq b = false := by first | exact nobehind _ (by decide) (by decide) | rfl) : PT X (.Compare a [.Eq] [b] pos) (tMT X.K X.mg W (mTst (mEqO f false ma mb))) :=
  PT_imp (pt_cmpR (op_eqO (E := fun _ _ _ => False) m.at_ m.fn ((F.raw hb .nil).imp fun vs H Q E h => by rw [List.append_nil]; exact h) (hr.mono (Nat.le_succ k)) (passes_call tk fun _ _ _ _ h => h.elim)) ha hb' hm) (tT_eqO (tM_eqO ic hC t))
theorem st_neO (F : FnOk X.prog X.w X.K X.mg X.base (L2.CX X.prog X.w) k g fd ps (spP X.K X.mg f)) (tk : Takes X W) (hr : Room (k + 1) X.A) (hb : Binds X.K fd ps []) (m : Meth X.K C "__eq__" g) (hC : X.mg "Office" = some (.ref C)) (ic : IsiC X.K X.mg) (t : OffEq X.K C)
    (ha : PE X a (tM X.K X.mg W ma)) (hb' : PE X b (tM X.K X.mg W mb)) (hm : behindInMarks .NotEq b = false := by first | exact nobehind _ (by decide) (by decide) | rfl) : PT X (.Compare a [.NotEq] [b] pos) (tMT X.K X.mg W (mTst (mEqO f true ma mb))) :=
  PT_imp (pt_cmpR (op_neO (E := fun _ _ _ => False) t (ic C hC).hm m.at_ m.fn ((F.raw hb .nil).imp fun vs H Q E h => by rw [List.append_nil]; exact h) hr (passes_call tk fun _ _ _ _ h => h.elim)) ha hb' hm) (tT_eqO (tM_eqO ic hC t))
/-- the class by its name -/
theorem se_glo {x : Str} {u : Addr} {p : Pos} (hg : Gl X x) (hm : X.mg x = some (.ref u)) (hd : (x == ("__debug__" : Str)) = false := by decide) : PE X (.Name x p) (tOpd X.K X.mg W (.c (.glo x))) := by
  refine PE_imp (pe_glob (v := .ref u) hg hm rfl hd) fun σ H Q ⟨B, F, env, s, h⟩ => ?_
  exact h F H s (Ex.refl F) (.ref u) ⟨u, rfl, hm⟩
end
end Mi

set_option Elab.async false
set_option linter.all false
set_option maxRecDepth 100000
set_option maxHeartbeats 2000000
namespace PySem
open Sem (wp)
/-- enumerate(v), v told by how its iterator begins -/
theorem mi_enum_new {v : Value} {o : Obj} {T : Heap → Prop} (B : Begins v o T) :
    Meets (Builtin.«enumerate.__new__» ⟨[.type "enumerate", v], []⟩) (fun _ R s => T s.heap ∧ R (.ok (.ret (.ref (s.heap.push o).objs.size)))
      { s with heap := (s.heap.push o).push { cls := .type "enumerate", data := .fields #[.none, .bool false, .ref s.heap.objs.size, rawInt 0, .none, .none] } }) :=
  .of_wp fun prog w A R s h => by
    obtain ⟨hh, gg, dd, tt, oo⟩ := s
    obtain ⟨h1, h2⟩ := h
    have hsub := sub_enumerate
    have walk : ∀ {A' : Around} {E Q : Value → Shared → Prop}, Q (.ref hh.objs.size) ⟨hh.push o, gg, dd, tt, oo⟩ → wpAny (model prog w) A' (pyIter v) Q E ⟨hh, gg, dd, tt, oo⟩ :=
      fun q => B.iter prog w _ _ ⟨hh, gg, dd, tt, oo⟩ _ h1 q
    wp_walk using walk
    refine wpAny_stack_any fun st => wpAny_pure ?_
    split
    · rename_i c _ _ _ _ _
      cases (c == Value.type "enumerate")
      · wp_walk using walk; exact ⟨_, rfl, h2⟩
      · wp_walk using walk; exact ⟨_, rfl, h2⟩
    · wp_walk using walk; exact ⟨_, rfl, h2⟩
theorem mi_enum_call {prog : Program} {w : World} {A : Around} {E : Value → Shared → Prop} {s : Shared} {v : Value} {o : Obj} {T : Heap → Prop} {Q : Value → Shared → Prop} (B : Begins v o T) (h1 : T s.heap)
    (h : ∀ g, IsEnum g (s.heap.objs.size + 1) s.heap.objs.size 0 .none → g.get? s.heap.objs.size = some o → (∀ b u, s.heap.get? b = some u → g.get? b = some u) → Q (.ref (s.heap.objs.size + 1)) { s with heap := g }) :
    wpAny (model prog w) A (call (.type "enumerate") [v]) Q E s := by
  refine callType_new F.called_enumerate (by decide) (F.typeCall_enumerate_1 _) (F.newCall_enumerate_1 _) (fun obj => F.args_object_init_2 obj _) F.entry_enumerate_new (mi_enum_new B) ⟨h1, ?_⟩
  have size1 : (s.heap.push o).objs.size = s.heap.objs.size + 1 := Heap.size_push ..
  show _ ∧ _
  rw [size1]
  have en : IsEnum ((s.heap.push o).push { cls := .type "enumerate", data := .fields #[.none, .bool false, .ref s.heap.objs.size, rawInt 0, .none, .none] }) (s.heap.objs.size + 1) s.heap.objs.size 0 .none := by
    have q := Heap.get?_push_size (s.heap.push o) (o := { cls := .type "enumerate", data := .fields #[.none, .bool false, .ref s.heap.objs.size, rawInt 0, .none, .none] }) rfl
    rw [size1] at q
    exact q
  exact ⟨⟨_, en, rfl⟩, h _ en (Heap.get?_push_of_some _ (Heap.get?_push_size _ B.free)) fun b u x => Heap.get?_push_of_some _ (Heap.get?_push_of_some _ x)⟩
end PySem
namespace Mi
open PySem PySem.Spec PyProof.Rows L2

/-! ## enumerate(a tuple): each item in a new pair -/
def Iet (K : PySem.W.Frag) (a : Addr) : It where
  go := fun i H => ∃ (xs : List V) (x : V), SqT K H a xs ∧ xs[i]? = some x
  yld := fun i H v H' => ∃ T x, v = .ref T ∧ H T = none ∧ H' = upd H T (.tup [.int (i : Nat), x]) ∧ ∀ xs, SqT K H a xs → xs[i]? = some x
  stop := fun i H => ∃ xs : List V, SqT K H a xs ∧ xs.length ≤ i
theorem turn_enumT {P : Program} {w : World} {K : PySem.W.Frag} {elts : List Expr} {kk : Nat} {tpos : Pos} (a e it : Addr) (hai : a ≠ it) (hae : e ≠ a) :
    Turn P w K (.Tuple elts kk tpos) (Iet K a) [e, it] e (fun i h => (∃ old, IsEnum h e it ((i : Nat) : Int) old) ∧ h.IsTupleIter it a i ∧ e ≠ it) where
  mem := by simp
  obj := fun i h st b hb => by
    obtain ⟨⟨old, he⟩, ⟨o, ho, hc, hd⟩, _⟩ := st
    rcases List.mem_cons.mp hb with z | z
    · subst z; exact ⟨_, he, fun v q => nomatch q⟩
    · have z : b = it := by simpa using z
      subst z; exact ⟨o, ho, fun v q => by rw [hd] at q; cases q⟩
  keep := fun i h h' st k => by
    obtain ⟨⟨old, he⟩, hi, hne⟩ := st
    exact ⟨⟨old, k e (by simp) _ he⟩, hi.at fun o q => k it (by simp) o q, hne⟩
  item := by
    intro X hP hw hK hc i pins s σ H E I hf st hg
    subst hP; subst hw; subst hK
    obtain ⟨⟨old, he⟩, hit, hne⟩ := st
    obtain ⟨xs, x, hq, hx⟩ := hg
    obtain ⟨its, rv, pt, hz⟩ := I.tuple hq
    obtain ⟨u, hu, ru⟩ := rv.get hx
    have pt : s.heap.IsTuple a its.toArray := pt
    have lte : e < s.heap.objs.size := Heap.lt_size he
    have lti : it < s.heap.objs.size := by obtain ⟨_, q, _⟩ := hit; exact Heap.lt_size q
    have lti2 : i < its.toArray.size := by
      have := (List.getElem?_eq_some_iff.mp hu).1
      simpa using this
    refine wpAny_pyNext_enum_itemC (Draws.tuple (show X.A.in1.handled = none from I.ok.hd hc) it a hai its.toArray) he ⟨hit, pt⟩ lti2 hne (by simp [hne, hae]) fun y g tk hy ho st' hT hsz hk => ?_
    have hy : y = u := by
      have hy : its.toArray[i]? = some y := hy
      rw [show its.toArray[i]? = its[i]? by simp, hu] at hy
      exact (Option.some.inj hy).symm
    subst hy
    refine ⟨_, rfl, wpAny_letOwnedTupleGo_enum (s := { s with heap := g, toks := tk + 1 }) ho fun g2 he' sb => ?_⟩
    have hT2 : g2.get? s.heap.objs.size = some { cls := .type "tuple", data := .seq #[.int i tk, y] } := (sb.2 _ (Nat.ne_of_gt lte)).trans hT
    have new : ObjOk X.prog X.w (upd H s.heap.objs.size (.tup [.int (i : Nat), x])) g2 s.heap.objs.size (.tup [.int (i : Nat), x]) :=
      ⟨show 2 ≤ sizeLine by decide, [.int i tk, y], .cons ⟨_, rfl⟩ (.cons ru .nil), ⟨_, hT2, rfl, _, rfl⟩⟩
    have I1 : Inv X pins σ (upd H s.heap.objs.size (.tup [.int (i : Nat), x])) { s with heap := g2, toks := tk + 1 } :=
      I.turnedNew (ch := [e, it]) (fun b ob hb q => (sb.2 b fun z => hb (by rw [z]; simp)).trans (hk b ob (fun z => hb (by rw [z]; simp)) (fun z => hb (by rw [z]; simp)) q)) hf (Nat.le_refl _) new
    refine ⟨.ref s.heap.objs.size, _, I1, rfl, ⟨_, x, rfl, I.hok.fresh (Nat.le_refl _), rfl, fun ys hys => by rw [I.tuple_inj hys hq]; exact hx⟩, ⟨⟨y, ?_⟩, st'.1.at fun o q => (sb.2 it (Ne.symm hne)).trans q, hne⟩, fun b hb => ?_⟩
    · rw [show ((i + 1 : Nat) : Int) = (i : Int) + 1 by omega]
      exact he'
    · have ltb : b < s.heap.objs.size := by
        rcases List.mem_cons.mp hb with z | z
        · subst z; exact lte
        · have z : b = it := by simpa using z
          subst z; exact lti
      rw [upd_ne (Nat.ne_of_lt ltb)]
      exact (hf b hb).1
  done := by
    intro X hP hw hK hc i pins s σ H E I hf st hg
    subst hP; subst hw; subst hK
    obtain ⟨⟨old, he⟩, hit, hne⟩ := st
    obtain ⟨xs, hq, hx⟩ := hg
    obtain ⟨its, rv, pt, hz⟩ := I.tuple hq
    obtain ⟨g0, g1, g2, g3, g4, g5⟩ := hf it (by simp)
    have pt : s.heap.IsTuple a its.toArray := pt
    have hl := rv.length
    have fin : ∀ h', Heap.ExtBut it s.heap h' → (none : Option Value) = none ∧ Inv X pins σ H { s with heap := h' } := fun h' eb => ⟨rfl, I.turned (t' := s.toks) (fun b o hb q => eb b o hb q) g0 g1 g3 g4 g5⟩
    have hT : s.TypeIs (.ref e) "enumerate" := ⟨_, he, rfl⟩
    unfold pyNext
    refine wpAny_bind (wpAny_attempt (wpAny_callSpecial?_slot (name := Str.ofString "__next__") hT F.slot_enumerate_next (wpAny_call_entry F.slot_enumerate_next hT F.entry_enumerate_next ?_ (F.args_enumerate_next_1 _))))
    show wpAny _ _ (field (.ref e) 2 >>= _) _ _ _
    refine wpAny_bind (wpAny_field he rfl (x := .ref it) rfl (wpAny_bind (wpAny_nextOf_tuple_end (show X.A.in1.in1.handled = none from I.ok.hd hc) hit pt (by simp; omega) fun h' x he' hx' => ?_)))
    obtain ⟨o, ho, hcl⟩ := hx'
    refine wpAny_bind (wpAny_isInstance (T := "StopIteration") (b := true) ⟨o, ho, hcl⟩ isSubtype_stop ?_)
    exact wpAny_pure (fin _ he')
  self := fun A i s Q E st h => by
    obtain ⟨⟨_, he⟩, _⟩ := st
    exact wpAny_pyIter_enum he h
def iEnumT (K : PySem.W.Frag) (ta : TA) : TI := fun σ H R => ta σ H fun vs H1 => ∃ a xs, vs = [V.ref a] ∧ SqT K H1 a xs ∧ R (Iet K a) H1
theorem pi_enumT {X : Cx} {e : Expr} {ta : TA} {p pos tpos : Pos} {elts : List Expr} {kk : Nat} (hg : Gl X "enumerate") (hm : X.mg "enumerate" = none) (ha : PA X [e] ta) (hs : starEach [e] X.env = [(false, eval e X.env)] := by rfl) :
    PI X (.Tuple elts kk tpos) (.Call (.Name "enumerate" p) [e] [] pos) (iEnumT X.K ta) := by
  refine ⟨fun pins s σ H R I h => ?_⟩
  refine Call_ (ld_blt I hg hm boot_enumerate (PyProof.Rows.callWith_type1 (thn (ha.run pos pins s σ H _ I h) fun us s1 ⟨vs, H1, I1, r1, a, xs, ev, hq, q⟩ => ?_) hs rfl))
  subst ev
  cases r1 with
  | cons r rr =>
    cases rr
    cases r
    obtain ⟨its, rv, pt, hz⟩ := I1.tuple hq
    have pt : s1.heap.IsTuple a its.toArray := pt
    have lta : a < s1.heap.objs.size := by obtain ⟨_, z, _⟩ := pt; exact Heap.lt_size z
    refine mi_enum_call (begins_tuple a its.toArray) pt fun g he' ho hk => wpAny_pyIter_enum he' ?_
    have I2 : Inv X pins σ H1 { s1 with heap := g } := I1.kept (t' := s1.toks) hk
    refine ⟨s1.heap.objs.size + 1, [s1.heap.objs.size + 1, s1.heap.objs.size], _, _, H1, rfl, I2, turn_enumT a (s1.heap.objs.size + 1) s1.heap.objs.size (Nat.ne_of_lt lta) (fun z => Nat.ne_of_lt (Nat.lt_succ_of_lt lta) z.symm), ⟨⟨.none, he'⟩, ⟨_, ho, rfl, rfl⟩, Nat.succ_ne_self _⟩, fun b hb => ?_, q⟩
    have hle : s1.heap.objs.size ≤ b := by
      rcases List.mem_cons.mp hb with z | z
      · rw [z]; exact Nat.le_add_right _ _
      · have z : b = s1.heap.objs.size := by simpa using z
        rw [z]; exact Nat.le_refl _
    exact I1.fpOk hle (I1.hok.fresh hle)
end Mi

set_option Elab.async false
set_option linter.all false
set_option maxRecDepth 100000
set_option maxHeartbeats 2000000
namespace Mi
open PySem PySem.Spec PyProof.Rows L2

/-! ## range(a, b, c) -/
/-- from lo on, each c more -/
def rngC (lo c : Int) (n : Nat) : List D := (List.range n).map fun (i : Nat) => .int (lo + (i : Int) * c)
def mRange3 (a b c : Opd) : MA := fun env => (runL [a, b, c] env).bind fun (xs, e1) => match getL [a, b, c] xs e1 with
  | some [.int i, .int j, .int k] => if -lim ≤ i ∧ i ≤ lim ∧ -lim ≤ j ∧ j ≤ lim ∧ k = -1 then .ok (rngC i (-1) (i - j).toNat, e1) else .bad
  | _ => .bad
theorem rngC_length {lo c : Int} {n : Nat} : (rngC lo c n).length = n := by simp [rngC]
theorem rngC_get {lo c : Int} {n i : Nat} (h : i < n) : (rngC lo c n)[i]? = some (.int (lo + (i : Int) * c)) := by simp [rngC, h]
theorem itd_rngC {K : PySem.W.Frag} {mg : MG} {F : Hp} {lo c : Int} {n : Nat} : ItD K mg (Itc lo c n) (rngC lo c n) F := by
  refine ⟨_, _, by rw [rngC_length]; exact walk_rangeC, fun _ _ => trivial, fun F1 i H x H' hi e1 e2 y => ?_⟩
  obtain ⟨rfl, rfl⟩ := y
  rw [rngC_length] at hi
  exact ⟨F1, _, rngC_get hi, Step.refl e2, rfl⟩
section
variable {X : Cx} {W : WX} {tg e a b c : Expr} {m : ME}
theorem si_range3 {oa ob oc : Opd} {p pos : Pos} (hg : Gl X "range") (hm : X.mg "range" = none) (ha : PE X a (tOpd X.K X.mg W oa)) (hb : PE X b (tOpd X.K X.mg W ob)) (hc : PE X c (tOpd X.K X.mg W oc)) (hs : starEach [a, b, c] X.env = [(false, eval a X.env), (false, eval b X.env), (false, eval c X.env)] := by rfl)
    (hs2 : starEach [b, c] X.env = [(false, eval b X.env), (false, eval c X.env)] := by rfl) (hs3 : starEach [c] X.env = [(false, eval c X.env)] := by rfl) (hpl : (backTo pos (starEach [b, c] X.env)).any (·.1) = false := by rfl) :
    PI X tg (.Call (.Name "range" p) [a, b, c] [] pos) (tMI X.K X.mg W (mRange3 oa ob oc)) := by
  refine PI_imp (pi_range3 hg hm (sa_cons ha (sa_cons hb (sa_cons hc sa_nil hs3) (by rw [hs2, hs3])) (by rw [hs, hs2])) (by rw [hs, hs2]) hpl) fun σ H R ⟨B, F, env, s, q⟩ => ?_
  refine ⟨B, F, env, s, (Pst.bind q).imp fun x env1 F1 H1 s1 e1 h1 vs hv => ?_⟩
  simp only at h1
  cases g : getL [oa, ob, oc] x env1 with
  | none => rw [g] at h1; exact h1.elim
  | some ds =>
    rw [g] at h1
    have hf := hv.fb s1 g
    split at h1
    · rename_i i j k eq
      cases eq
      split at h1
      · rename_i hj
        obtain ⟨j1, j2, j3, j4, rfl⟩ := hj
        obtain ⟨v, r, rfl, f1, w, r2, rfl, f2, z, r3, rfl, f3, rfl⟩ := hf
        have f1 : v = .int i := f1
        have f2 : w = .int j := f2
        have f3 : z = .int (-1) := f3
        subst f1 f2 f3
        have l := limI
        exact ⟨i, j, -1, (i - j).toNat, rfl, RgC.neg (by omega) (by omega) (by omega) (by omega), h1 F1 H1 s1 (Ex.refl F1) _ itd_rngC⟩
      · exact h1.elim
    · exact h1.elim
end

/-! ## enumerate -/
def enD (ds : List D) : List D := ds.zipIdx.map fun p => .tup [.int (p.2 : Int), p.1]
def mEnum (m : ME) : MA := fun env => (m env).bind fun (d, e1) => match d with
  | .lst ds => .ok (enD ds, e1)
  | .tup ds => .ok (enD ds, e1)
  | _ => .bad
theorem enD_length {ds : List D} : (enD ds).length = ds.length := by simp [enD]
theorem enD_get {ds : List D} {i : Nat} {d : D} (h : ds[i]? = some d) : (enD ds)[i]? = some (.tup [.int (i : Int), d]) := by
  unfold enD
  rw [List.getElem?_map, List.getElem?_zipIdx, h]
  simp
theorem walk_enumT {K : PySem.W.Frag} {a : Addr} {xs : List V} : Walk (Iet K a) xs.length (fun H => SqT K H a xs) (YPair (fun i => some (.int (i : Nat))) (fun i => xs[i]?)) where
  goes := fun i _ hi q => ⟨xs, xs[i], q, by simp [hi]⟩
  stops := fun _ q => ⟨xs, q, Nat.le_refl _⟩
  yields := fun i H v H' _ q y => by
    obtain ⟨T, x, h1, h2, h3, h4⟩ := y
    exact ⟨T, .int (i : Nat), x, h1, h2, h3, rfl, h4 xs q⟩
theorem pair_step {K : PySem.W.Frag} {mg : MG} {F F1 H H' : Hp} {ds : List D} {vs : List V} {i : Nat} {x : V} (hd : FzL K mg F ds vs) (e1 : Ex F F1) (e2 : Ex F1 H) (y : YPair (fun i => some (.int (i : Nat))) (fun i => vs[i]?) i H x H') :
    ∃ F2 d, (enD ds)[i]? = some d ∧ Step [] F1 H F2 H' ∧ Fz K mg F2 d x := by
  obtain ⟨T, u, v, rfl, hT, rfl, hu, hv⟩ := y
  cases hu
  obtain ⟨d, e, f⟩ := hd.getV hv
  have st := Step.laid (o := .tup [.int (i : Nat), v]) e2 hT
  exact ⟨_, _, enD_get e, st, T, _, rfl, upd_same, .cons rfl (.cons ((f.ex e1).ex st.fF) .nil)⟩
section
variable {X : Cx} {W : WX} {e : Expr} {m : ME} {p pos tpos : Pos} {elts : List Expr} {kk : Nat}
theorem si_enum (hg : Gl X "enumerate") (hm : X.mg "enumerate" = none) (h : PE X e (tM X.K X.mg W m)) (hs : starEach [e] X.env = [(false, eval e X.env)] := by rfl) :
    PI X (.Tuple elts kk tpos) (.Call (.Name "enumerate" p) [e] [] pos) (tMI X.K X.mg W (mEnum m)) := by
  refine PI_imp (PI_or (pi_enum hg hm (pa_cons h pa_nil hs) hs) (pi_enumT hg hm (pa_cons h pa_nil hs) hs)) fun σ H R ⟨B, F, env, s, q⟩ => ?_
  have q2 := Pst.bind q
  cases r : m env with
  | bad => rw [r] at q2; exact q2.elim
  | exc x e1 => rw [r] at q2; exact .inl ⟨B, F, env, s, by rw [r]; exact q2⟩
  | ok pr =>
    obtain ⟨d, e1⟩ := pr
    rw [r] at q2
    cases d with
    | lst ds =>
      refine .inl ⟨B, F, env, s, ?_⟩
      rw [r]
      intro F1 H1 s1 ex1 v hv
      obtain ⟨a, vs, rfl, h1, h2⟩ := hv
      refine ⟨a, vs, rfl, s1.fH.sqL h1, q2 F1 H1 s1 ex1 F1 H1 s1 (Ex.refl F1) _ ⟨_, _, ?_, fun H e => e.sqL h1, fun F2 i H x H' hi e1 e2 y => pair_step h2 e1 e2 y⟩⟩
      rw [enD_length, h2.length]
      exact walk_enum
    | tup ds =>
      refine .inr ⟨B, F, env, s, ?_⟩
      rw [r]
      intro F1 H1 s1 ex1 v hv
      obtain ⟨a, vs, rfl, h1, h2⟩ := hv
      have hT : ∀ H, Ex F1 H → SqT X.K H a vs := fun H e => .inl (.inl (e.ex _ _ rfl h1))
      refine ⟨a, vs, rfl, hT H1 s1.fH, q2 F1 H1 s1 ex1 F1 H1 s1 (Ex.refl F1) _ ⟨_, _, ?_, fun H e => hT H e, fun F2 i H x H' hi e1 e2 y => pair_step h2 e1 e2 y⟩⟩
      rw [enD_length, h2.length]
      exact walk_enumT
    | _ =>
      refine .inl ⟨B, F, env, s, ?_⟩
      rw [r]
      intro F1 H1 s1 ex1
      exact (q2 F1 H1 s1 ex1).elim
end
/-! ## xs[::-1] -/
def dRev : D → Option D
  | .lst ds => some (.lst ds.reverse)
  | _ => none
theorem FzL.rev {K : PySem.W.Frag} {mg : MG} {F : Hp} : ∀ {ds : List D} {vs : List V}, FzL K mg F ds vs → FzL K mg F ds.reverse vs.reverse
  | [], vs, h => by
    have h : vs = [] := h
    subst h; exact .nil
  | d :: ds, vs, h => by
    obtain ⟨v, r, rfl, h1, h2⟩ := h
    rw [List.reverse_cons, List.reverse_cons]
    exact (FzL.rev h2).app (.cons h1 .nil)
theorem se_rev {X : Cx} {W : WX} {e : Expr} {o : Opd} {k : Nat} {p1 p2 p3 pos : Pos} (he : PE X e (tOpd X.K X.mg W o)) : PE X (.Subscript e (.Slice none none (some (.UnaryOp .USub (.Constant (.int 1) k p1) p2)) p3) pos) (tM X.K X.mg W (mUn dRev o)) := by
  refine PE_imp (pe_revL he) fun σ H Q h => ?_
  have ho : UnD X.K X.mg (fun x H Q => ∃ a xs, x = .ref a ∧ SqL X.K H a xs ∧ ∀ p, H p = none → Q (.ref p) (upd H p (.lst xs.reverse))) dRev := fun F H x vx z Q ex hx hz q => by
    cases x with
    | lst ds =>
      cases hz
      obtain ⟨a, vs, rfl, h1, h2⟩ := hx
      refine ⟨a, vs, rfl, h1, fun p hp => ?_⟩
      have st := Step.laid (o := .lst vs.reverse) ex hp
      exact q _ _ _ st ⟨p, _, rfl, .inl (.inl upd_same), (h2.ex st.fF).rev⟩
    | _ => cases hz
  exact tM_un ho σ H Q h
end Mi

set_option Elab.async false
set_option linter.all false
set_option maxRecDepth 100000
set_option maxHeartbeats 2000000
namespace Mi
open PySem PySem.Spec PyProof.Rows L2

/-! ## a new thing that is being filled, whatever it is -/
def Base.fill (B : Base) (D : Addr) (o : HO) : Base := ⟨B.F0, upd B.H0 D o, B.io⟩
section
variable {K : PySem.W.Frag} {mg : MG} {F H : Hp} {B : Base} {σ : L2.St} {env : Env} {D : Addr} {o : HO}
theorem Sta.toFill (s : Sta K mg B F env σ H) (hF : F D = none) (h0 : B.H0 D = none) (hio : D ∉ B.io) (hn : ∀ i, ¬ OwnAt env σ i D) (hH : H D = some o) : Sta K mg (B.fill D o) F env σ H where
  f0 := s.f0
  fH := s.fH
  new := fun a h1 h2 => by
    have h1 : upd B.H0 D o a ≠ none := h1
    by_cases z : a = D
    · subst z; exact hF
    · rw [upd_ne z] at h1; exact s.new a h1 h2
  kee := fun a u h1 h2 => by
    have h1 : upd B.H0 D o a = some u := h1
    by_cases z : a = D
    · subst z; rw [upd_same] at h1; cases h1; exact hH
    · rw [upd_ne z] at h1; exact s.kee a u h1 h2
  ios := s.ios
  len := s.len
  sl := fun i x e => by
    have q := s.sl i x e
    have far : ∀ p, slotV σ i = some (.ref p) → x.owned = true → B.H0 p = none → upd B.H0 D o p = none := fun p e1 ho e2 => by
      have ne : p ≠ D := fun z => by subst z; exact hn i ⟨look_of e1, x, e, ho⟩
      rw [upd_ne ne]; exact e2
    cases x with
    | dead => trivial
    | fz d => exact q
    | ol ds => obtain ⟨p, vs, q0, q1, q2, q3, q4⟩ := q; exact ⟨p, vs, q0, q1, far p q0 rfl q2, q3, q4⟩
    | od t ks ws => obtain ⟨p, vs, q0, q1, q2, q3, q4⟩ := q; exact ⟨p, vs, q0, q1, far p q0 rfl q2, q3, q4⟩
    | io ds => exact q
    | xc _ _ => exact q
  own := s.own
  ioh := fun a ha => by
    show upd B.H0 D o a ≠ none
    rw [upd_ne fun z => hio (by rw [← z]; exact ha)]
    exact s.ioh a ha
theorem Sta.ofFill (s : Sta K mg (B.fill D o) F env σ H) (f0 : B.F0 D = none) (h0 : B.H0 D = none) (hio : D ∉ B.io) : Sta K mg B F env σ H ∧ F D = none ∧ (∀ i, ¬ OwnAt env σ i D) ∧ H D = some o := by
  have hD : (B.fill D o).H0 D = some o := upd_same
  have away : ∀ p, (B.fill D o).H0 p = none → B.H0 p = none := fun p h => by
    have h : upd B.H0 D o p = none := h
    by_cases z : p = D
    · subst z; exact h0
    · rw [upd_ne z] at h; exact h
  have ne_of : ∀ a, B.H0 a ≠ none → a ≠ D := fun a h z => h (by rw [z]; exact h0)
  refine ⟨⟨s.f0, s.fH, fun a h1 h2 => s.new a (by show upd B.H0 D o a ≠ none; rw [upd_ne (ne_of a h1)]; exact h1) h2, fun a u h1 h2 => s.kee a u (by show upd B.H0 D o a = _; rw [upd_ne (ne_of a (by rw [h1]; simp))]; exact h1) h2, s.ios, s.len, fun i x e => ?_, s.own, fun a ha => ?_⟩, s.new D (by rw [hD]; simp) f0, fun i hi => ?_, s.kee D _ hD hio⟩
  · have q := s.sl i x e
    cases x with
    | dead => trivial
    | fz d => exact q
    | ol ds => obtain ⟨p, vs, q0, q1, q2, q3, q4⟩ := q; exact ⟨p, vs, q0, q1, away p q2, q3, q4⟩
    | od t ks ws => obtain ⟨p, vs, q0, q1, q2, q3, q4⟩ := q; exact ⟨p, vs, q0, q1, away p q2, q3, q4⟩
    | io ds => exact q
    | xc _ _ => exact q
  · have h : upd B.H0 D o a ≠ none := s.ioh a ha
    rw [upd_ne fun z => hio (by rw [← z]; exact ha)] at h
    exact h
  · obtain ⟨h1, x, h2, h3⟩ := hi
    obtain ⟨q, hq, _, _, h4⟩ := s.ownAddr h2 h3
    have e1 := hq.1
    rw [h1] at e1
    have e2 : D = q := by injection (Option.some.inj e1) with e2; injection e2
    subst e2
    rcases h4 with h4 | h4
    · rw [hD] at h4; cases h4
    · exact hio h4
end
/-! ## {k: v for .. in .. if ..} -/
def dcGo (vs : List Nat) (b : Bd) (t : MT) (mk mv : ME) : List D → List D → List D → Env → Rs ((List D × List D) × Env)
  | [], ks, ws, env => .ok ((ks, ws), env)
  | d :: ds, ks, ws, env => match b d env with
    | none => .bad
    | some e1 => (noX (t e1)).bind fun (c, e2) => if c = true then (noX (mk e2)).bind fun (x, e3) => (noX (mv e3)).bind fun (y, e4) =>
        if ws.length < lim then match dicPut false ks ws x y with
          | some (ks', ws') => dcGo vs b t mk mv ds ks' ws' (killAll vs e4)
          | none => .bad
        else .bad
      else dcGo vs b t mk mv ds ks ws (killAll vs e2)
def mDc (vs : List Nat) (it : MA) (b : Bd) (t : MT) (mk mv : ME) : ME := fun env => (it env).bind fun (ds, e1) => (dcGo vs b t mk mv ds [] [] (killAll vs e1)).bind fun (p, e2) => .ok (.dic false p.1 p.2, e2)
theorem put_false {K : PySem.W.Frag} {mg : MG} {F : Hp} {ks ws ks' ws' : List D} {x y : D} {kk : List Key} {us : List V} {v : V} (p1 : keysOf ks = some kk) (p2 : kk.length = us.length) (hw : FzL K mg F ws us) (hy : Fz K mg F y v) (h : dicPut false ks ws x y = some (ks', ws')) :
    ∃ k kk' us', keyOf x = some k ∧ keysOf ks' = some kk' ∧ kk'.length = us'.length ∧ FzL K mg F ws' us' ∧ putK (kk.zip us) k v = kk'.zip us' := by
  unfold dicPut at h
  simp only at h
  cases q2 : keyOf x with
  | none => rw [p1, q2] at h; cases h
  | some k =>
    rw [p1, q2] at h
    simp only [Option.some.injEq] at h
    obtain ⟨us', g1, g2, g3⟩ := put_zip (k := k) (x := x) (ks := ks) p2 hw hy
    refine ⟨k, _, us', rfl, ?_, g2, ?_, g1⟩
    · by_cases hh : hasK kk k = true
      · rw [if_pos hh] at h ⊢; cases h; exact p1
      · rw [if_neg hh] at h ⊢; cases h; exact keysOf_app p1 q2
    · by_cases hh : hasK kk k = true
      · rw [if_pos hh] at h g3; cases h; exact g3
      · rw [if_neg hh] at h g3; cases h; exact g3
theorem dc_it {J : It} {n : Nat} {G : Hp → Prop} {Y : Nat → Hp → V → Hp → Prop} (w : Walk J n G Y) {g : TG} {tt : TT} {tk tv : TE} {vs : List Nat} {σ : L2.St} {H1 : Hp} {D : Addr} {Qd : Hp → Prop} (Pv : Nat → Hp → Prop) (h0 : Pv 0 H1) (hG : ∀ i H, i ≤ n → Pv i H → G H)
    (hs : ∀ i x H H', i < n → Pv i H → Y i H x H' → g x (wipe σ vs) H' fun σ2 H2 => wipe σ2 vs = wipe σ vs ∧ tt σ2 H2 fun b H3 =>
      if b = true then tk σ2 H3 fun y H4 => tv σ2 H4 fun z H5 => ∃ kvs k, y = kV k ∧ H5 D = some (.dK kvs) ∧ kvs.length < sizeLine ∧ Pv (i + 1) (upd H5 D (.dK (putK kvs k z))) else Pv (i + 1) H3) (hd : ∀ H, Pv n H → Qd H) :
    ∃ W : Nat → Nat → Hp → Prop, (∃ m, W 0 m H1) ∧ ∀ i m H, W i m H →
      (J.stop i H ∧ Qd H) ∨ (J.go i H ∧ ∃ Nx : Hp → Prop, (∀ H', Nx H' → ∃ m', m' < m ∧ W (i + 1) m' H') ∧ ∀ x H', J.yld i H x H' → g x (wipe σ vs) H' fun σ2 H2 => wipe σ2 vs = wipe σ vs ∧ tt σ2 H2 fun b H3 =>
        if b = true then tk σ2 H3 fun y H4 => tv σ2 H4 fun z H5 => ∃ kvs k, y = kV k ∧ H5 D = some (.dK kvs) ∧ kvs.length < sizeLine ∧ Nx (upd H5 D (.dK (putK kvs k z))) else Nx H3) := by
  refine ⟨fun i m H => (m = n - i ∧ i ≤ n) ∧ Pv i H, ⟨n, ⟨by simp, Nat.zero_le _⟩, h0⟩, ?_⟩
  rintro i m H ⟨⟨rfl, hi⟩, p⟩
  have q := hG i H hi p
  rcases Nat.lt_or_ge i n with hlt | hge
  · exact .inr ⟨w.goes i H hlt q, Pv (i + 1), fun H' p' => ⟨n - (i + 1), by omega, ⟨rfl, hlt⟩, p'⟩, fun x H' y => hs i x H H' hlt p (w.yields i H x H' hlt q y)⟩
  · obtain rfl : i = n := by omega
    exact .inl ⟨w.stops H q, hd H p⟩
theorem dc_read {K : PySem.W.Frag} {mg : MG} {W : WX} {it : MA} {g : TG} {b : Bd} {js vs : List Nat} {mt : MT} {mk mv : ME} (gd : GD K mg g b js) (hj : ∀ j ∈ js, j ∈ vs) :
    ∀ σ H Q, tM K mg W (mDc vs it b mt mk mv) σ H Q → tDc (tMI K mg W it) g (tMT K mg WF mt) (tM K mg WF mk) (tM K mg WF mv) vs σ H Q := by
  rintro σ H Q ⟨B, F, env, s, h⟩
  refine ⟨B, F, env, s, (Pst.bind h).imp fun ds env1 F1 H1 s1 e1 h1 J hJ D hD => ?_⟩
  simp only at h1
  have h1 := Pst.bind h1
  obtain ⟨G, Y, w, hG, hY⟩ := hJ
  obtain ⟨s2, a1, a2, a3, a4⟩ := s1.laidO (o := .dK []) hD
  have f0 : B.F0 D = none := by
    cases q : B.F0 D with
    | none => rfl
    | some u => rcases s1.f0.rd D u (.inl q) with z | ⟨_, z⟩ <;> rw [a1] at z <;> cases z
  have own0 : ∀ i, ¬ OwnAt (killAll vs env1) (wipe σ vs) i D := fun i ⟨p1, x, p2, p3⟩ => by
    rcases killAll_get p2 with ⟨_, rfl⟩ | ⟨hi, p2'⟩
    · cases p3
    · refine a4 i ⟨?_, x, p2', p3⟩
      have p1 : (slots (wipe σ vs))[i]? = some (some (.ref D)) := p1
      rw [wipe_get, if_neg hi] at p1
      exact p1
  refine dc_it w (fun i H' => ∃ F' env' ks ws kk us, Sta K mg (B.fill D (.dK (kk.zip us))) F' (killAll vs env') (wipe σ vs) H' ∧ Ex F1 F' ∧ keysOf ks = some kk ∧ kk.length = us.length ∧ FzL K mg F' ws us ∧
      Pst K mg W B F' σ (fun p env2 F2 H2 => Pst K mg W B F2 σ (fun d _ F' H' => ∀ v, Fz K mg F' d v → Q v H') (.ok (.dic false p.1 p.2, env2))) (dcGo vs b mt mk mv (ds.drop i) ks ws (killAll vs env')))
    ⟨F1, env1, [], [], [], [], (s2.wiped vs).toFill a1 a2 a3 own0 upd_same, Ex.refl F1, rfl, rfl, rfl, h1⟩
    (fun i H' _ ⟨F', env', ks, ws, kk, us, s', ex, _⟩ => hG H' (ex.trans (s'.ofFill f0 a2 a3).1.fH)) (fun i x H' H2 hi ⟨F', env', ks, ws, kk, us, s', ex, k1, k2, k3, hp⟩ y => ?_) (fun H' ⟨F', env', ks, ws, kk, us, s', ex, k1, k2, k3, hp⟩ => ?_)
  · obtain ⟨F2, d, hd, st, fz⟩ := hY F' i H' x H2 hi ex s'.fH y
    have ed : ds.drop i = d :: ds.drop (i + 1) := by
      rw [List.drop_eq_getElem_cons hi]
      rw [List.getElem?_eq_getElem hi] at hd
      cases hd; rfl
    rw [ed] at hp
    unfold dcGo at hp
    cases eb : b d (killAll vs env') with
    | none => rw [eb] at hp; exact hp.elim
    | some e2 =>
      rw [eb] at hp
      simp only at hp
      refine gd (B.fill D _) F2 (killAll vs env') (wipe σ vs) H2 d x e2 _ (s'.step st) fz eb fun σ3 s3 n3 => ⟨near_wipe n3 hj, ?_⟩
      refine ⟨B.fill D _, F2, e2, s3, ?_⟩
      have back : ∀ {F4 : Hp} {e4 : Env} {H4 : Hp} {o : HO}, Sta K mg (B.fill D o) F4 e4 σ3 H4 → Sta K mg (B.fill D o) F4 (killAll vs e4) (wipe σ vs) H4 := fun {F4 e4 H4 o} st4 =>
        (st4.killAll vs).dead_off n3.1.symm fun i hi => (n3.2 i fun z => hi (hj i z)).symm
      cases et : mt e2 with
      | bad => rw [et] at hp; exact hp
      | exc x1 e3 => rw [et] at hp; exact hp.elim
      | ok p =>
        obtain ⟨c, e3⟩ := p
        rw [et] at hp
        intro F3 H3 s4 ex3
        cases c with
        | false => exact ⟨F3, e3, ks, ws, kk, us, back s4, (ex.trans st.fF).trans ex3, k1, k2, (k3.ex st.fF).ex ex3, Pst.mono (st.fF.trans ex3) hp⟩
        | true =>
          show tM K mg WF mk σ3 H3 _
          refine ⟨_, F3, e3, s4, ?_⟩
          cases ek : mk e3 with
          | bad => simp [ek] at hp; exact hp.elim
          | exc x1 e5 => simp [ek, noX] at hp; exact hp.elim
          | ok pk =>
            obtain ⟨xd, e5⟩ := pk
            intro F4 H4 s5 ex4 xv hxv
            refine ⟨_, F4, e5, s5, ?_⟩
            simp only [noX_ok, Rs.bind_ok, if_true, ek] at hp
            cases em : mv e5 with
            | bad => rw [em] at hp; exact hp.elim
            | exc x1 e6 => rw [em] at hp; exact hp.elim
            | ok pv =>
              obtain ⟨yd, e6⟩ := pv
              rw [em] at hp
              intro F5 H5 s6 ex5 v hv
              simp only [noX_ok, Rs.bind_ok] at hp
              obtain ⟨o1, o2, o3, o4⟩ := s6.ofFill f0 a2 a3
              have hall : Ex F' F5 := ((st.fF.trans ex3).trans ex4).trans ex5
              split at hp
              · rename_i hl
                cases r : dicPut false ks ws xd yd with
                | none => rw [r] at hp; exact hp.elim
                | some pr =>
                  obtain ⟨ks', ws'⟩ := pr
                  rw [r] at hp
                  obtain ⟨k, kk', us', g1, g2, g3, g4, g5⟩ := put_false k1 k2 (k3.ex hall) hv r
                  refine ⟨_, k, keyOf_fz g1 hxv, o4, by rw [List.length_zip, k2, Nat.min_self, ← (k3.ex hall).length]; exact lim_lt hl, F5, e6, ks', ws', kk', us', ?_, ex.trans hall, g2, g3, g4, Pst.mono hall hp⟩
                  rw [g5]
                  have s7 := ex_mut (o := .dK (kk'.zip us')) o1 o2 a2 a3 o3 (fun fs z => by rw [o4] at z; cases z)
                  exact back (s7.toFill o2 a2 a3 o3 upd_same)
              · exact hp.elim
  · rw [List.drop_length] at hp
    obtain ⟨o1, o2, o3, o4⟩ := s'.ofFill f0 a2 a3
    have o5 : Sta K mg B F' (killAll vs env') σ H' := o1.dead_off (wipe_length σ vs).symm fun i hi => by rw [wipe_get, if_neg hi]
    have o6 : ∀ i, ¬ OwnAt (killAll vs env') σ i D := fun i ⟨p1, x, p2, p3⟩ => by
      rcases killAll_get p2 with ⟨_, rfl⟩ | ⟨hi, p2'⟩
      · cases p3
      · refine o3 i ⟨?_, x, p2, p3⟩
        show (slots (wipe σ vs))[i]? = _
        rw [wipe_get, if_neg hi]
        exact p1
    have q1 := hp F' H' o5 (Ex.refl F')
    obtain ⟨ez, s8⟩ := o5.freezeT o6 o2 a2 o4
    exact q1 _ H' s8 ez (.ref D) ⟨D, us, rfl, k3.ex ez, kk, k1, k2, .inl upd_same⟩
section
variable {X : Cx} {W : WX} {tg iter kx vx : Expr} {ifs : List Expr} {scope : Scope} {own : List (Str × Nat)} {pos : Pos} {it : MA} {g : TG} {b : Bd} {js : List Nat} {mt : MT} {mk mv : ME}
theorem se_dc {vs : List Nat} (hc : X.calm = true) (hN : X.N.Nodup) (hi : PI X tg iter (tMI X.K X.mg W it)) (ok : BlkOk X.N X.env.scope scope own) (gd : GD X.K X.mg g b js) (hj : ∀ j ∈ js, j ∈ own.map (·.2))
    (hg : ∀ (s : Shared) (H : Hp) (C : Addr) (cl : List (Str × Addr)) (fp : List Addr), PG (X.blk s H scope (compEnvC scope cl C X.env) fp) tg g) (ht : ∀ (s : Shared) (H : Hp) (C : Addr) (cl : List (Str × Addr)) (fp : List Addr), PTs (X.blk s H scope (compEnvC scope cl C X.env) fp) ifs (tMT X.K X.mg WF mt))
    (hk : ∀ (s : Shared) (H : Hp) (C : Addr) (cl : List (Str × Addr)) (fp : List Addr), PE (X.blk s H scope (compEnvC scope cl C X.env) fp) kx (tM X.K X.mg WF mk)) (he : ∀ (s : Shared) (H : Hp) (C : Addr) (cl : List (Str × Addr)) (fp : List Addr), PE (X.blk s H scope (compEnvC scope cl C X.env) fp) vx (tM X.K X.mg WF mv))
    (hs : ∀ x, foldedSetIterable iter X.env x = pure x := by intro _; rfl) (hv : own.map (·.2) = vs := by rfl) : PE X (.DictComp kx vx [⟨tg, iter, ifs, 0⟩] scope pos) (tM X.K X.mg W (mDc vs it b mt mk mv)) := by
  subst hv
  exact PE_imp (pe_dc hc hN hi ok hg ht hk he hs) (dc_read gd hj)
end
end Mi

set_option Elab.async false
set_option linter.all false
set_option maxRecDepth 100000
set_option maxHeartbeats 2000000
namespace Mi
open PySem PySem.Spec PyProof.Rows L2
open AutoSeq1 (wpAny_loadPart')

/-! ## t * k, k from 0 on -/
theorem tmul_one (l : Addr) (its : Array Value) (n : Nat) (dd : Option Addr) (sl : Array (Option Value)) (u : Tok) :
    Meets (Builtin.«tuple.__mul__» ⟨[.ref l, .int 1 u], []⟩) (fun _ R s => s.heap.get? l = some { cls := .type "tuple", dict := dd, data := .seq its n, slots := sl } ∧ R (.ok (.ret (Value.ref l))) s) :=
  .of_wp fun prog w A R s h => by
    obtain ⟨hh, gg, dr, tk, os⟩ := s
    obtain ⟨hl, q⟩ := h
    have f1 := AutoSeq1.idx_int
    have c0 : (decide ((1 : Int) < -(2 ^ 63)) || decide ((1 : Int) ≥ 2 ^ 63)) = false := by decide
    have c1 : (its.isEmpty || (1 : Int) == 1) = true := by simp
    wp_walk using wpAny_loadPart' hl
    repeat (first
      | (refine wpAny_ite_false (by first | (rw [c0]; exact Bool.false_ne_true) | exact decide_eq_false (by rw [c0]; exact Bool.false_ne_true)) ?_; wp_walk using wpAny_loadPart' hl)
      | (rw [c1]; wp_walk using wpAny_loadPart' hl))
    exact ⟨_, rfl, q⟩
theorem tmul_zero (l : Addr) (its : Array Value) (n : Nat) (dd : Option Addr) (sl : Array (Option Value)) (u : Tok) (hne : its.isEmpty = false) :
    Meets (Builtin.«tuple.__mul__» ⟨[.ref l, .int 0 u], []⟩) (fun _ R s => s.heap.get? l = some { cls := .type "tuple", dict := dd, data := .seq its n, slots := sl } ∧
      R (.ok (.ret (Value.ref s.heap.objs.size))) { s with heap := s.heap.push { cls := Value.type "tuple", data := Data.seq #[] }, toks := s.toks }) :=
  .of_wp fun prog w A R s h => by
    obtain ⟨hh, gg, dr, tk, os⟩ := s
    obtain ⟨hl, q⟩ := h
    have f1 := AutoSeq1.idx_int
    have c0 : (decide ((0 : Int) < -(2 ^ 63)) || decide ((0 : Int) ≥ 2 ^ 63)) = false := by decide
    have c1 : (its.isEmpty || (0 : Int) == 1) = false := by rw [hne]; rfl
    have c2 : (decide ((0 : Int) ≤ 0) || its.isEmpty) = true := by simp
    wp_walk using wpAny_loadPart' hl
    repeat (first
      | (refine wpAny_ite_false (by first | (rw [c0]; exact Bool.false_ne_true) | exact decide_eq_false (by rw [c0]; exact Bool.false_ne_true)) ?_; wp_walk using wpAny_loadPart' hl)
      | (refine wpAny_ite_false (by first | (rw [c1]; exact Bool.false_ne_true) | exact decide_eq_false (by rw [c1]; exact Bool.false_ne_true)) ?_; wp_walk using wpAny_loadPart' hl)
      | (rw [c2]; wp_walk using wpAny_loadPart' hl))
    exact ⟨_, rfl, q⟩
def rRep01 (K : PySem.W.Frag) : R2 := fun x y H Q => ∃ l k xs, x = .ref l ∧ y = .int k ∧ SqT K H l xs ∧ xs ≠ [] ∧ ((k = 1 ∧ Q (.ref l) H) ∨ (k = 0 ∧ ∀ p, H p = none → Q (.ref p) (upd H p (.tup []))))
section
variable {X : Cx}
theorem op_rep01 : OpR X (binaryOp .Mult) (rRep01 X.K) := by
  intro pins s σ H x y v u Q I rx ry h
  obtain ⟨l, k, xs, rfl, rfl, hT, hne, h⟩ := h
  cases rx
  obtain ⟨t, rfl⟩ := ry
  obtain ⟨its, r, ⟨⟨cls, dd, data, sl⟩, ho, hc, n, hd⟩, hs⟩ := I.tuple hT
  simp only at hc hd
  subst hc; subst hd
  have hi : its.toArray.isEmpty = false := by
    cases its with
    | nil =>
      have := r.length
      exact absurd (List.eq_nil_of_length_eq_zero this) hne
    | cons a b => rfl
  rcases h with ⟨rfl, q⟩ | ⟨rfl, q⟩
  · refine wpAny_binaryOp_repeat_ref (T := "tuple") (U := "int") (by decide) ⟨_, ho, rfl⟩ (fun s' => typeIs_int s' _ t) noFill_tuple_mul F.fills_int_mul F.slot_int_rmul repeat_tuple F.slot_int_index.lookup
      (call_meets F.slot_int_rmul (typeIs_int s _ t) F.entry_int_rmul (F.args_int_rmul_2 _ _) (int_rmul_tuple _ t l its.toArray n dd sl)
        ⟨ho, rfl, ⟨_, ho, rfl⟩, call_meets F.slot_tuple_mul ⟨_, ho, rfl⟩ F.entry_tuple_mul (F.args_tuple_mul_2 _ _) (tmul_one l its.toArray n dd sl t) ⟨ho, ?_⟩⟩)
    exact ⟨.ref l, H, I, rfl, q⟩
  · refine wpAny_binaryOp_repeat_ref (T := "tuple") (U := "int") (by decide) ⟨_, ho, rfl⟩ (fun s' => typeIs_int s' _ t) noFill_tuple_mul F.fills_int_mul F.slot_int_rmul repeat_tuple F.slot_int_index.lookup
      (call_meets F.slot_int_rmul (typeIs_int s _ t) F.entry_int_rmul (F.args_int_rmul_2 _ _) (int_rmul_tuple _ t l its.toArray n dd sl)
        ⟨ho, rfl, ⟨_, ho, rfl⟩, call_meets F.slot_tuple_mul ⟨_, ho, rfl⟩ F.entry_tuple_mul (F.args_tuple_mul_2 _ _) (tmul_zero l its.toArray n dd sl t hi) ⟨ho, ?_⟩⟩)
    exact ⟨.ref s.heap.objs.size, _, I.laid (t' := s.toks) (o := .tup []) (fun b ob q => Heap.get?_push_of_some _ q) (Nat.le_refl _) ⟨Nat.zero_le _, [], .nil, IsTup.new _ _⟩, rfl, q _ (I.hok.fresh (Nat.le_refl _))⟩
end
/-- t * k over data -/
def dRepT : D → D → Option D
  | .tup ds, .int k => if ds ≠ [] ∧ ds.length ≤ 1000 ∧ 0 ≤ k ∧ k ≤ 1000 then some (.tup (List.replicate k.toNat ds).flatten) else none
  | _, _ => none
def rRepTA (K : PySem.W.Frag) : R2 := fun x y H Q => rRepT K x y H Q ∨ rRep01 K x y H Q
theorem op_repTA {X : Cx} : OpR X (binaryOp .Mult) (rRepTA X.K) := OpR_or op_repT op_rep01
theorem od_repT {K : PySem.W.Frag} {mg : MG} : OpD K mg (rRepTA K) dRepT := fun F H x y vx vy z Q e hx hy hz q => by
  unfold dRepT at hz
  split at hz
  · rename_i ds k
    split at hz
    · rename_i hc
      cases hz
      obtain ⟨h1, h2, h3, h4⟩ := hc
      obtain ⟨a, vs, rfl, k1, k2⟩ := hx
      have hy : vy = .int k := hy
      subst hy
      have hT : SqT K H a vs := .inl (.inl (e.ex _ _ rfl k1))
      have hne : vs ≠ [] := fun z => h1 (by have := k2.length; rw [z] at this; exact List.eq_nil_of_length_eq_zero this)
      by_cases c1 : k = 1
      · subst c1
        refine .inr ⟨a, 1, vs, rfl, rfl, hT, hne, .inl ⟨rfl, q F H _ (Step.refl e) ⟨a, vs, rfl, k1, ?_⟩⟩⟩
        show FzL K mg F (List.replicate 1 ds).flatten vs
        simpa using k2
      · by_cases c0 : k = 0
        · subst c0
          refine .inr ⟨a, 0, vs, rfl, rfl, hT, hne, .inr ⟨rfl, fun p hp => ?_⟩⟩
          have st := Step.laid (o := .tup []) e hp
          exact q _ _ _ st ⟨p, [], rfl, upd_same, .nil⟩
        · refine .inl ⟨a, k, vs, rfl, rfl, hT, hne, by omega, h4, by rw [← k2.length]; exact h2, fun p hp => ?_⟩
          have st := Step.laid (o := .tup (List.replicate k.toNat vs).flatten) e hp
          exact q _ _ _ st ⟨p, _, rfl, upd_same, (k2.ex st.fF).rep _⟩
    · cases hz
  · cases hz
end Mi

set_option Elab.async false
set_option linter.all false
set_option maxRecDepth 100000
set_option maxHeartbeats 1000000
namespace Mi
open PySem PySem.Spec PyProof.Rows L2

/-! ## comprehensions of two clauses -/
def comp2Go (vs : List Nat) (b : Bd) (t : MT) (vs1 : List Nat) (it1 : MA) (b1 : Bd) (t1 : MT) (m : ME) : Nat → List D → Env → Rs (List D × Env)
  | _, [], env => .ok ([], env)
  | n, d :: ds, env => match b d env with
    | none => .bad
    | some e1 => (noX (t e1)).bind fun (c, e2) => if c = true then (noX (it1 e2)).bind fun (ds1, e3) => if n + ds1.length ≤ lim then (noX (compGo vs1 b1 t1 m ds1 (killAll vs1 e3))).bind fun (r1, e4) => (comp2Go vs b t vs1 it1 b1 t1 m (n + r1.length) ds (killAll vs e4)).bind fun (r, e5) => .ok (r1 ++ r, e5) else .bad
      else comp2Go vs b t vs1 it1 b1 t1 m n ds (killAll vs e2)
def mComp2 (vs : List Nat) (it : MA) (b : Bd) (t : MT) (vs1 : List Nat) (it1 : MA) (b1 : Bd) (t1 : MT) (m : ME) : MA := fun env => (it env).bind fun (ds, e1) => comp2Go vs b t vs1 it1 b1 t1 m 0 ds (killAll vs e1)
section
variable {J : It} {n : Nat} {G : Hp → Prop} {Y : Nat → Hp → V → Hp → Prop}
theorem lc_from (w : Walk J n G Y) {g : TG} {tt : TT} {te : TE} {vs : List Nat} {σ : L2.St} {H1 : Hp} {D : Addr} {Qd : Hp → Prop} (Pv : Nat → Hp → Prop) (h0 : Pv 0 H1) (hG : ∀ i H, i ≤ n → Pv i H → G H)
    (hs : ∀ i x H H', i < n → Pv i H → Y i H x H' → g x (wipe σ vs) H' fun σ2 H2 => wipe σ2 vs = wipe σ vs ∧ tt σ2 H2 fun b H3 =>
      if b = true then te σ2 H3 fun y H4 => ∃ acc, H4 D = some (.lst acc) ∧ acc.length < sizeLine ∧ Pv (i + 1) (upd H4 D (.lst (acc ++ [y]))) else Pv (i + 1) H3) (hd : ∀ H, Pv n H → Qd H) :
    ∃ W : Nat → Nat → Hp → Prop, (∃ m, W 0 m H1) ∧ ∀ i m H, W i m H →
      (J.stop i H ∧ Qd H) ∨ (J.go i H ∧ ∃ Nx : Hp → Prop, (∀ H', Nx H' → ∃ m', m' < m ∧ W (i + 1) m' H') ∧ ∀ x H', J.yld i H x H' → g x (wipe σ vs) H' fun σ2 H2 => wipe σ2 vs = wipe σ vs ∧ tt σ2 H2 fun b H3 =>
        if b = true then te σ2 H3 fun y H4 => ∃ acc, H4 D = some (.lst acc) ∧ acc.length < sizeLine ∧ Nx (upd H4 D (.lst (acc ++ [y]))) else Nx H3) := by
  refine ⟨fun i m H => m = n - i ∧ i ≤ n ∧ Pv i H, ⟨n, by simp, Nat.zero_le _, h0⟩, ?_⟩
  rintro i m H ⟨rfl, hi, p⟩
  have q := hG i H hi p
  by_cases hlt : i < n
  · exact .inr ⟨w.goes i H hlt q, Pv (i + 1), fun H' p' => ⟨n - (i + 1), by omega, rfl, hlt, p'⟩, fun x H' y => hs i x H H' hlt p (w.yields i H x H' hlt q y)⟩
  · have e : i = n := by omega
    subst e
    exact .inl ⟨w.stops H q, hd H p⟩
end

section
variable {K : PySem.W.Frag} {mg : MG}
/-- the inner walk: D holds acc0 so far -/
theorem lc_in {W : WX} {g : TG} {b : Bd} {js vs : List Nat} {mt : MT} {m : ME} (gd : GD K mg g b js) (hj : ∀ j ∈ js, j ∈ vs) {B : Base} {D : Addr} (f0 : B.F0 D = none) (h0 : B.H0 D = none) (hio : D ∉ B.io)
    {F1 : Hp} {env1 : Env} {σ : L2.St} {H1 : Hp} {J : It} {ds : List Mi.D} {Qd : Hp → Prop} {accD0 : List Mi.D} {acc0 : List V} (s1 : Sta K mg (B.with D acc0) F1 env1 σ H1) (hac0 : FzL K mg F1 accD0 acc0)
    (hJ : ItB K mg B J ds F1) (hlen : accD0.length + ds.length ≤ lim)
    (h1 : Pst K mg W B F1 σ (fun r env2 F2 H2 => ∀ us, (∀ i, ¬ OwnAt env2 σ i D) → F2 D = none → H2 D = some (.lst us) → FzL K mg F2 (accD0 ++ r) us → Qd H2) (compGo vs b mt m ds (killAll vs env1))) :
    ∃ Wk : Nat → Nat → Hp → Prop, (∃ m, Wk 0 m H1) ∧ ∀ i mm H, Wk i mm H →
      (J.stop i H ∧ Qd H) ∨ (J.go i H ∧ ∃ Nx : Hp → Prop, (∀ H', Nx H' → ∃ m', m' < mm ∧ Wk (i + 1) m' H') ∧ ∀ x H', J.yld i H x H' → g x (wipe σ vs) H' fun σ2 H2 => wipe σ2 vs = wipe σ vs ∧ tMT K mg WF mt σ2 H2 fun b H3 =>
        if b = true then tM K mg WF m σ2 H3 fun y H4 => ∃ acc, H4 D = some (.lst acc) ∧ acc.length < sizeLine ∧ Nx (upd H4 D (.lst (acc ++ [y]))) else Nx H3) := by
  obtain ⟨G, Y, w, hG, hY⟩ := hJ
  have start : Sta K mg (B.with D acc0) F1 (killAll vs env1) (wipe σ vs) H1 := s1.wiped vs
  refine lc_from w (fun i H' => ∃ F' env' accD acc, Sta K mg (B.with D acc) F' (killAll vs env') (wipe σ vs) H' ∧ Ex F1 F' ∧ FzL K mg F' accD acc ∧ accD.length ≤ accD0.length + i ∧
      Pst K mg W B F' σ (fun r env2 F2 H2 => ∀ us, (∀ i, ¬ OwnAt env2 σ i D) → F2 D = none → H2 D = some (.lst us) → FzL K mg F2 (accD ++ r) us → Qd H2) (compGo vs b mt m (ds.drop i) (killAll vs env')))
    ⟨F1, env1, accD0, acc0, start, Ex.refl F1, hac0, Nat.le_refl _, h1⟩
    (fun i H' _ ⟨F', env', accD, acc, s', ex, _⟩ => hG F' (killAll vs env') (wipe σ vs) H' (s'.outof f0 h0 hio).1 ex) (fun i x H' H2 hi ⟨F', env', accD, acc, s', ex, hacc, hal, hp⟩ y => ?_) (fun H' ⟨F', env', accD, acc, s', ex, hacc, hal, hp⟩ => ?_)
  · obtain ⟨F2, d, hd, st, fz⟩ := hY F' i H' x H2 hi ex s'.fH y
    have ed : ds.drop i = d :: ds.drop (i + 1) := by
      rw [List.drop_eq_getElem_cons hi]
      rw [List.getElem?_eq_getElem hi] at hd
      cases hd
      rfl
    rw [ed] at hp
    unfold compGo at hp
    cases eb : b d (killAll vs env') with
    | none => rw [eb] at hp; exact hp.elim
    | some e2 =>
      rw [eb] at hp
      simp only at hp
      refine gd (B.with D acc) F2 (killAll vs env') (wipe σ vs) H2 d x e2 _ (s'.step st) fz eb fun σ3 s3 n3 => ⟨near_wipe n3 hj, ?_⟩
      refine ⟨B.with D acc, F2, e2, s3, ?_⟩
      cases et : mt e2 with
      | bad => rw [et] at hp; exact hp
      | exc x1 e3 => rw [et] at hp; exact hp.elim
      | ok p =>
        obtain ⟨c, e3⟩ := p
        rw [et] at hp
        intro F3 H3 s4 ex3
        have back : ∀ {F4 : Hp} {e4 : Env} {H4 : Hp} {ac : List V}, Sta K mg (B.with D ac) F4 e4 σ3 H4 → Sta K mg (B.with D ac) F4 (killAll vs e4) (wipe σ vs) H4 := fun {F4 e4 H4 ac} st4 => by
          have q := st4.killAll vs
          refine q.dead_off ?_ fun i hi => ?_
          · exact n3.1.symm
          · exact (n3.2 i fun z => hi (hj i z)).symm
        cases c with
        | false =>
          exact ⟨F3, e3, accD, acc, back s4, (ex.trans st.fF).trans ex3, (hacc.ex st.fF).ex ex3, by omega, Pst.mono (st.fF.trans ex3) hp⟩
        | true =>
          show tM K mg WF m σ3 H3 _
          refine ⟨B.with D acc, F3, e3, s4, ?_⟩
          cases em : m e3 with
          | bad => simp [em] at hp; exact hp.elim
          | exc x1 e5 => simp [em, noX] at hp; exact hp.elim
          | ok p =>
            obtain ⟨yd, e5⟩ := p
            intro F4 H4 s5 ex4 v hv
            simp only [noX_ok, Rs.bind_ok, if_true, em] at hp
            have hp3 := Pst.bind hp
            obtain ⟨o1, o2, o3, o4⟩ := s5.outof f0 h0 hio
            have hall : Ex F' F4 := (st.fF.trans ex3).trans ex4
            have acc4 : FzL K mg F4 accD acc := hacc.ex hall
            refine ⟨acc, o4, ?_, F4, e5, accD ++ [yd], acc ++ [v], ?_, ex.trans hall, acc4.app ⟨v, [], rfl, hv, rfl⟩, by simp; omega, ?_⟩
            · rw [← acc4.length]; exact lim_lt (by omega)
            · have s6 := ex_mut (o := .lst (acc ++ [v])) o1 o2 h0 hio o3 (fun fs z => by rw [o4] at z; cases z)
              exact back (s6.into o2 h0 hio o3 upd_same)
            · refine (Pst.mono hall hp3).imp fun r env2 F5 H5 s6 ex6 h6 us q1 q2 q5 q6 => ?_
              exact h6 F5 H5 s6 (Ex.refl F5) us q1 q2 q5 (by simpa using q6)
  · rw [List.drop_length] at hp
    obtain ⟨o1, o2, o3, o4⟩ := s'.outof f0 h0 hio
    have o5 : Sta K mg B F' (killAll vs env') σ H' := o1.dead_off (wipe_length σ vs).symm fun i hi => by rw [wipe_get, if_neg hi]
    refine hp F' H' o5 (Ex.refl F') acc (fun i ⟨p1, x, p2, p3⟩ => ?_) o2 o4 (by simpa using hacc)
    rcases killAll_get p2 with ⟨_, rfl⟩ | ⟨hi, p2'⟩
    · cases p3
    · refine o3 i ⟨?_, x, p2, p3⟩
      show (slots (wipe σ vs))[i]? = _
      rw [wipe_get, if_neg hi]
      exact p1
theorem lc2_core {W : WX} {g g1 : TG} {b b1 : Bd} {js js1 vs vs1 : List Nat} {mt mt1 : MT} {it1 : MA} {m : ME} (gd : GD K mg g b js) (hj : ∀ j ∈ js, j ∈ vs) (gd1 : GD K mg g1 b1 js1) (hj1 : ∀ j ∈ js1, j ∈ vs1) {B : Base} {F1 : Hp} {env1 : Env} {σ : L2.St} {H1 : Hp} {J : It} {ds : List D} {Q : VK} (s1 : Sta K mg B F1 env1 σ H1)
    (hJ : ItB K mg B J ds F1) (h1 : Pst K mg W B F1 σ (fun r env2 F2 H2 => ∀ p us, (∀ i, ¬ OwnAt env2 σ i p) → F2 p = none → B.H0 p = none → p ∉ B.io → H2 p = some (.lst us) → FzL K mg F2 r us → Q (.ref p) H2) (comp2Go vs b mt vs1 it1 b1 mt1 m 0 ds (killAll vs env1))) :
    tLc2 (fun _ _ R => R J H1) g (tMT K mg WF mt) (tMI K mg WF it1) g1 (tMT K mg WF mt1) (tM K mg WF m) vs vs1 σ H1 Q := by
  intro D hD
  obtain ⟨G, Y, w, hG, hY⟩ := hJ
  obtain ⟨s2, a1, a2, a3, a4⟩ := s1.laidO (o := .lst []) hD
  have f0 : B.F0 D = none := by
    cases q : B.F0 D with
    | none => rfl
    | some u => rcases s1.f0.rd D u (.inl q) with z | ⟨_, z⟩ <;> rw [a1] at z <;> cases z
  have own0 : ∀ i, ¬ OwnAt (killAll vs env1) (wipe σ vs) i D := fun i ⟨p1, x, p2, p3⟩ => by
    rcases killAll_get p2 with ⟨_, rfl⟩ | ⟨hi, p2'⟩
    · cases p3
    · refine a4 i ⟨?_, x, p2', p3⟩
      have p1 : (slots (wipe σ vs))[i]? = some (some (.ref D)) := p1
      rw [wipe_get, if_neg hi] at p1
      exact p1
  let Pv : Nat → Hp → Prop := fun i H' => ∃ F' env' accD acc n, Sta K mg (B.with D acc) F' (killAll vs env') (wipe σ vs) H' ∧ Ex F1 F' ∧ FzL K mg F' accD acc ∧ accD.length = n ∧
      Pst K mg W B F' σ (fun r env2 F2 H2 => ∀ p us, (∀ i, ¬ OwnAt env2 σ i p) → F2 p = none → B.H0 p = none → p ∉ B.io → H2 p = some (.lst us) → FzL K mg F2 (accD ++ r) us → Q (.ref p) H2) (comp2Go vs b mt vs1 it1 b1 mt1 m n (ds.drop i) (killAll vs env'))
  refine ⟨fun i mm H => mm = ds.length - i ∧ i ≤ ds.length ∧ Pv i H, ⟨ds.length, by simp, Nat.zero_le _, F1, env1, [], [], 0, (s2.wiped vs).into a1 a2 a3 own0 upd_same, Ex.refl F1, rfl, rfl, h1⟩, ?_⟩
  rintro i mm H' ⟨rfl, hle, F', env', accD, acc, n, s', ex, hacc, hal, hp⟩
  have q := hG F' (killAll vs env') (wipe σ vs) H' (s'.outof f0 a2 a3).1 ex
  by_cases hi : i < ds.length
  · refine .inr ⟨w.goes i H' hi q, Pv (i + 1), fun H' p' => ⟨ds.length - (i + 1), by omega, rfl, hi, p'⟩, fun x H2 y0 => ?_⟩
    have y := w.yields i H' x H2 hi q y0
    obtain ⟨F2, d, hd, st, fz⟩ := hY F' i H' x H2 hi ex s'.fH y
    have ed : ds.drop i = d :: ds.drop (i + 1) := by
      rw [List.drop_eq_getElem_cons hi]
      rw [List.getElem?_eq_getElem hi] at hd
      cases hd
      rfl
    rw [ed] at hp
    unfold comp2Go at hp
    cases eb : b d (killAll vs env') with
    | none => rw [eb] at hp; exact hp.elim
    | some e2 =>
      rw [eb] at hp
      simp only at hp
      refine gd (B.with D acc) F2 (killAll vs env') (wipe σ vs) H2 d x e2 _ (s'.step st) fz eb fun σ3 s3 n3 => ⟨near_wipe n3 hj, ?_⟩
      refine ⟨B.with D acc, F2, e2, s3, ?_⟩
      cases et : mt e2 with
      | bad => rw [et] at hp; exact hp
      | exc x1 e3 => rw [et] at hp; exact hp.elim
      | ok p =>
        obtain ⟨c, e3⟩ := p
        rw [et] at hp
        intro F3 H3 s4 ex3
        have back : ∀ {F4 : Hp} {e4 : Env} {H4 : Hp} {ac : List V}, Sta K mg (B.with D ac) F4 e4 σ3 H4 → Sta K mg (B.with D ac) F4 (killAll vs e4) (wipe σ vs) H4 := fun {F4 e4 H4 ac} st4 => by
          have q := st4.killAll vs
          refine q.dead_off ?_ fun i hi => ?_
          · exact n3.1.symm
          · exact (n3.2 i fun z => hi (hj i z)).symm
        cases c with
        | false =>
          exact ⟨F3, e3, accD, acc, n, back s4, (ex.trans st.fF).trans ex3, (hacc.ex st.fF).ex ex3, hal, Pst.mono (st.fF.trans ex3) hp⟩
        | true =>
          show tMI K mg WF it1 σ3 H3 _
          refine ⟨B.with D acc, F3, e3, s4, ?_⟩
          cases ei : it1 e3 with
          | bad => simp [ei] at hp; exact hp.elim
          | exc x1 e5 => simp [ei, noX] at hp; exact hp.elim
          | ok p =>
            obtain ⟨ds1, e5⟩ := p
            intro F4 H4 s5 ex4 J1 hJ1
            simp only [noX_ok, Rs.bind_ok, if_true, ei] at hp
            split at hp
            · rename_i hlen
              have hall : Ex F' F4 := (st.fF.trans ex3).trans ex4
              have acc4 : FzL K mg F4 accD acc := hacc.ex hall
              have hJ2 : ItB K mg B J1 ds1 F4 := hJ1.b
              refine lc_in (W := WF) gd1 hj1 f0 a2 a3 s5 acc4 hJ2 (by omega) ?_
              cases ec : compGo vs1 b1 mt1 m ds1 (killAll vs1 e5) with
              | bad => rw [ec] at hp; exact hp
              | exc x1 e6 => rw [ec] at hp; exact hp.elim
              | ok p =>
                obtain ⟨r1, e6⟩ := p
                rw [ec] at hp
                simp only [noX_ok, Rs.bind_ok] at hp
                intro F5 H5 s6 ex6 us n1 n2 n4 n5
                have hp3 := Pst.bind hp
                refine ⟨F5, e6, accD ++ r1, us, n + r1.length, back (s6.into n2 a2 a3 n1 n4), ex.trans (hall.trans ex6), n5, by rw [List.length_append, hal], ?_⟩
                refine (Pst.mono (hall.trans ex6) hp3).imp fun r env2 F6 H6 s7 ex7 h7 p us q1 q2 q3 q4 q5 q6 => ?_
                exact h7 F6 H6 s7 (Ex.refl F6) p us q1 q2 q3 q4 q5 (by simpa using q6)
            · exact hp.elim
  · have e : i = ds.length := by omega
    subst e
    refine .inl ⟨w.stops H' q, ?_⟩
    rw [List.drop_length] at hp
    obtain ⟨o1, o2, o3, o4⟩ := s'.outof f0 a2 a3
    have o5 : Sta K mg B F' (killAll vs env') σ H' := o1.dead_off (wipe_length σ vs).symm fun i hi => by rw [wipe_get, if_neg hi]
    refine hp F' H' o5 (Ex.refl F') D acc (fun i ⟨p1, x, p2, p3⟩ => ?_) o2 a2 a3 o4 (by simpa using hacc)
    rcases killAll_get p2 with ⟨_, rfl⟩ | ⟨hi, p2'⟩
    · cases p3
    · refine o3 i ⟨?_, x, p2, p3⟩
      show (slots (wipe σ vs))[i]? = _
      rw [wipe_get, if_neg hi]
      exact p1
theorem lc2_read {W : WX} {it : MA} {g g1 : TG} {b b1 : Bd} {js js1 vs vs1 : List Nat} {mt mt1 : MT} {it1 : MA} {m : ME} (gd : GD K mg g b js) (hj : ∀ j ∈ js, j ∈ vs) (gd1 : GD K mg g1 b1 js1) (hj1 : ∀ j ∈ js1, j ∈ vs1) :
    ∀ σ H Q, tMO K mg W (mComp2 vs it b mt vs1 it1 b1 mt1 m) σ H Q → tLc2 (tMI K mg W it) g (tMT K mg WF mt) (tMI K mg WF it1) g1 (tMT K mg WF mt1) (tM K mg WF m) vs vs1 σ H Q := by
  rintro σ H Q ⟨B, F, env, s, h⟩
  refine ⟨B, F, env, s, (Pst.bind h).imp fun ds env1 F1 H1 s1 e1 h1 J hJ => ?_⟩
  exact lc2_core gd hj gd1 hj1 s1 hJ.b h1
end
section
variable {X : Cx} {W : WX} {tg iter tg1 iter1 elt : Expr} {ifs ifs1 : List Expr} {scope : Scope} {own : List (Str × Nat)} {vs vs1 : List Nat} {pos : Pos} {it it1 : MA} {g g1 : TG} {b b1 : Bd} {js js1 : List Nat} {mt mt1 : MT} {m : ME}
theorem so_lc2 (hc : X.calm = true) (hN : X.N.Nodup) (hi : PI X tg iter (tMI X.K X.mg W it)) (ok : BlkOk X.N X.env.scope scope own) (hv1 : ∀ i ∈ vs1, i ∈ own.map (·.2)) (gd : GD X.K X.mg g b js) (hj : ∀ j ∈ js, j ∈ own.map (·.2)) (gd1 : GD X.K X.mg g1 b1 js1) (hj1 : ∀ j ∈ js1, j ∈ vs1)
    (hg : ∀ (s : Shared) (H : Hp) (C : Addr) (cl : List (Str × Addr)) (fp : List Addr), PG (X.blk s H scope (compEnvC scope cl C X.env) fp) tg g) (ht : ∀ (s : Shared) (H : Hp) (C : Addr) (cl : List (Str × Addr)) (fp : List Addr), PTs (X.blk s H scope (compEnvC scope cl C X.env) fp) ifs (tMT X.K X.mg WF mt))
    (hi1 : ∀ (s : Shared) (H : Hp) (C : Addr) (cl : List (Str × Addr)) (fp : List Addr), PI (X.blk s H scope (compEnvC scope cl C X.env) fp) tg1 iter1 (tMI X.K X.mg WF it1))
    (hg1 : ∀ (s : Shared) (H : Hp) (C : Addr) (cl : List (Str × Addr)) (fp : List Addr), PG (X.blk s H scope (compEnvC scope cl C X.env) fp) tg1 g1) (ht1 : ∀ (s : Shared) (H : Hp) (C : Addr) (cl : List (Str × Addr)) (fp : List Addr), PTs (X.blk s H scope (compEnvC scope cl C X.env) fp) ifs1 (tMT X.K X.mg WF mt1))
    (he : ∀ (s : Shared) (H : Hp) (C : Addr) (cl : List (Str × Addr)) (fp : List Addr), PE (X.blk s H scope (compEnvC scope cl C X.env) fp) elt (tM X.K X.mg WF m)) (hs : ∀ x, foldedSetIterable iter X.env x = pure x := by intro _; rfl) (hs1 : ∀ env x, foldedSetIterable iter1 env x = pure x := by intro _ _; rfl) (hv : own.map (·.2) = vs := by rfl) :
    PE X (.ListComp elt [⟨tg, iter, ifs, 0⟩, ⟨tg1, iter1, ifs1, 0⟩] scope pos) (tMO X.K X.mg W (mComp2 vs it b mt vs1 it1 b1 mt1 m)) := by
  subst hv
  exact PE_imp (pe_lc2 hc hN hi ok hv1 hg ht hi1 hg1 ht1 he hs hs1) (lc2_read gd hj gd1 hj1)
theorem ss_setLc2 {i : Nat} {y : Str} {py spos : Pos} (hc : X.calm = true) (hN : X.N.Nodup) (hy : X.N[i]? = some y) (hyl : X.env.scope.names.lookup y = some .local)
    (hsw : swapsWith (.ListComp elt [⟨tg, iter, ifs, 0⟩, ⟨tg1, iter1, ifs1, 0⟩] scope pos) (some (.Name y py)) spos.line X.env = pure true)
    (hi : PI X tg iter (tMI X.K X.mg W it)) (ok : BlkOk X.N X.env.scope scope own) (hv1 : ∀ i ∈ vs1, i ∈ own.map (·.2)) (gd : GD X.K X.mg g b js) (hj : ∀ j ∈ js, j ∈ own.map (·.2)) (gd1 : GD X.K X.mg g1 b1 js1) (hj1 : ∀ j ∈ js1, j ∈ vs1)
    (hg : ∀ (s : Shared) (H : Hp) (C : Addr) (cl : List (Str × Addr)) (fp : List Addr), PG (X.blk s H scope (compEnvC scope cl C X.env) fp) tg g) (ht : ∀ (s : Shared) (H : Hp) (C : Addr) (cl : List (Str × Addr)) (fp : List Addr), PTs (X.blk s H scope (compEnvC scope cl C X.env) fp) ifs (tMT X.K X.mg WF mt))
    (hi1 : ∀ (s : Shared) (H : Hp) (C : Addr) (cl : List (Str × Addr)) (fp : List Addr), PI (X.blk s H scope (compEnvC scope cl C X.env) fp) tg1 iter1 (tMI X.K X.mg WF it1))
    (hg1 : ∀ (s : Shared) (H : Hp) (C : Addr) (cl : List (Str × Addr)) (fp : List Addr), PG (X.blk s H scope (compEnvC scope cl C X.env) fp) tg1 g1) (ht1 : ∀ (s : Shared) (H : Hp) (C : Addr) (cl : List (Str × Addr)) (fp : List Addr), PTs (X.blk s H scope (compEnvC scope cl C X.env) fp) ifs1 (tMT X.K X.mg WF mt1))
    (he : ∀ (s : Shared) (H : Hp) (C : Addr) (cl : List (Str × Addr)) (fp : List Addr), PE (X.blk s H scope (compEnvC scope cl C X.env) fp) elt (tM X.K X.mg WF m)) (hs : ∀ x, foldedSetIterable iter X.env x = pure x := by intro _; rfl) (hs1 : ∀ env x, foldedSetIterable iter1 env x = pure x := by intro _ _; rfl) (hv : own.map (·.2) = vs := by rfl) :
    PS X (.Assign [.Name y py] (.ListComp elt [⟨tg, iter, ifs, 0⟩, ⟨tg1, iter1, ifs1, 0⟩] scope pos) spos) (tMS X.K X.mg W (mAsgL i (mComp2 vs it b mt vs1 it1 b1 mt1 m))) := by
  subst hv
  refine PS_imp (ps_setLc2 hc hN hy hyl hsw hi ok hv1 hg ht hi1 hg1 ht1 he hs hs1) fun D σ H ⟨B, F, env, s, h⟩ => ?_
  refine lc2_read gd hj gd1 hj1 σ H _ ⟨B, F, env, s, (PstS.bind h).imp fun ds env1 F1 H1 s1 e1 h1 p vs ho hF h0 hio hH hd => h1 F1 _ H1 (s1.setSlot (s := .ol ds) ⟨p, vs, rfl, hF, h0, hH, hd⟩ fun _ j q _ eq ha => ?_) (Ex.refl F1)⟩
  cases eq
  exact ho j ha
end
end Mi

set_option Elab.async false
set_option linter.all false
set_option maxRecDepth 100000
set_option maxHeartbeats 1000000
namespace Mi
open PySem PySem.Spec PyProof.Rows L2

/-! ## tuple(range(..)), list(range(..)) -/
def rgB (i j : Int) : Bool := decide (-(lim : Int) ≤ i ∧ i ≤ lim ∧ -(lim : Int) ≤ j ∧ j ≤ lim)
def dTupRg2 : D → D → Option D
  | .int i, .int j => if rgB i j = true then some (.tup (rngD i (j - i).toNat)) else none
  | _, _ => none
def dTupRg1 : D → Option D
  | .int j => if rgB 0 j = true then some (.tup (rngD 0 j.toNat)) else none
  | _ => none
def dLstRg2 : D → D → Option D
  | .int i, .int j => if rgB i j = true then some (.lst (rngD i (j - i).toNat)) else none
  | _, _ => none
def dLstRg1 : D → Option D
  | .int j => if rgB 0 j = true then some (.lst (rngD 0 j.toNat)) else none
  | _ => none
section
variable {K : PySem.W.Frag} {mg : MG} {F H : Hp}
theorem fzl_rg : ∀ (lo : Int) (n : Nat), FzL K mg F (rngD lo n) ((List.range n).map fun i => V.int (lo + (i : Nat)))
  | lo, 0 => rfl
  | lo, n + 1 => by
    unfold rngD
    rw [List.range_succ, List.map_append, List.map_append]
    exact (fzl_rg lo n).app ⟨_, [], rfl, rfl, rfl⟩
theorem rgok {i j : Int} (h : rgB i j = true) : RgOk i j := by
  have h := of_decide_eq_true h
  have : (lim : Int) = 1000000 := rfl
  rw [this] at h
  exact ⟨by omega, by omega, by omega, by omega, by omega⟩
theorem od_tupRg : OpD K mg (fun x y H Q => ∃ i j, x = .int i ∧ y = .int j ∧ RgOk i j ∧ ∀ q, H q = none → Q (.ref q) (upd H q (.tup (rgV i j)))) dTupRg2 := fun F H x y vx vy z Q e hx hy hz q => by
  unfold dTupRg2 at hz
  split at hz
  · rename_i i j
    split at hz
    · rename_i hb
      cases hz
      have hx : vx = .int i := hx
      have hy : vy = .int j := hy
      subst hx hy
      exact ⟨i, j, rfl, rfl, rgok hb, fun p hp => q.tup e (fzl_rg i _) hp⟩
    · cases hz
  · cases hz
theorem ud_tupRg : UnD K mg (fun x H Q => ∃ n, x = .int n ∧ RgOk 0 n ∧ ∀ q, H q = none → Q (.ref q) (upd H q (.tup (rgV 0 n)))) dTupRg1 := fun F H x vx z Q e hx hz q => by
  unfold dTupRg1 at hz
  split at hz
  · rename_i j
    split at hz
    · rename_i hb
      cases hz
      have hx : vx = .int j := hx
      subst hx
      exact ⟨j, rfl, rgok hb, fun p hp => (by have := q.tup e (fzl_rg 0 j.toNat) hp; unfold rgV; rw [Int.sub_zero]; exact this)⟩
    · cases hz
  · cases hz
theorem od_lstRg : OpD K mg (fun x y H Q => ∃ i j, x = .int i ∧ y = .int j ∧ RgOk i j ∧ ∀ q, H q = none → Q (.ref q) (upd H q (.lst (rgV i j)))) dLstRg2 := fun F H x y vx vy z Q e hx hy hz q => by
  unfold dLstRg2 at hz
  split at hz
  · rename_i i j
    split at hz
    · rename_i hb
      cases hz
      have hx : vx = .int i := hx
      have hy : vy = .int j := hy
      subst hx hy
      exact ⟨i, j, rfl, rfl, rgok hb, fun p hp => q.lst e (fzl_rg i _) hp⟩
    · cases hz
  · cases hz
theorem ud_lstRg : UnD K mg (fun x H Q => ∃ n, x = .int n ∧ RgOk 0 n ∧ ∀ q, H q = none → Q (.ref q) (upd H q (.lst (rgV 0 n)))) dLstRg1 := fun F H x vx z Q e hx hz q => by
  unfold dLstRg1 at hz
  split at hz
  · rename_i j
    split at hz
    · rename_i hb
      cases hz
      have hx : vx = .int j := hx
      subst hx
      exact ⟨j, rfl, rgok hb, fun p hp => (by have := q.lst e (fzl_rg 0 j.toNat) hp; unfold rgV; rw [Int.sub_zero]; exact this)⟩
    · cases hz
  · cases hz
end
section
variable {X : Cx} {W : WX} {a b : Expr} {oa ob : Opd} {p p2 pos pos2 : Pos}
theorem se_tupRg1 (hc : X.calm = true) (hg : Gl X "tuple") (hm : X.mg "tuple" = none) (hgr : Gl X "range") (hmr : X.mg "range" = none) (ha : PE X a (tOpd X.K X.mg W oa)) (na : starEach [a] X.env = (false, eval a X.env) :: starEach [] X.env := by rfl)
    (nr : starEach [.Call (.Name "range" p2) [a] [] pos2] X.env = (false, eval (.Call (.Name "range" p2) [a] [] pos2) X.env) :: starEach [] X.env := by rfl) : PE X (.Call (.Name "tuple" p) [.Call (.Name "range" p2) [a] [] pos2] [] pos) (tM X.K X.mg W (mUn dTupRg1 oa)) :=
  PE_imp (pe_tupRg hc hg hm (prg_1 hgr hmr ha na) nr) fun σ H Q h => tM_un ud_tupRg σ H Q h
theorem se_lstRg1 (hc : X.calm = true) (hg : Gl X "list") (hm : X.mg "list" = none) (hgr : Gl X "range") (hmr : X.mg "range" = none) (ha : PE X a (tOpd X.K X.mg W oa)) (na : starEach [a] X.env = (false, eval a X.env) :: starEach [] X.env := by rfl)
    (nr : starEach [.Call (.Name "range" p2) [a] [] pos2] X.env = (false, eval (.Call (.Name "range" p2) [a] [] pos2) X.env) :: starEach [] X.env := by rfl) : PE X (.Call (.Name "list" p) [.Call (.Name "range" p2) [a] [] pos2] [] pos) (tM X.K X.mg W (mUn dLstRg1 oa)) :=
  PE_imp (pe_listRg hc hg hm (prg_1 hgr hmr ha na) nr) fun σ H Q h => tM_un ud_lstRg σ H Q h
theorem se_tupRg2 (hc : X.calm = true) (hg : Gl X "tuple") (hm : X.mg "tuple" = none) (hgr : Gl X "range") (hmr : X.mg "range" = none) (ha : PE X a (tOpd X.K X.mg W oa)) (hb : PE X b (tOpd X.K X.mg W ob)) (na : starEach [a, b] X.env = (false, eval a X.env) :: starEach [b] X.env := by rfl) (nb : starEach [b] X.env = (false, eval b X.env) :: starEach [] X.env := by rfl)
    (hp : (backTo pos2 (starEach [b] X.env)).any (·.1) = false := by rfl) (nr : starEach [.Call (.Name "range" p2) [a, b] [] pos2] X.env = (false, eval (.Call (.Name "range" p2) [a, b] [] pos2) X.env) :: starEach [] X.env := by rfl) :
    PE X (.Call (.Name "tuple" p) [.Call (.Name "range" p2) [a, b] [] pos2] [] pos) (tM X.K X.mg W (mBin dTupRg2 oa ob)) :=
  PE_imp (pe_tupRg hc hg hm (prg_2 hgr hmr ha hb na nb hp) nr) fun σ H Q h => tM_bin od_tupRg σ H Q h
theorem se_lstRg2 (hc : X.calm = true) (hg : Gl X "list") (hm : X.mg "list" = none) (hgr : Gl X "range") (hmr : X.mg "range" = none) (ha : PE X a (tOpd X.K X.mg W oa)) (hb : PE X b (tOpd X.K X.mg W ob)) (na : starEach [a, b] X.env = (false, eval a X.env) :: starEach [b] X.env := by rfl) (nb : starEach [b] X.env = (false, eval b X.env) :: starEach [] X.env := by rfl)
    (hp : (backTo pos2 (starEach [b] X.env)).any (·.1) = false := by rfl) (nr : starEach [.Call (.Name "range" p2) [a, b] [] pos2] X.env = (false, eval (.Call (.Name "range" p2) [a, b] [] pos2) X.env) :: starEach [] X.env := by rfl) :
    PE X (.Call (.Name "list" p) [.Call (.Name "range" p2) [a, b] [] pos2] [] pos) (tM X.K X.mg W (mBin dLstRg2 oa ob)) :=
  PE_imp (pe_listRg hc hg hm (prg_2 hgr hmr ha hb na nb hp) nr) fun σ H Q h => tM_bin od_lstRg σ H Q h
end
/-! ## str(n) -/
def fStr : List D → Option D
  | [.int i] => if i.natAbs.log2 < 1920 then some (.str (toString i)) else none
  | _ => none
theorem fd_str {K : PySem.W.Frag} {mg : MG} : FnD K mg (fun xs H Q => ∃ i, xs = [.int i] ∧ i.natAbs.log2 < 1920 ∧ Q (.str (toString i)) H) fStr := fun F H xs vs z Q e hx hz q => by
  unfold fStr at hz
  split at hz
  · rename_i i
    split at hz
    · rename_i hl
      cases hz
      obtain ⟨v, r, rfl, h1, rfl⟩ := hx
      have h1 : v = .int i := h1
      subst h1
      exact ⟨i, rfl, hl, q.here e rfl⟩
    · cases hz
  · cases hz
/-! ## isinstance against a tuple of built-in types -/
def isTys (x : D) : List D → Option Bool
  | [] => some false
  | .ty n :: r => match fIsTy [x, .ty n], isTys x r with
    | some (.bl b), some c => some (b || c)
    | _, _ => none
  | _ => none
def fIsTyT : List D → Option D
  | [x, .tup (t :: ts)] => (isTys x (t :: ts)).map .bl
  | _ => none
theorem ty_kit {K : PySem.W.Frag} {mg : MG} {F H : Hp} {x : D} {v : V} (ic : IsiC K mg) (e : Ex F H) (h1 : Fb K mg F H x v) {n0 : String} {r0 : D} (h0 : fIsTy [x, .ty n0] = some r0) :
    ∃ t : Value, TyX K H v t ∧ ∀ n b, fIsTy [x, .ty n] = some (.bl b) → PySem.W.kitOne K t (.type n) = some b := by
  have fin : ∀ (a : String), tyName x = some a → TyX K H v (.type a) → (a = "NoneType" ∨ a = "bool" ∨ a = "int" ∨ a = "str" ∨ a = "tuple" ∨ a = "list" ∨ a = "dict") → (∀ c ns ws, x ≠ .obj c ns ws) → ∃ t : Value, TyX K H v t ∧ ∀ n b, fIsTy [x, .ty n] = some (.bl b) → PySem.W.kitOne K t (.type n) = some b := fun a ha ht hs hno => by
    refine ⟨_, ht, fun n b hb => ?_⟩
    unfold fIsTy at hb
    split at hb
    · rename_i e2; cases e2; exact absurd rfl (hno _ _ _)
    · rename_i _ n' _ e2
      cases e2
      rw [ha] at hb
      obtain ⟨c, hc, q⟩ := Option.map_eq_some_iff.mp hb
      cases q
      exact kit_ty (isTy_kit hs hc)
    · cases hb
  cases x with
  | non => have h1 : v = .non := h1; subst h1; exact fin _ rfl (.base .non) (by simp) (by simp)
  | bl c => have h1 : v = .bl c := h1; subst h1; exact fin _ rfl (.base (.bl c)) (by simp) (by simp)
  | int c => have h1 : v = .int c := h1; subst h1; exact fin _ rfl (.base (.int c)) (by simp) (by simp)
  | str c => have h1 : v = .str c := h1; subst h1; exact fin _ rfl (.base (.str c)) (by simp) (by simp)
  | tup ds => obtain ⟨p, us, rfl, k1, k2⟩ := h1; exact fin _ rfl (.base (.tup (e.ex _ _ rfl k1))) (by simp) (by simp)
  | lst ds =>
    obtain ⟨p, us, rfl, k1, k2⟩ := h1
    rcases k1 with (k1 | ⟨ob, k1⟩) | ⟨ob, its, n, k1, k2, _⟩
    · exact fin _ rfl (.base (.lst k1)) (by simp) (by simp)
    · exact fin _ rfl (.base (.frz k1)) (by simp) (by simp)
    · exact fin _ rfl (.kList k1 k2) (by simp) (by simp)
  | dic t ks ws =>
    obtain ⟨p, us, rfl, k1, k2⟩ := h1
    cases t with
    | false =>
      obtain ⟨kk, _, _, k3⟩ := k2
      rcases k3 with k3 | ⟨ob, k3⟩
      · exact fin _ rfl (.base (.dK k3)) (by simp) (by simp)
      · exact fin _ rfl (.fDict k3) (by simp) (by simp)
    | true => unfold fIsTy at h0; simp [tyName] at h0
  | obj c ns ws =>
    have h0 : (if c = "Office" ∧ isB6 n0 = true then some (D.bl false) else none) = some r0 := h0
    split at h0
    · rename_i hc
      obtain ⟨rfl, hb⟩ := hc
      obtain ⟨a, C, dx, us, rfl, hC, hH, _, _⟩ := h1
      have t := ic C hC
      refine ⟨_, .base (.ins (e.ex _ _ rfl hH) t.cl t.ha t.hn t.htk t.hm), fun n b hb2 => ?_⟩
      have hb2 : (if ("Office" : Str) = "Office" ∧ isB6 n = true then some (D.bl false) else none) = some (D.bl b) := hb2
      split at hb2
      · rename_i hc2
        cases hb2
        exact isi_kit t hc2.2
      · cases hb2
    · cases h0
  | glo y => unfold fIsTy at h0; simp [tyName] at h0
  | ty y => unfold fIsTy at h0; simp [tyName] at h0
theorem isTys_kit {K : PySem.W.Frag} {x : D} {t : Value} (h : ∀ n b, fIsTy [x, .ty n] = some (.bl b) → PySem.W.kitOne K t (.type n) = some b) : ∀ (ts : List D) (b : Bool), isTys x ts = some b → ∃ ns : List String, ts = ns.map .ty ∧ PySem.W.kitAny K t (ns.map Value.type) = some b
  | [], b, e => by cases e; exact ⟨[], rfl, rfl⟩
  | d :: ts, b, e => by
    unfold isTys at e
    split at e
    · rename_i e2; cases e2
    · rename_i n r e2
      cases e2
      split at e
      · rename_i b1 c1 q1 q2
        cases e
        obtain ⟨ns, rfl, q⟩ := isTys_kit h _ _ q2
        refine ⟨n :: ns, rfl, ?_⟩
        show (match PySem.W.kitOne K t (.type n) with | some true => some true | some false => PySem.W.kitAny K t (ns.map Value.type) | none => none) = _
        rw [h n b1 q1]
        cases b1 with
        | true => rfl
        | false => simpa using q
      · cases e
    · cases e
theorem isTys_first {x : D} {ts : List D} {b : Bool} (h : isTys x ts = some b) (hne : ts ≠ []) : ∃ n r, fIsTy [x, .ty n] = some r := by
  cases ts with
  | nil => exact absurd rfl hne
  | cons d ts =>
    unfold isTys at h
    split at h
    · rename_i e2; cases e2
    · rename_i n r e2
      split at h
      · rename_i q1 q2; exact ⟨_, _, q1⟩
      · cases h
    · cases h
theorem fd_isTyT {K : PySem.W.Frag} {mg : MG} (ic : IsiC K mg) : FnD K mg (rIsiT K) fIsTyT := fun F H xs vs z Q e hx hz q => by
  unfold fIsTyT at hz
  split at hz
  · rename_i x t0 ts
    obtain ⟨b, hb, rfl⟩ := Option.map_eq_some_iff.mp hz
    obtain ⟨v, u, rfl, h1, h2⟩ := fb2 hx
    obtain ⟨p, us, rfl, k1, k2⟩ := h2
    have kp : ∀ (ns : List String) (us : List V), FzL K mg F (ns.map .ty) us → Paired ClsV us (ns.map Value.type) := by
      intro ns
      induction ns with
      | nil => intro us h; have h : us = [] := h; subst h; exact .nil
      | cons n ns ih =>
        intro us h
        obtain ⟨w, r, rfl, h3, h4⟩ := h
        have h3 : w = .ty n := h3
        subst h3
        exact .cons (ClsV.ty n) (ih r h4)
    obtain ⟨n0, r0, h0⟩ := isTys_first hb (by simp)
    obtain ⟨t, ht, hk⟩ := ty_kit ic e h1 h0
    obtain ⟨ns, en, hq⟩ := isTys_kit hk _ _ hb
    rw [en] at k2
    exact ⟨v, p, us, t, ns.map Value.type, b, rfl, e.ex _ _ rfl k1, kp ns us k2, ht, hq, q.here e rfl⟩
  · cases hz
end Mi

set_option Elab.async false
set_option linter.all false
set_option maxRecDepth 100000
set_option maxHeartbeats 1000000
namespace Mi
open PySem PySem.Spec PyProof.Rows L2

/-- a block within a block -/
theorem relab_look {env : PySem.Env} {x : Str} : ∀ {names : List (Str × NameKind)}, names.lookup x = some .cell ∨ names.lookup x = some .free →
    (names.map fun (n, k) => if (k == NameKind.free && env.scope.kind == .function && env.kindOf n == some .cell) then (n, NameKind.cell) else (n, k)).lookup x = some .cell ∨ (names.map fun (n, k) => if (k == NameKind.free && env.scope.kind == .function && env.kindOf n == some .cell) then (n, NameKind.cell) else (n, k)).lookup x = some .free
  | [], h => by simp at h
  | (n, k) :: r, h => by
    simp only [List.map_cons, List.lookup_cons] at h ⊢
    by_cases e : (x == n) = true
    · rw [e] at h
      simp only [Option.some.injEq] at h
      by_cases c : (k == NameKind.free && env.scope.kind == .function && env.kindOf n == some .cell) = true
      · rw [if_pos c, List.lookup_cons, e]; exact .inl rfl
      · rw [if_neg c, List.lookup_cons, e]; simpa using h
    · have e : (x == n) = false := by simpa using e
      rw [e] at h
      have ih := relab_look (env := env) (names := r) h
      by_cases c : (k == NameKind.free && env.scope.kind == .function && env.kindOf n == some .cell) = true
      · rw [if_pos c, List.lookup_cons, e]; exact ih
      · rw [if_neg c, List.lookup_cons, e]; exact ih
theorem blkOk_in {X : Cx} {s : Shared} {H : Hp} {sc scope : Scope} {cl : List (Str × Addr)} {C : Addr} {fp : List Addr} {own : List (Str × Nat)} {N : List Str} (hN : X.N = N) (h : blkC N sc scope own = true) :
    BlkOk (X.blk s H sc (compEnvC sc cl C X.env) fp).N (X.blk s H sc (compEnvC sc cl C X.env) fp).env.scope scope own := by
  subst hN
  have b := blkOk_by h
  exact ⟨b.kind, b.uniq, b.ix, fun y hy e => relab_look (b.free y hy e), b.own⟩
/-! ## a, b = x, y and a, b, c = x, y, z -/
def mPar2 (i j : Nat) (ma : MA) : MS := fun env => (ma env).bind fun (ds, e1) => match ds with
  | [d1, d2] => .ok (.nx, (e1.set i (.fz d1)).set j (.fz d2))
  | _ => .bad
def mPar3 (i j l : Nat) (ma : MA) : MS := fun env => (ma env).bind fun (ds, e1) => match ds with
  | [d1, d2, d3] => .ok (.nx, ((e1.set i (.fz d1)).set j (.fz d2)).set l (.fz d3))
  | _ => .bad
section
variable {X : Cx} {W : WX} {ma : MA}
theorem ss_par2 {i j : Nat} {x y : Str} {a b : Expr} {px py pt pos : Pos} {kt k2 pt2} (hc : X.calm = true) (hN : X.N.Nodup) (hi : X.N[i]? = some x) (hj : X.N[j]? = some y) (hij : i ≠ j)
    (hx : X.env.scope.names.lookup x = some .local) (hy : X.env.scope.names.lookup y = some .local) (ha : PA X [a, b] (tMA X.K X.mg W ma))
    (hw : swappedStores [.Tuple [.Name x px, .Name y py] kt pt] (.Tuple [a, b] k2 pt2) X.env = pure (some [x, y]) := by rfl)
    (hs : swapsWithSole [.Tuple [.Name x px, .Name y py] kt pt] (.Tuple [a, b] k2 pt2) pos.line X.env = pure false := by rfl) :
    PS X (.Assign [.Tuple [.Name x px, .Name y py] kt pt] (.Tuple [a, b] k2 pt2) pos) (tMS X.K X.mg W (mPar2 i j ma)) := by
  refine PS_imp (ps_par hc hN hi hj hij hx hy ha hw hs) fun D σ H ⟨B, F, env, s, h⟩ => ?_
  refine ⟨B, F, env, s, (PstS.bind h).imp fun ds env1 F1 H1 s1 e1 h1 vs hv => ?_⟩
  simp only at h1
  split at h1
  · rename_i d1 d2
    obtain ⟨v, r, rfl, f1, w, r2, rfl, f2, rfl⟩ := hv
    exact ⟨v, w, rfl, h1 F1 _ H1 ((s1.setFz f1).setFz f2) (Ex.refl F1)⟩
  · exact h1.elim
theorem ss_par3 {i j l : Nat} {x y z : Str} {a b c : Expr} {px py pz pt pos : Pos} {kt k2 pt2} (hc : X.calm = true) (hN : X.N.Nodup) (hi : X.N[i]? = some x) (hj : X.N[j]? = some y) (hl : X.N[l]? = some z) (hij : i ≠ j) (hil : i ≠ l) (hjl : j ≠ l)
    (hx : X.env.scope.names.lookup x = some .local) (hy : X.env.scope.names.lookup y = some .local) (hz : X.env.scope.names.lookup z = some .local) (ha : PA X [a, b, c] (tMA X.K X.mg W ma))
    (hw : swappedStores [.Tuple [.Name x px, .Name y py, .Name z pz] kt pt] (.Tuple [a, b, c] k2 pt2) X.env = pure (some [x, y, z]) := by rfl)
    (hs : swapsWithSole [.Tuple [.Name x px, .Name y py, .Name z pz] kt pt] (.Tuple [a, b, c] k2 pt2) pos.line X.env = pure false := by rfl) :
    PS X (.Assign [.Tuple [.Name x px, .Name y py, .Name z pz] kt pt] (.Tuple [a, b, c] k2 pt2) pos) (tMS X.K X.mg W (mPar3 i j l ma)) := by
  refine PS_imp (ps_par3 hc hN hi hj hl hij hil hjl hx hy hz ha hw hs) fun D σ H ⟨B, F, env, s, h⟩ => ?_
  refine ⟨B, F, env, s, (PstS.bind h).imp fun ds env1 F1 H1 s1 e1 h1 vs hv => ?_⟩
  simp only at h1
  split at h1
  · rename_i d1 d2 d3
    obtain ⟨v, r, rfl, f1, w, r2, rfl, f2, u, r3, rfl, f3, rfl⟩ := hv
    exact ⟨v, w, u, rfl, h1 F1 _ H1 (((s1.setFz f1).setFz f2).setFz f3) (Ex.refl F1)⟩
  · exact h1.elim
end
end Mi

set_option Elab.async false
set_option linter.all false
set_option maxRecDepth 100000
set_option maxHeartbeats 1000000
namespace Mi
open PySem PySem.Spec PyProof.Rows L2 RZ

/-! ## zip -/
def zpD : D → D → Option (List D)
  | .lst a, .lst b => some ((a.zip b).map fun p => .tup [p.1, p.2])
  | .tup a, .tup b => some ((a.zip b).map fun p => .tup [p.1, p.2])
  | _, _ => none
def mZip (m : MA) : MA := fun env => (m env).bind fun (ds, e1) => match ds with
  | [x, y] => (match zpD x y with
    | some r => .ok (r, e1)
    | none => .bad)
  | _ => .bad
theorem walk_zipT {K : PySem.W.Frag} {a b : Addr} {xs ys : List V} {n : Nat} (hn : n = min xs.length ys.length) : Walk (ItzT K a b) n (fun H => SqT K H a xs ∧ SqT K H b ys) (YPair (fun i => xs[i]?) (fun i => ys[i]?)) where
  goes := fun i _ hi q => by
    have h1 : i < xs.length := by omega
    have h2 : i < ys.length := by omega
    exact ⟨xs, ys, xs[i], ys[i], q.1, q.2, by simp [h1], by simp [h2]⟩
  stops := fun _ q => ⟨xs, ys, q.1, q.2, by omega⟩
  yields := fun i H v H' _ q y => by
    obtain ⟨T, x, z, h1, h2, h3, h4, h5⟩ := y
    exact ⟨T, x, z, h1, h2, h3, h4 xs q.1, h5 ys q.2⟩
section
variable {K : PySem.W.Frag} {mg : MG} {F F1 H H' : Hp}
theorem zip_step {ds es : List D} {vs us : List V} {i : Nat} {x : V} (hd : FzL K mg F ds vs) (he : FzL K mg F es us) (e1 : Ex F F1) (e2 : Ex F1 H) (y : YPair (fun i => vs[i]?) (fun i => us[i]?) i H x H') :
    ∃ F2 d, ((ds.zip es).map fun p => D.tup [p.1, p.2])[i]? = some d ∧ Step [] F1 H F2 H' ∧ Fz K mg F2 d x := by
  obtain ⟨T, u, v, rfl, hT, rfl, hu, hv⟩ := y
  obtain ⟨d, q1, f1⟩ := hd.getV hu
  obtain ⟨c, q2, f2⟩ := he.getV hv
  have st := Step.laid (o := .tup [u, v]) e2 hT
  refine ⟨_, .tup [d, c], ?_, st, T, _, rfl, upd_same, .cons ((f1.ex e1).ex st.fF) (.cons ((f2.ex e1).ex st.fF) .nil)⟩
  rw [List.getElem?_map, show (ds.zip es)[i]? = some (d, c) from List.getElem?_zip_eq_some.mpr ⟨q1, q2⟩]; rfl
end
section
variable {X : Cx} {W : WX} {e e2 : Expr} {m : MA} {p pos tpos : Pos} {elts : List Expr} {kk : Nat}
theorem si_zip (hg : Gl X "zip") (hm : X.mg "zip" = none) (h : PA X [e, e2] (tMA X.K X.mg W m)) (hs : starEach [e, e2] X.env = (false, eval e X.env) :: starEach [e2] X.env := by rfl) (hpl : (backTo pos (starEach [e2] X.env)).any (·.1) = false := by rfl) :
    PI X (.Tuple elts kk tpos) (.Call (.Name "zip" p) [e, e2] [] pos) (tMI X.K X.mg W (mZip m)) := by
  refine PI_imp (pi_zipA hg hm h hs hpl) fun σ H R ⟨B, F, env, s, q⟩ => ?_
  refine ⟨B, F, env, s, (Pst.bind q).imp fun ds env1 F1 H1 s1 ex1 h1 vs hv => ?_⟩
  simp only at h1
  split at h1
  · rename_i x y
    obtain ⟨v, r, rfl, f1, w, r2, rfl, f2, rfl⟩ := hv
    cases hz : zpD x y with
    | none => rw [hz] at h1; exact h1.elim
    | some zs =>
      rw [hz] at h1
      have q2 := h1 F1 H1 s1 (Ex.refl F1)
      cases x with
      | lst ds =>
        cases y with
        | lst es =>
          cases hz
          obtain ⟨a, us, rfl, k1, k2⟩ := f1
          obtain ⟨b, ws, rfl, k3, k4⟩ := f2
          refine ⟨a, b, us, ws, rfl, .inl ⟨s1.fH.sqL k1, s1.fH.sqL k3, q2 _ ⟨_, _, walk_zip ?_, fun H e => ⟨e.sqL k1, e.sqL k3⟩, fun F2 i H x H' hi e1 e2 y => zip_step k2 k4 e1 e2 y⟩⟩⟩
          rw [List.length_map, List.length_zip, k2.length, k4.length]
        | _ => cases hz
      | tup ds =>
        cases y with
        | tup es =>
          cases hz
          obtain ⟨a, us, rfl, k1, k2⟩ := f1
          obtain ⟨b, ws, rfl, k3, k4⟩ := f2
          have t1 : ∀ H, Ex F1 H → SqT X.K H a us := fun H e => .inl (.inl (e.ex _ _ rfl k1))
          have t2 : ∀ H, Ex F1 H → SqT X.K H b ws := fun H e => .inl (.inl (e.ex _ _ rfl k3))
          refine ⟨a, b, us, ws, rfl, .inr ⟨t1 H1 s1.fH, t2 H1 s1.fH, q2 _ ⟨_, _, walk_zipT ?_, fun H e => ⟨t1 H e, t2 H e⟩, fun F2 i H x H' hi e1 e2 y => zip_step k2 k4 e1 e2 y⟩⟩⟩
          rw [List.length_map, List.length_zip, k2.length, k4.length]
        | _ => cases hz
      | _ => cases hz
  · exact h1.elim
end
/-! ## a def that calls itself: what is promised of no turn -/
theorem fn_bad {P : Program} {w : World} {K : PySem.W.Frag} {mg : MG} {base : Heap} {k : Nat} {f : Addr} {fd : FuncData} {ps : List Str} : FnOk P w K mg base (L2.CX P w) k f fd ps (spP K mg fun _ => .bad) :=
  ⟨fun _ _ _ _ ⟨_, _, _, _, h⟩ => h.elim, fun _ _ _ _ _ _ _ _ _ _ _ _ _ ⟨_, _, _, _, h⟩ => h.elim⟩
end Mi

set_option Elab.async false
set_option linter.all false
set_option maxRecDepth 100000
namespace Mi
open PySem PySem.Spec PyProof.Rows L2

/-! ## s[::-1], a list or a tuple -/
section
variable {prog : Program} {w : World} {A : Around} {E : Value → Shared → Prop} {s : Shared}
theorem applied_rev {sl : Addr} {vs : Value} {n : Nat} {Q : Int × Int × Nat → Shared → Prop} (hs : s.heap.IsSliceOf sl .none .none vs) (ps : IsPart vs (some (-1))) (h : Q ((n : Int) - 1, -1, n) s) :
    wpAny (model prog w) A (Builtin.Slice.sliceApplied (.ref sl) (pure (n : Int))) Q E s := by
  obtain ⟨o, ho, hc, hd⟩ := id hs
  unfold Builtin.Slice.sliceApplied Builtin.Slice.sliceFields
  refine wpAny_bind (wpAny_bind (wpAny_field ho hd (x := .none) rfl (wpAny_bind (wpAny_field ho hd (x := .none) rfl (wpAny_bind (wpAny_field ho hd (x := vs) rfl (wpAny_pure ?_)))))))
  refine wpAny_bind (HT.slicePart_ ps ?_)
  show wpAny _ _ (if ((-1 : Int) == 0) = true then _ else _) _ _ s
  rw [if_neg (by decide)]
  refine wpAny_bind (HT.slicePart_ .none (wpAny_bind (HT.slicePart_ .none (wpAny_bind (wpAny_pure (wpAny_pure ?_))))))
  have e1 : Builtin.Slice.sliceAdjust none none (-1) (n : Int) = ((n : Int) - 1, -1) := by
    unfold Builtin.Slice.sliceAdjust
    simp
  have e2 : Builtin.Slice.slicePlaces ((n : Int) - 1) (-1) (-1) = n := by
    unfold Builtin.Slice.slicePlaces
    rw [if_neg (by omega)]
    split
    · simp
    · omega
  show Q ((Builtin.Slice.sliceAdjust none none (-1) (n : Int)).1, -1, Builtin.Slice.slicePlaces (Builtin.Slice.sliceAdjust none none (-1) (n : Int)).1 (Builtin.Slice.sliceAdjust none none (-1) (n : Int)).2 (-1)) s
  rw [e1, e2]
  exact h
theorem pick_rev (xs : Array Value) : ((List.range xs.size).filterMap fun (m : Nat) => xs[(((xs.size : Int) - 1) + (m : Int) * (-1)).toNat]?).toArray = xs.toList.reverse.toArray := by
  congr 1
  apply List.ext_getElem?
  intro i
  have e : (fun (m : Nat) => xs[(((xs.size : Int) - 1) + (m : Int) * (-1)).toNat]?) = fun m => xs[xs.size - 1 - m]? := by
    funext m
    congr 1
    omega
  rw [e]
  have := PySem.W.krv_all xs
  have h2 := PySem.W.krv_range xs.size
  have h3 : (List.range xs.size).filterMap (fun m => xs[xs.size - 1 - m]?) = ((List.range xs.size).map fun k => xs.size - 1 - k).filterMap (xs[·]?) := by
    rw [List.filterMap_map]; rfl
  rw [h3, h2, List.filterMap_reverse, this]
theorem item_rev {t sl : Addr} {items : Array Value} {vs : Value} {Q : Value → Shared → Prop} (ht : IsTup s.heap t items) (hs : s.heap.IsSliceOf sl .none .none vs) (ps : IsPart vs (some (-1)))
    (h : Q (.ref s.heap.objs.size) { s with heap := s.heap.push { cls := .type "tuple", data := .seq items.toList.reverse.toArray } }) (hsz : items.size ≤ sizeLine) : wpAny (model prog w) A (getItem (.ref t) (.ref sl)) Q E s := by
  have hz : sizeOk (.seq items.toList.reverse.toArray) := by
    show items.toList.reverse.toArray.size ≤ sizeLine
    simpa using hsz
  obtain ⟨os, hos, hcs, hds⟩ := id hs
  have hT : s.TypeIs (.ref sl) "slice" := ⟨os, hos, hcs⟩
  unfold getItem
  try with_reducible refine wpAny_holding ?_
  first | refine wpAny_bind (wpAny_pure ?_) | skip
  refine wpAny_bind (wpAny_sequenceKey ht.typeIs (by decide) ?_)
  refine wpAny_bind (wpAny_callSpecial?_slot (name := Str.ofString "__getitem__") ht.typeIs PyProof.Rows.slot_tuple_getitem
    (wpAny_call_entry PyProof.Rows.slot_tuple_getitem ht.typeIs PyProof.Rows.entry_tuple_getitem ?_ (PyProof.Rows.args_tuple_getitem _ _)))
  show wpAny _ _ (Builtin.Tuple.tupleItemsOf (.ref t) >>= _) _ _ s
  refine wpAny_bind (tupleItemsOf_ ht ?_)
  refine wpAny_bind (wpAny_typeOf hT ?_)
  rw [if_pos (by decide)]
  refine wpAny_bind (applied_rev hs ps ?_)
  have hno : ¬ ((((items.size : Int) - 1 == 0) && ((-1 : Int) == 1) && (items.size == items.size)) = true) := by
    intro q
    rw [Bool.and_eq_true, Bool.and_eq_true] at q
    exact absurd q.1.2 (by decide)
  show wpAny _ _ (if (((items.size : Int) - 1 == 0) && ((-1 : Int) == 1) && (items.size == items.size)) = true then _ else _) _ _ s
  rw [if_neg hno, pick_rev]
  first
    | exact wpAny_bind (m := Builtin.Tuple.tupleExact _) (wpAny_newObj_type (wpAny_pure ⟨_, rfl, wpAny_pure h⟩) hz)
    | exact wpAny_bind (m := Builtin.Tuple.tupleExact _) (wpAny_newObj_type (wpAny_bind (wpAny_pure (wpAny_pure ⟨_, rfl, wpAny_pure h⟩))) hz)
    | exact wpAny_bind (wpAny_bind (m := Builtin.Tuple.tupleExact _) (wpAny_newObj_type (wpAny_pure (wpAny_pure ⟨_, rfl, wpAny_pure h⟩)) hz))
    | exact wpAny_bind (wpAny_bind (m := Builtin.Tuple.tupleExact _) (wpAny_newObj_type (wpAny_pure ⟨_, rfl, wpAny_pure h⟩) hz))
end
def tRevA (K : PySem.W.Frag) (te : TE) : TE := fun σ H Q => te σ H fun x H1 => ∃ a xs, x = .ref a ∧ ((SqL K H1 a xs ∧ ∀ p, H1 p = none → Q (.ref p) (upd H1 p (.lst xs.reverse))) ∨ (SqT K H1 a xs ∧ ∀ p, H1 p = none → Q (.ref p) (upd H1 p (.tup xs.reverse))))
theorem pe_revA {X : Cx} {e : Expr} {te : TE} {k : Nat} {p1 p2 p3 pos : Pos} (he : PE X e te) : PE X (.Subscript e (.Slice none none (some (.UnaryOp .USub (.Constant (.int 1) k p1) p2)) p3) pos) (tRevA X.K te) := by
  refine ⟨fun pins s σ H Q I h => ?_⟩
  refine Subscript_ (thn (he.run pins s σ H _ I h) fun v s1 ⟨x, H1, I1, r1, a, xs, ex, q⟩ => ?_)
  subst ex
  cases r1
  have hst : PO X (some (.UnaryOp .USub (.Constant (.int 1) k p1) p2)) (tPart (tUn (rU fun i => .int (-i)) (tC (.int 1)))) := po_some (pe_un un_neg pe_int)
  refine wpAny_Slice (thn (po_none.run pins s1 σ H1 (fun o H2 => o = none ∧ H2 = H1) I1 ⟨rfl, rfl⟩) fun vl s2 ⟨l, H2, I2, pl, el, e2⟩ => ?_)
  subst el e2
  refine thn (po_none.run pins s2 σ H2 (fun o H3 => o = none ∧ H3 = H2) I2 ⟨rfl, rfl⟩) fun vu s3 ⟨u, H3, I3, pu, eu, e3⟩ => ?_
  subst eu e3
  refine thn (hst.run pins s3 σ H3 (fun o H4 => o = some (-1) ∧ H4 = H3) I3 ⟨1, rfl, -1, rfl, rfl, rfl⟩) fun vs s4 ⟨o, H4, I4, ps, eo, e4⟩ => ?_
  subst eo e4
  have I5 : Inv X pins σ H4 { s4 with heap := s4.heap.push { cls := .type "slice", data := .fields #[vl, vu, vs] } } := I4.kept (t' := s4.toks) fun b ob q => Heap.get?_push_of_some _ q
  show wpAny (model X.prog X.w) X.A (subscriptTail e (.Slice none none (some (.UnaryOp .USub (.Constant (.int 1) k p1) p2)) p3) (.ref a) (.ref s4.heap.objs.size)) (EP X pins σ Q) X.xe { s4 with heap := s4.heap.push { cls := .type "slice", data := .fields #[vl, vu, vs] } }
  rcases q with ⟨hx, q⟩ | ⟨hx, q⟩
  · obtain ⟨its, r, ht, hz⟩ := I5.list hx
    have hlen := r.length
    refine tail_any (ops := [.ref a, .ref s4.heap.objs.size]) ht.isList.typeIs (PySem.slot_list_getitem.lookup) ?_ (by with_unfolding_all rfl)
    refine wpAny_getItem_list_slice ht.isList (Heap.IsSliceOf.new _ vl vu vs) pl pu ps (by decide) ?_ (by rw [List.size_toArray]; omega)
    rw [PySem.W.krv_pick]
    refine ⟨.ref _, _, I5.laid (t' := s4.toks) (o := .lst xs.reverse) (fun b ob q => Heap.get?_push_of_some _ q) (Nat.le_refl _) ?_, rfl, q _ (I5.hok.fresh (Nat.le_refl _))⟩
    exact ⟨by rw [List.length_reverse]; exact hz, _, 0, r.reverse, Heap.get?_push_size _ rfl⟩
  · obtain ⟨its, r, ht, hz⟩ := I5.tuple hx
    have hlen := r.length
    cases pl
    cases pu
    refine tail_any (ops := [.ref a, .ref s4.heap.objs.size]) ht.typeIs (PyProof.Rows.slot_tuple_getitem.lookup) ?_ (by with_unfolding_all rfl)
    refine item_rev ht (Heap.IsSliceOf.new _ _ _ vs) ps ?_ (by rw [List.size_toArray]; omega)
    refine ⟨.ref _, _, I5.laid (t' := s4.toks) (o := .tup xs.reverse) (fun b ob q => Heap.get?_push_of_some _ q) (Nat.le_refl _) ?_, rfl, q _ (I5.hok.fresh (Nat.le_refl _))⟩
    exact ⟨by rw [List.length_reverse]; exact hz, _, r.reverse, IsTup.new _ _⟩
def dRevA : D → Option D
  | .lst ds => some (.lst ds.reverse)
  | .tup ds => some (.tup ds.reverse)
  | _ => none
theorem se_revA {X : Cx} {W : WX} {e : Expr} {o : Opd} {k : Nat} {p1 p2 p3 pos : Pos} (he : PE X e (tOpd X.K X.mg W o)) : PE X (.Subscript e (.Slice none none (some (.UnaryOp .USub (.Constant (.int 1) k p1) p2)) p3) pos) (tM X.K X.mg W (mUn dRevA o)) := by
  refine PE_imp (pe_revA he) fun σ H Q h => ?_
  have ho : UnD X.K X.mg (fun x H Q => ∃ a xs, x = .ref a ∧ ((SqL X.K H a xs ∧ ∀ p, H p = none → Q (.ref p) (upd H p (.lst xs.reverse))) ∨ (SqT X.K H a xs ∧ ∀ p, H p = none → Q (.ref p) (upd H p (.tup xs.reverse))))) dRevA := fun F H x vx z Q ex hx hz q => by
    cases x with
    | lst ds =>
      cases hz
      obtain ⟨a, vs, rfl, h1, h2⟩ := hx
      refine ⟨a, vs, rfl, .inl ⟨h1, fun p hp => ?_⟩⟩
      have st := Step.laid (o := .lst vs.reverse) ex hp
      exact q _ _ _ st ⟨p, _, rfl, .inl (.inl upd_same), (h2.ex st.fF).rev⟩
    | tup ds =>
      cases hz
      obtain ⟨a, vs, rfl, h1, h2⟩ := hx
      refine ⟨a, vs, rfl, .inr ⟨.inl (.inl (ex.ex _ _ rfl h1)), fun p hp => ?_⟩⟩
      have st := Step.laid (o := .tup vs.reverse) ex hp
      exact q _ _ _ st ⟨p, _, rfl, upd_same, (h2.ex st.fF).rev⟩
    | _ => cases hz
  exact tM_un ho σ H Q h
end Mi

set_option Elab.async false
set_option linter.all false
set_option maxRecDepth 100000
namespace Mi
open PySem PySem.Spec PyProof.Rows L2

/-! ## try: several clauses, each with a name or without; nothing passes them -/
structure Cl where
  c : Value
  o : Option Nat
  ts : Addr → Value → Option Addr → TS
/-- the ends of a suite whose slot i goes -/
def endsG (D : Ends) (i : Nat) : Ends := { nx := fun σ H => D.nx (σ.set i none) H, rt := D.rt, bk := fun σ H => D.bk (σ.set i none) H, ct := fun σ H => D.ct (σ.set i none) H }
def Cl.go (k : Cl) (a : Addr) (cls : Value) (d : Option Addr) (D : Ends) (σ : L2.St) (H : Hp) : Prop := match k.o with
  | none => k.ts a cls d D σ H
  | some i => k.ts a cls d (endsG D i) (σ.set i (some (.ref a))) H
def wCl (K : PySem.W.Frag) (D : Ends) : List Cl → WX
  | [] => fun _ _ _ _ => False
  | k :: r => fun cls d σ H => ∃ b, PySem.W.exmOne K cls k.c = some b ∧ (b = true → ∀ a, H a = none → k.go a cls d D σ H) ∧ (b = false → wCl K D r cls d σ H)
abbrev SuiteOk (X : Cx) (sts : List Stmt) (ts : Addr → Value → Option Addr → TS) : Prop := ∀ (a : Addr) (oe : Obj) (cls : Value) (d : Option Addr) (pn : List (Addr × Obj)), Zc cls d oe → (∃ vs, oe.data = .fields vs) → PSs (X.suite a ((a, oe) :: pn)) sts (ts a cls d)
inductive ClsOk (X : Cx) : List ExceptHandler → List Cl → Prop
  | nil : ClsOk X [] []
  | one {x : Str} {c : Value} {ts : Addr → Value → Option Addr → TS} {b₀ : Stmt} {suite : List Stmt} {np p : Pos} {hds : List ExceptHandler} {l : List Cl} (hc : Names X x c) (hsu : SuiteOk X (b₀ :: suite) ts) (r : ClsOk X hds l) :
      ClsOk X (.ExceptHandler (some (.Name x np)) none (b₀ :: suite) p :: hds) (⟨c, none, ts⟩ :: l)
  | as {x n : Str} {i : Nat} {c : Value} {ts : Addr → Value → Option Addr → TS} {b₀ : Stmt} {suite : List Stmt} {np p : Pos} {hds : List ExceptHandler} {l : List Cl} (hN : X.N.Nodup) (hi : X.N[i]? = some n) (hln : X.env.kindOf n = some .local) (hc : Names X x c) (hsu : SuiteOk X (b₀ :: suite) ts) (r : ClsOk X hds l) :
      ClsOk X (.ExceptHandler (some (.Name x np)) (some n) (b₀ :: suite) p :: hds) (⟨c, some i, ts⟩ :: l)
section
variable {X : Cx} {body : List Stmt} {h₀ : ExceptHandler} {hds : List ExceptHandler} {l : List Cl} {pos : Pos} {tb : WX → TS}
theorem ps_try_cl (hs : X.stack = X.env :: X.outer) (hf : X.env.frame = some X.env.locals)
    (hb : ∀ (W : WX) (pn : List (Addr × Obj)) (xe : Value → Shared → Prop), Takes (X.tr pn xe) W → PassesOwn (model X.prog X.w) X.A X.env xe → PSs (X.tr pn xe) body (tb W))
    (hh : ClsOk X (h₀ :: hds) l) : PS X (.Try body (h₀ :: hds) [] [] pos) (fun D σ H => tb (wCl X.K D l) D σ H) := by
  refine ⟨fun pins s σ H D I h => ?_⟩
  have ok := I.ok
  have hfr : X.A.frames = some (X.env :: X.outer) := by rw [ok.frames, hs]
  refine wpAny_Try_except ?_
  have run := hb (wCl X.K D l) (X.pn ++ pins) (fun e s₁ => wpAny (model X.prog X.w) X.A (noteFrame e X.env) (fun _ s₂ => wpAny (model X.prog X.w) X.A (setFlight e none) (fun _ s₃ =>
    wpAny (model X.prog X.w) X.A (handleBy e X.env (h₀ :: hds)) (SP X pins D) X.xe s₃) X.xe s₂) X.xe s₁)
  refine wpAny_mono ((run (fun u s' xx => ?_) PassesOwn.looking).run [] s σ H D (I.toTry _) h) (fun f s1 hsp => ?_) (fun e s1 he => he)
  · obtain ⟨a, B, sI, pins', σ', H', cls, d, rfl, J', nb, up, sky, na, os, ag, w⟩ := xx
    have J : Inv X pins σ' H' sI := J'.ofTry ok
    have sky' : Sky B (X.env :: X.outer) a (Zc cls d) X.env.locals s'.heap := by rw [← hs]; exact sky
    show wpAny (model X.prog X.w) X.A (noteFrame (.ref a) X.env) _ _ _
    refine Sky.land Zc.steady hfr hf sky' fun h3 fl3 up3 => ?_
    have J3 : Inv X pins σ' H' { s' with heap := h3 } := J.landed nb fl3.1 (up.trans up3) os ag
    obtain ⟨oe3, vs3, he3, hz3, hd3⟩ := fl3.there
    have nfr : a ∉ frs (X.env :: X.outer) := fun hm => by
      obtain ⟨_, o', e', hnf⟩ := fl3.2.2.1.mem hm
      rw [he3] at e'; cases e'
      exact hnf _ hd3
    have nL : a ≠ X.env.locals := fun z => nfr (List.mem_filterMap.mpr ⟨X.env, List.mem_cons_self, by rw [hf, z]⟩)
    have nF : a ∉ X.fs := fun hm => by
      obtain ⟨e, he, q⟩ := List.mem_filterMap.mp hm
      exact nfr (List.mem_filterMap.mpr ⟨e, List.mem_cons_of_mem _ he, q⟩)
    have S3 := J3.suite he3 hd3 na nL nF
    have LT : PySem.W.Looks (model X.prog X.w) h3 (typeOf (.ref a)) cls := fun A Q E s k q => wpAny_typeOf_ref (k _ _ he3) (by rw [hz3.1]; exact q)
    have test : ∀ {x : Str} {c : Value} {np : Pos} {Q : Value → Shared → Prop} {E : Value → Shared → Prop}, Names X x c → Q c { s' with heap := h3 } → wpAny (model X.prog X.w) (X.A.mark (some (.ref a))) (eval (.Name x np) X.env) Q E { s' with heap := h3 } := fun hc q => by
      obtain ⟨hg, hdbg, hm | ⟨hm, hv, hnn⟩⟩ := hc
      · exact ld_glob (X := X.suite a ((a, oe3) :: (X.pn ++ pins))) S3 hg hm q hdbg
      · exact ld_blt (X := X.suite a ((a, oe3) :: (X.pn ++ pins))) S3 hg hm hv q hnn hdbg
    have again : ∀ {h4 : Heap}, HandSPX.FlyingZ B (X.env :: X.outer) a (Zc cls d) h4 ∧ h3.UpToSlots h4 → ∃ oe4, Zc cls d oe4 ∧ (∃ vs, oe4.data = .fields vs) ∧ Inv (X.suite a ((a, oe4) :: (X.pn ++ pins))) [] σ' H' { s' with heap := h4 } := fun {h4} ⟨fl4, up4⟩ => by
      have J4 : Inv X pins σ' H' { s' with heap := h4 } := J.landed nb fl4.1 ((up.trans up3).trans up4) os ag
      obtain ⟨oe4, vs4, he4, hz4, hd4⟩ := fl4.there
      exact ⟨oe4, hz4, ⟨_, hd4⟩, J4.suite he4 hd4 na nL nF⟩
    have go : ∀ {hds' : List ExceptHandler} {l' : List Cl}, ClsOk X hds' l' → wCl X.K D l' cls d σ' H' →
        wpAny (model X.prog X.w) X.A (handleBy (.ref a) X.env hds') (SP X pins D) X.xe { s' with heap := h3 } := by
      intro hds' l' hk
      induction hk with
      | nil => exact fun w => w.elim
      | @one x c ts b₀ suite np p hds2 l2 hc hsu r ih =>
        rintro ⟨b, hb1, hyes, hno⟩
        refine wpAny_handleBy_cons (codeAny_handlers_test ?_) (by intro q; cases q)
        refine test hc ((PySem.W.exm_one (M := model X.prog X.w) (J3.kIn) LT hb1).here ?_)
        cases b with
        | false => exact ih (hno rfl)
        | true =>
          refine codeAny_handlers_suite ?_
          refine HandSPX.lands_againZ fl3 fun h4 fl4 up4 => ?_
          obtain ⟨oe4, hz4, hd4, S4⟩ := again ⟨fl4, up4⟩
          refine wpAny_mono ((hsu a oe4 cls d (X.pn ++ pins) hz4 hd4).run [] _ _ H' _ S4 (hyes rfl a na)) (fun f s6 hsp => ?_) (fun _ _ z => False.elim z)
          cases f with
          | ret u =>
            obtain ⟨v6, σ6, H6, S6, r6, q6⟩ := hsp
            exact ⟨_, _, _, S6.unsuite ok, r6, q6⟩
          | _ =>
            obtain ⟨σ6, H6, S6, q6⟩ := hsp
            exact ⟨_, _, S6.unsuite ok, q6⟩
      | @as x n i c ts b₀ suite np p hds2 l2 hN hi hln hc hsu r ih =>
        rintro ⟨b, hb1, hyes, hno⟩
        refine wpAny_handleBy_cons (codeAny_handlers_test ?_) (by intro q; cases q)
        refine test hc ((PySem.W.exm_one (M := model X.prog X.w) (J3.kIn) LT hb1).here ?_)
        cases b with
        | false => exact ih (hno rfl)
        | true =>
          refine codeAny_handlers_suite_as ?_
          refine HandSPX.lands_againZ fl3 fun h4 fl4 up4 => ?_
          obtain ⟨oe4, hz4, hd4, S4⟩ := again ⟨fl4, up4⟩
          refine store_ok (X := X.suite a ((a, oe4) :: (X.pn ++ pins))) (v := .ref a) S4 hN hi (.inl hln) rfl (fun s5 S5 => ?_) (.inr hln)
          refine wpAny_mono ((hsu a oe4 cls d (X.pn ++ pins) hz4 hd4).run [] s5 _ H' _ S5 (hyes rfl a na)) (fun f s6 hsp => ?_) (fun _ _ z => False.elim z)
          cases f with
          | ret u =>
            obtain ⟨v6, σ6, H6, S6, r6, q6⟩ := hsp
            exact gone_ok (S6.unsuite ok) hN hi hln fun s7 J7 => ⟨_, _, _, J7, r6, q6⟩
          | _ =>
            obtain ⟨σ6, H6, S6, q6⟩ := hsp
            exact gone_ok (S6.unsuite ok) hN hi hln fun s7 J7 => ⟨_, _, J7, q6⟩
    exact go hh w
  · cases f with
    | next =>
      obtain ⟨σ', H', J', q⟩ := hsp
      exact wpAny_execs_nil ⟨σ', H', J'.ofTry ok, q⟩
    | ret u =>
      obtain ⟨v, σ', H', J', r, q⟩ := hsp
      exact ⟨v, σ', H', J'.ofTry ok, r, q⟩
    | _ =>
      obtain ⟨σ', H', J', q⟩ := hsp
      exact ⟨σ', H', J'.ofTry ok, q⟩
end
end Mi

set_option Elab.async false
set_option linter.all false
set_option maxRecDepth 100000
namespace Mi
open PySem PySem.Spec PyProof.Rows L2

/-! ## in a clause with a name: slot i holds the exception at a -/
def tE (i : Nat) (a : Addr) (t : TS) : TS := fun D σ H => σ[i]? = some (some (.ref a)) ∧ t D σ H
def tEe (i : Nat) (a : Addr) (t : TE) : TE := fun σ H Q => σ[i]? = some (some (.ref a)) ∧ t σ H Q
section
variable {X : Cx} {W : WX} {a D : Addr} {oe : Obj} {pn : List (Addr × Obj)} {i : Nat} {n : Str} {st : Stmt} {sts : List Stmt} {ma mb : MS}
/-- a class by its name: what isinstance asks -/
structure ClsN (Y : Cx) (D : Addr) (x : Str) (b : Bool) : Prop where
  ex : ∃ (v : V) (cv : Value), (∀ u, RelV v u → u = cv) ∧ PySem.W.kitOne Y.K (.ref D) cv = some b ∧ ∀ (p : Pos), PE Y (.Name x p) (tC v)
theorem clsN_own {Y : Cx} {C : Addr} {x : Str} {b : Bool} (hm : Y.mg x = some (.ref C)) (hk : PySem.W.kitOne Y.K (.ref D) (.ref C) = some b) (hg : Gl Y x) (hd : (x == ("__debug__" : Str)) = false := by decide) : ClsN Y D x b :=
  ⟨.ref C, .ref C, fun u h => h, hk, fun p => pe_glob hg hm rfl hd⟩
theorem clsN_blt {Y : Cx} {T : String} {x : Str} {b : Bool} (hm : Y.mg x = none) (hv : bootBuiltins x = some (.type T)) (hk : PySem.W.kitOne Y.K (.ref D) (.type T) = some b) (hg : Gl Y x) (hn : x ≠ "__name__" := by decide) (hd : (x == ("__debug__" : Str)) = false := by decide) : ClsN Y D x b :=
  ⟨.ty T, .type T, fun u h => h, hk, fun p => pe_bltn hg hm hv rfl hn hd⟩
theorem pe_isE {Y : Cx} (i : Nat) {x n : Str} {b : Bool} {p p1 p2 pos : Pos} (hI : CallR Y (.builtin "isinstance") (rIsE Y.K D a)) (hm : Y.mg "isinstance" = none) (t : ClsN Y D x b) (hg : Gl Y "isinstance") (hN : Y.N[i]? = some n := by rfl) (hv : Vis Y.env.scope n := by first | exact Or.inl rfl | exact Or.inr (Or.inl rfl) | exact Or.inr (Or.inr rfl))
    (hd : (n == ("__debug__" : Str)) = false := by decide) (hcd : (n == ("__classdict__" : Str)) = false := by decide) :
    PE Y (.Call (.Name "isinstance" p) [.Name n p1, .Name x p2] [] pos) (tEe i a fun σ H Q => Q (.bl b) H) := by
  obtain ⟨v, cv, h1, h2, h3⟩ := t.ex
  refine PE_imp (pe_callB hI hg hm boot_isinstance (pa_cons (pe_var hN hv hd hcd) (pa_cons (h3 _) pa_nil))) fun σ H Q ⟨e, q⟩ => ?_
  exact ⟨.ref a, e, v, cv, b, rfl, h1, h2, q⟩
theorem pe_isE2 {e1 e2 : Expr} {b1 b2 : Bool} {pos : Pos} (h1 : PE X e1 (tEe i a fun σ H Q => Q (.bl b1) H)) (h2 : PE X e2 (tEe i a fun σ H Q => Q (.bl b2) H)) : PE X (.BoolOp .And [e1, e2] pos) (tEe i a fun σ H Q => Q (.bl (b1 && b2)) H) := by
  refine PE_imp (pe_and h1 (pe_one h2)) fun σ H Q ⟨e, q⟩ => ⟨e, b1, rfl, ?_⟩
  cases b1 with
  | true => rw [if_pos rfl]; exact ⟨e, q⟩
  | false => rw [if_neg (by simp)]; exact q
theorem ss_setE {j : Nat} {x : Str} {e : Expr} {b : Bool} {pos pos' : Pos} (hN : X.N.Nodup) (hi : X.N[j]? = some x) (hx : Loc X.env.scope x) (he : PE X e (tEe i a fun σ H Q => Q (.bl b) H)) (hs : swapsWith e (some (.Name x pos')) pos.line X.env = pure false := by rfl)
    (hf : X.fn x = true ∨ X.env.scope.names.lookup x = some .local := by first | exact .inl rfl | exact .inr rfl | assumption) : PS X (.Assign [.Name x pos'] e pos) (tE i a (tMS X.K X.mg W (mAsg j (mK (.bl b))))) := by
  refine PS_imp (ps_set hN hi hx he hs hf) fun D σ H ⟨e, h⟩ => ⟨e, ?_⟩
  obtain ⟨B, F, env, s, h⟩ := h
  have h := (PstS.bind (σ := σ) h) F H s (Ex.refl F)
  exact h F _ H (s.setFz (v := .bl b) rfl) (Ex.refl F)
theorem sss_E (h1 : PS X st (tE i a (tMS X.K X.mg W ma))) (h2 : PSs X sts (tMS X.K X.mg W mb)) : PSs X (st :: sts) (tE i a (tMS X.K X.mg W (mSeq ma mb))) := by
  refine PSs_imp (pss_cons h1 h2) fun D σ H ⟨e, B, F, env, s, h⟩ => ⟨e, B, F, env, s, ?_⟩
  unfold mSeq at h
  cases r : ma env with
  | bad => rw [r] at h; exact h
  | exc x e1 => rw [r] at h; exact h
  | ok p =>
    obtain ⟨f, e1⟩ := p
    rw [r] at h
    cases f with
    | nx => exact fun F1 σ1 H1 s1 ex => ⟨B, F1, e1, s1, PstS.mono ex h⟩
    | _ => exact h
end
theorem Sta.gone {K : PySem.W.Frag} {mg : MG} {B : Base} {F H : Hp} {env : Env} {σ : L2.St} {i : Nat} {o : Option V} (st : Sta K mg B F env σ H) : Sta K mg B F (env.set i .dead) (List.set (show List (Option V) from σ) i o) H := by
  have hl : env.length = (show List (Option V) from σ).length := st.len
  have ne : ∀ {j : Nat} {s : Sl}, j ≠ i → (env.set i .dead)[j]? = some s → env[j]? = some s := fun {j s} hj e => by
    rwa [List.getElem?_set_ne (by omega)] at e
  have nv : ∀ {j : Nat}, j ≠ i → (List.set (show List (Option V) from σ) i o)[j]? = (show List (Option V) from σ)[j]? := fun {j} hj => List.getElem?_set_ne (by omega)
  have own : ∀ {j : Nat} {p : Addr}, OwnAt (env.set i .dead) (List.set (show List (Option V) from σ) i o) j p → j ≠ i ∧ OwnAt env σ j p := fun {j p} ⟨h1, s, h2, h3⟩ => by
    have hj : j ≠ i := fun z => by
      subst z
      have hlt := (List.getElem?_eq_some_iff.mp h2).1
      rw [List.getElem?_set_self (by simpa using hlt)] at h2
      cases h2
      cases h3
    refine ⟨hj, ?_, s, ne hj h2, h3⟩
    rw [← nv hj]; exact h1
  refine ⟨st.f0, st.fH, st.new, st.kee, st.ios, ?_, fun j x e => ?_, fun j k p hj hk => st.own j k p (own hj).2 (own hk).2, st.ioh⟩
  · show (env.set i .dead).length = (List.set (show List (Option V) from σ) i o).length
    rw [List.length_set, List.length_set]; exact hl
  · by_cases hj : j = i
    · subst hj
      have hlt := (List.getElem?_eq_some_iff.mp e).1
      rw [List.getElem?_set_self (by simpa using hlt)] at e
      cases e
      trivial
    · have := st.sl j x (ne hj e)
      unfold slotV at this ⊢
      rw [nv hj]; exact this
def mTryA (cn : Str) (i : Nat) (mb mh : MS) : MS := fun env => match mb env with
  | .exc x e1 => if x.c = cn ∧ x.ns = [] ∧ i < e1.length then (mh (e1.set i .dead)).bind fun (f, e2) => .ok (f, e2.set i .dead) else .bad
  | .ok p => .ok p
  | .bad => .bad
theorem PstS.gone {K : PySem.W.Frag} {mg : MG} {W : WX} {B : Base} {F : Hp} {D : Ends} {i : Nat} {r : Rs (Fl × Env)} (h : PstS K mg W B F D (r.bind fun (f, e2) => .ok (f, e2.set i .dead))) : PstS K mg W B F (endsG D i) r := by
  cases r with
  | bad => exact h
  | exc x e => exact h
  | ok p =>
    obtain ⟨f, e2⟩ := p
    intro F1 σ1 H1 s1 ex1
    cases f with
    | rt d => exact h F1 σ1 H1 s1.kill ex1
    | ro d => exact h F1 σ1 H1 s1.kill ex1
    | _ => exact h F1 _ H1 s1.gone ex1
section
variable {X : Cx} {Wout : WX} {cn n : Str} {C : Addr} {i : Nat} {mb mh : MS} {l : List Cl} {body : List Stmt} {b₀ : Stmt} {suite : List Stmt} {np pos' pos : Pos} {hds : List ExceptHandler}
theorem ss_tryA (hs : X.stack = X.env :: X.outer) (hf : X.env.frame = some X.env.locals) (hN : X.N.Nodup) (hi : X.N[i]? = some n) (hln : X.env.kindOf n = some .local)
    (hc : Names X cn (.ref C)) (gC : X.mg cn = some (.ref C)) (hx : PySem.W.exmOne X.K (.ref C) (.ref C) = some true) (hE : L2.ExcC X.K C)
    (hb : ∀ (W : WX) (pn : List (Addr × Obj)) (xe : Value → Shared → Prop), Takes (X.tr pn xe) W → PassesOwn (model X.prog X.w) X.A X.env xe → PSs (X.tr pn xe) body (tMS X.K X.mg W mb))
    (hsu : ∀ (a : Addr) (oe : Obj) (pn : List (Addr × Obj)), CallR (X.suite a ((a, oe) :: pn)) (.builtin "isinstance") (rIsE X.K C a) → PSs (X.suite a ((a, oe) :: pn)) (b₀ :: suite) (tE i a (tMS X.K X.mg Wout mh))) (r : ClsOk X hds l) :
    PS X (.Try body (.ExceptHandler (some (.Name cn np)) (some n) (b₀ :: suite) pos' :: hds) [] [] pos) (tMS X.K X.mg Wout (mTryA cn i mb mh)) := by
  have sok : SuiteOk X (b₀ :: suite) (fun a cls d D σ H => (cls = .ref C ∧ d = none) ∧ tE i a (tMS X.K X.mg Wout mh) D σ H) := fun a oe cls d pn hz hd => ⟨fun pins s σ H D I ⟨⟨h1, h2⟩, h⟩ => by
    subst h1 h2
    exact (hsu a oe pn (call_isE hE hz hd)).run pins s σ H D I h⟩
  refine PS_imp (ps_try_cl hs hf hb (.as hN hi hln hc sok r)) fun D σ H ⟨B, F, env, s, h⟩ => ⟨B, F, env, s, ?_⟩
  unfold mTryA at h
  cases q : mb env with
  | bad => rw [q] at h; exact h
  | ok p => rw [q] at h; exact h
  | exc x e1 =>
    rw [q] at h
    simp only at h
    split at h
    · rename_i hcn
      obtain ⟨h1, h2, h3⟩ := hcn
      intro F1 σ1 H1 d C1 s1 ex1 ha hC
      rw [h1, gC] at hC
      cases hC
      refine ⟨true, hx, fun _ a na => ?_, fun z => by cases z⟩
      have hd : d = none := by
        rcases ha with ⟨_, hd⟩ | ⟨dx, us, hne, _⟩
        · exact hd
        · exact absurd h2 hne
      refine ⟨⟨rfl, hd⟩, ?_, B, F1, e1.set i .dead, s1.gone, PstS.mono ex1 h.gone⟩
      have hlt : i < (show List (Option V) from σ1).length := by
        have := s1.len
        show i < List.length σ1
        omega
      exact List.getElem?_set_self hlt
    · exact h.elim
end
/-- what the texts say of own exception classes -/
def ExcCs (K : PySem.W.Frag) (mg : MG) (x : Str) : Prop := ∀ C, mg x = some (.ref C) → L2.ExcC K C
def IsXo (K : PySem.W.Frag) (mg : MG) (x y : Str) (b : Bool) : Prop := ∀ D C, mg x = some (.ref D) → mg y = some (.ref C) → PySem.W.kitOne K (.ref D) (.ref C) = some b
def IsXb (K : PySem.W.Frag) (mg : MG) (x : Str) (T : String) (b : Bool) : Prop := ∀ D, mg x = some (.ref D) → PySem.W.kitOne K (.ref D) (.type T) = some b
end Mi

set_option Elab.async false
set_option linter.all false
set_option maxRecDepth 100000
namespace Mi
open PySem PySem.Spec PyProof.Rows L2

/-! ## try: what is caught stands in a slot -/
abbrev XTab := List (Str × Bool)
def askX : XTab → Str → Option Bool
  | [], _ => none
  | (a, t) :: r, x => if a = x then some t else askX r x
def AskOk (P : Str → Bool → Prop) (tab : XTab) : Prop := ∀ x b, askX tab x = some b → P x b
theorem ask_nil {P : Str → Bool → Prop} : AskOk P [] := fun _ _ h => by cases h
theorem ask_cons {P : Str → Bool → Prop} {a : Str} {t : Bool} {r : XTab} (h : P a t) (hr : AskOk P r) : AskOk P ((a, t) :: r) := fun x b e => by
  unfold askX at e
  split at e
  · rename_i q
    cases e
    rw [← q]; exact h
  · exact hr x b e
open Classical in
noncomputable def comm {α : Type} (f : XA → Rs α) : Rs α := if h : ∃ r, ∀ q, f q = r then Classical.choose h else .bad
theorem comm_eq {α : Type} {f : XA → Rs α} {r : Rs α} (h : ∀ q, f q = r) : comm f = r := by
  unfold comm
  rw [dif_pos ⟨r, h⟩]
  have hh : ∃ r, ∀ q, f q = r := ⟨r, h⟩
  exact ((Classical.choose_spec hh ⟨0, none, .none⟩).symm.trans (h _))
theorem comm_of {α : Type} (f : XA → Rs α) (q : XA) : comm f = .bad ∨ comm f = f q := by
  unfold comm
  split
  · rename_i h
    exact .inr (Classical.choose_spec h q).symm
  · exact .inl rfl
structure Hd where
  t : XTab
  o : Option Nat
  m : XA → MS
noncomputable def goH (x : Xc) : List Hd → MS
  | [] => fun _ => .bad
  | h :: r => fun env => match askX h.t x.c with
    | none => .bad
    | some false => goH x r env
    | some true => match h.o with
      | none => comm fun q => h.m q env
      | some i => if i < env.length then comm fun q => (h.m q (env.set i (.xc q x))).bind fun (f, e2) => .ok (f, e2.set i .dead) else .bad
noncomputable def mTryG (hs : List Hd) (mb : MS) : MS := fun env => match mb env with
  | .exc x e1 => goH x hs e1
  | .ok p => .ok p
  | .bad => .bad
/-- the clause's class at D: what matches it -/
def ExmP (K : PySem.W.Frag) (mg : MG) (D : Addr) (x : Str) (b : Bool) : Prop := ∀ C, mg x = some (.ref C) → PySem.W.exmOne K (.ref C) (.ref D) = some b
/-- as the texts say it -/
def ExmPP (K : PySem.W.Frag) (mg : MG) (x y : Str) (b : Bool) : Prop := ∀ C D, mg x = some (.ref C) → mg y = some (.ref D) → PySem.W.exmOne K (.ref C) (.ref D) = some b
theorem exm_ownB {K : PySem.W.Frag} {C D : Addr} {t : Bool} (a : PySem.W.subIn K (.ref D) (.type "BaseException") = some true) (b : PySem.W.isClsIn K D = true) (c : PySem.W.typeIn K (.ref D) = some (.type "type")) (d : PySem.W.subIn K (.ref C) (.ref D) = some t) : PySem.W.exmOne K (.ref C) (.ref D) = some t := by
  have b : (PySem.W.clsIn K D).isSome = true := b
  unfold PySem.W.exmOne
  rw [a, if_pos (by rfl)]
  unfold PySem.W.kitCls
  simp only []
  rw [b, c, if_pos (by rfl)]
  exact d
inductive HdsOk (X : Cx) (Wout : WX) : List ExceptHandler → List Hd → List Cl → Prop
  | nil : HdsOk X Wout [] [] []
  | one {cn : Str} {D : Addr} {tab : XTab} {mh : XA → MS} {b₀ : Stmt} {suite : List Stmt} {np p : Pos} {hds : List ExceptHandler} {l : List Hd} {cl : List Cl} (hc : Names X cn (.ref D)) (ht : AskOk (ExmP X.K X.mg D) tab)
      (hsu : ∀ (q : XA) (oe : Obj) (pn : List (Addr × Obj)), Zc q.c q.d oe → (∃ vs, oe.data = .fields vs) → PSs (X.suite q.a ((q.a, oe) :: pn)) (b₀ :: suite) (tMS X.K X.mg Wout (mh q))) (r : HdsOk X Wout hds l cl) :
      HdsOk X Wout (.ExceptHandler (some (.Name cn np)) none (b₀ :: suite) p :: hds) (⟨tab, none, mh⟩ :: l) (⟨.ref D, none, fun a cls d => tMS X.K X.mg Wout (mh ⟨a, d, cls⟩)⟩ :: cl)
  | as {cn n : Str} {i : Nat} {D : Addr} {tab : XTab} {mh : XA → MS} {b₀ : Stmt} {suite : List Stmt} {np p : Pos} {hds : List ExceptHandler} {l : List Hd} {cl : List Cl} (hN : X.N.Nodup) (hi : X.N[i]? = some n) (hln : X.env.kindOf n = some .local) (hc : Names X cn (.ref D)) (ht : AskOk (ExmP X.K X.mg D) tab)
      (hsu : ∀ (q : XA) (oe : Obj) (pn : List (Addr × Obj)), Zc q.c q.d oe → (∃ vs, oe.data = .fields vs) → PSs (X.suite q.a ((q.a, oe) :: pn)) (b₀ :: suite) (tMS X.K X.mg Wout (mh q))) (r : HdsOk X Wout hds l cl) :
      HdsOk X Wout (.ExceptHandler (some (.Name cn np)) (some n) (b₀ :: suite) p :: hds) (⟨tab, some i, mh⟩ :: l) (⟨.ref D, some i, fun a cls d => tMS X.K X.mg Wout (mh ⟨a, d, cls⟩)⟩ :: cl)
section
variable {X : Cx} {Wout : WX} {hds : List ExceptHandler} {l : List Hd} {cl : List Cl} {body : List Stmt} {h₀ : ExceptHandler} {mb : MS} {pos : Pos}
theorem HdsOk.cls (r : HdsOk X Wout hds l cl) : ClsOk X hds cl := by
  induction r with
  | nil => exact .nil
  | one hc ht hsu r ih => exact .one hc (fun a oe cls d pn hz hd => hsu ⟨a, d, cls⟩ oe pn hz hd) ih
  | as hN hi hln hc ht hsu r ih => exact .as hN hi hln hc (fun a oe cls d pn hz hd => hsu ⟨a, d, cls⟩ oe pn hz hd) ih
theorem HdsOk.go {B : Base} {F H : Hp} {D : Ends} {σ : L2.St} {x : Xc} {e1 : Env} {C : Addr} {d : Option Addr} (r : HdsOk X Wout hds l cl) (s : Sta X.K X.mg B F e1 σ H) (ha : ExcAt X.K X.mg F H x d) (hC : X.mg x.c = some (.ref C)) (h : PstS X.K X.mg Wout B F D (goH x l e1)) :
    wCl X.K D cl (.ref C) d σ H := by
  induction r with
  | nil => exact h.elim
  | @one cn Dc tab mh b₀ suite np p hds2 l2 cl2 hc ht hsu r ih =>
    unfold goH at h
    cases q : askX tab x.c with
    | none => simp only [q] at h; exact h.elim
    | some b =>
      simp only [q] at h
      refine ⟨b, ht _ _ q C hC, fun hb a na => ?_, fun hb => ?_⟩
      · subst hb
        simp only at h
        rcases comm_of (fun q : XA => mh q e1) ⟨a, d, .ref C⟩ with z | z
        · rw [z] at h; exact h.elim
        · rw [z] at h
          exact ⟨B, F, e1, s, h⟩
      · subst hb
        exact ih h
  | @as cn n i Dc tab mh b₀ suite np p hds2 l2 cl2 hN hi hln hc ht hsu r ih =>
    unfold goH at h
    cases q : askX tab x.c with
    | none => simp only [q] at h; exact h.elim
    | some b =>
      simp only [q] at h
      refine ⟨b, ht _ _ q C hC, fun hb a na => ?_, fun hb => ?_⟩
      · subst hb
        simp only at h
        split at h
        · rcases comm_of (fun q : XA => (mh q (e1.set i (.xc q x))).bind fun (f, e2) => .ok (f, e2.set i .dead)) ⟨a, d, .ref C⟩ with z | z
          · rw [z] at h; exact h.elim
          · rw [z] at h
            refine ⟨B, F, e1.set i (.xc ⟨a, d, .ref C⟩ x), s.setSlot (s := .xc ⟨a, d, .ref C⟩ x) (v := .ref a) ⟨rfl, hC, ha⟩ (fun z => by cases z), h.gone⟩
        · exact h.elim
      · subst hb
        exact ih h
theorem ss_tryG (hs : X.stack = X.env :: X.outer) (hf : X.env.frame = some X.env.locals)
    (hb : ∀ (W : WX) (pn : List (Addr × Obj)) (xe : Value → Shared → Prop), Takes (X.tr pn xe) W → PassesOwn (model X.prog X.w) X.A X.env xe → PSs (X.tr pn xe) body (tMS X.K X.mg W mb))
    (r : HdsOk X Wout (h₀ :: hds) l cl) : PS X (.Try body (h₀ :: hds) [] [] pos) (tMS X.K X.mg Wout (mTryG l mb)) := by
  refine PS_imp (ps_try_cl hs hf hb r.cls) fun D σ H ⟨B, F, env, s, h⟩ => ⟨B, F, env, s, ?_⟩
  unfold mTryG at h
  cases q : mb env with
  | bad => rw [q] at h; exact h
  | ok p => rw [q] at h; exact h
  | exc x e1 =>
    rw [q] at h
    simp only at h
    intro F1 σ1 H1 d C1 s1 ex1 ha hC
    exact r.go s1 ha hC (PstS.mono ex1 h)
end
/-! ### isinstance(e, C) -/
open Classical in
noncomputable def mIsE (tab : XTab) (q : XA) (i : Nat) : ME := fun env => match env[i]? with
  | some (.xc q' x) => if q' = q ∧ x.ns = [] then (match askX tab x.c with
    | some b => .ok (.bl b, env)
    | none => .bad) else .bad
  | _ => .bad
/-- a class by its name, for all that may be asked -/
structure IsN (Y : Cx) (x : Str) (cv : Value) : Prop where
  at' : ∀ D b, PySem.W.kitOne Y.K (.ref D) cv = some b → ClsN Y D x b
theorem isN_own {Y : Cx} {C : Addr} {x : Str} (hm : Y.mg x = some (.ref C)) (hg : Gl Y x) (hd : (x == ("__debug__" : Str)) = false := by decide) : IsN Y x (.ref C) := ⟨fun D b hk => clsN_own hm hk hg hd⟩
theorem isN_blt {Y : Cx} {T : String} {x : Str} (hm : Y.mg x = none) (hv : bootBuiltins x = some (.type T)) (hg : Gl Y x) (hn : x ≠ "__name__" := by decide) (hd : (x == ("__debug__" : Str)) = false := by decide) : IsN Y x (.type T) := ⟨fun D b hk => clsN_blt hm hv hk hg hn hd⟩
def IsP (K : PySem.W.Frag) (mg : MG) (cv : Value) (x : Str) (b : Bool) : Prop := ∃ D, mg x = some (.ref D) ∧ L2.ExcC K D ∧ PySem.W.kitOne K (.ref D) cv = some b
theorem se_isE {X : Cx} {W : WX} {q : XA} {oe : Obj} {pn : List (Addr × Obj)} (i : Nat) {x n : Str} {cv : Value} {tab : XTab} {p p1 p2 pos : Pos} (hz : Zc q.c q.d oe) (hd : ∃ vs, oe.data = .fields vs) (ht : AskOk (IsP X.K X.mg cv) tab)
    (t : IsN (X.suite q.a ((q.a, oe) :: pn)) x cv) (hm : X.mg "isinstance" = none) (hg : Gl (X.suite q.a ((q.a, oe) :: pn)) "isinstance") (hN : (X.suite q.a ((q.a, oe) :: pn)).N[i]? = some n := by rfl) (hv : Vis (X.suite q.a ((q.a, oe) :: pn)).env.scope n := by first | exact Or.inl rfl | exact Or.inr (Or.inl rfl) | exact Or.inr (Or.inr rfl))
    (hdb : (n == ("__debug__" : Str)) = false := by decide) (hcd : (n == ("__classdict__" : Str)) = false := by decide) :
    PE (X.suite q.a ((q.a, oe) :: pn)) (.Call (.Name "isinstance" p) [.Name n p1, .Name x p2] [] pos) (tM X.K X.mg W (mIsE tab q i)) := by
  refine ⟨fun pins s σ H Q I h => ?_⟩
  obtain ⟨B, F, env, st, h⟩ := h
  unfold mIsE at h
  cases qe : env[i]? with
  | none => rw [qe] at h; exact h.elim
  | some y =>
    rw [qe] at h
    cases y with
    | xc q' xx =>
      simp only at h
      split at h
      · rename_i hq
        obtain ⟨hq, hns⟩ := hq
        subst hq
        cases ha : askX tab xx.c with
        | none => rw [ha] at h; exact h.elim
        | some b =>
          rw [ha] at h
          obtain ⟨e1, e2, e3⟩ := st.sl i _ qe
          have hdn : q'.d = none := by
            rcases e3 with ⟨_, z⟩ | ⟨_, _, z, _⟩
            · exact z
            · exact absurd hns z
          rw [hdn] at hz
          obtain ⟨D, g1, g2, g3⟩ := ht _ _ ha
          rw [e2] at g1
          have g1 := Option.some.inj g1
          rw [g1] at hz
          exact (pe_isE (Y := X.suite q'.a ((q'.a, oe) :: pn)) i (call_isE g2 hz hd) hm (t.at' D b g3) hg hN hv hdb hcd).run pins s σ H Q I ⟨look_of e1, h F H st (Ex.refl F) _ rfl⟩
      · exact h.elim
    | _ => exact h.elim
/-! ### e.f -/
def lookX (n : Str) : List Str → List D → Option D
  | m :: r, d :: ds => if m = n then some d else lookX n r ds
  | _, _ => none
theorem lookX_fz {K : PySem.W.Frag} {mg : MG} {F : Hp} {n : Str} : ∀ {ns : List Str} {ds : List D} {us : List V} {d : D}, lookX n ns ds = some d → FzL K mg F ds us → ∃ v, (ns.zip us).lookup n = some v ∧ Fz K mg F d v
  | [], _, _, _, h, _ => by simp [lookX] at h
  | m :: r, [], _, _, h, _ => by simp [lookX] at h
  | m :: r, d :: ds, us, d', h, g => by
    obtain ⟨v, vs, rfl, g1, g2⟩ := g
    unfold lookX at h
    rw [List.zip_cons_cons, List.lookup_cons]
    by_cases hm : m = n
    · rw [if_pos hm] at h
      cases h
      rw [hm, beq_self_eq_true]
      exact ⟨v, rfl, g1⟩
    · rw [if_neg hm] at h
      have : (n == m) = false := by simpa using fun z : n = m => hm z.symm
      rw [this]
      exact lookX_fz h g2
def XfP (K : PySem.W.Frag) (mg : MG) (n : Str) (x : Str) (b : Bool) : Prop := ∃ D, mg x = some (.ref D) ∧ L2.XfC K D ∧ PySem.W.findIn K (.ref D) n = some none
open Classical in
/-- the classes in whose clause e.n is read -/
noncomputable def mXfT (tab : XTab) (q : XA) (i : Nat) (n : Str) : ME := fun env => match env[i]? with
  | some (.xc q' x) => if q' = q then (match askX tab x.c with
    | some _ => optR env (lookX n x.ns x.vs)
    | none => .bad) else .bad
  | _ => .bad
theorem se_xf {X : Cx} {W : WX} {q : XA} {oe : Obj} {pn : List (Addr × Obj)} (i : Nat) {n f : Str} {tab : XTab} {p1 pos : Pos} (hz : Zc q.c q.d oe) (hd : ∃ vs, oe.data = .fields vs) (ht : AskOk (XfP X.K X.mg f) tab)
    (hN : (X.suite q.a ((q.a, oe) :: pn)).N[i]? = some n := by rfl) (hv : Vis (X.suite q.a ((q.a, oe) :: pn)).env.scope n := by first | exact Or.inl rfl | exact Or.inr (Or.inl rfl) | exact Or.inr (Or.inr rfl))
    (hdb : (n == ("__debug__" : Str)) = false := by decide) (hcd : (n == ("__classdict__" : Str)) = false := by decide) (hb : attributeBase (.Name n p1) f X.env (eval (.Name n p1) X.env) = eval (.Name n p1) X.env := by rfl) :
    PE (X.suite q.a ((q.a, oe) :: pn)) (.Attribute (.Name n p1) f pos) (tM X.K X.mg W (mXfT tab q i f)) := by
  refine ⟨fun pins s σ H Q I h => ?_⟩
  obtain ⟨B, F, env, st, h⟩ := h
  unfold mXfT at h
  cases qe : env[i]? with
  | none => rw [qe] at h; exact h.elim
  | some y =>
    rw [qe] at h
    cases y with
    | xc q' xx =>
      simp only at h
      split at h
      · rename_i hq
        subst hq
        cases ha : askX tab xx.c with
        | none => rw [ha] at h; exact h.elim
        | some b =>
          rw [ha] at h
          simp only at h
          cases hl : lookX f xx.ns xx.vs with
          | none => rw [hl] at h; exact h.elim
          | some d =>
            rw [hl] at h
            obtain ⟨e1, e2, e3⟩ := st.sl i _ qe
            obtain ⟨D, g1, g2, g3⟩ := ht _ _ ha
            rw [e2] at g1
            have g1 := Option.some.inj g1
            rcases e3 with ⟨z, _⟩ | ⟨dx, us, _, k2, k3, k4, k5⟩
            · rw [z] at hl; cases xx.vs <;> simp [lookX] at hl
            · obtain ⟨v, l1, l2⟩ := lookX_fz hl k5
              refine (pe_xf (X := X) (d := q'.d) g2 g3 hz hd (pe_var (X := X.suite q'.a ((q'.a, oe) :: pn)) hN hv hdb hcd) hb).run pins s σ H Q I ⟨.ref q'.a, look_of e1, rfl, g1, dx, _, v, k2, k3, l1, ?_⟩
              exact h F H st (Ex.refl F) v l2
      · exact h.elim
    | _ => exact h.elim
end Mi

set_option Elab.async false
set_option linter.all false
set_option maxRecDepth 100000
namespace Mi
open PySem PySem.Spec PyProof.Rows L2

/-! ## a list's method with one argument that changes nothing -/
def mMt (f : D → D → Option D) (a b : Opd) : ME := fun env => (a.run env).bind fun (x, e1) => match a.get x e1 with
  | some (.lst _) => (b.run e1).bind fun (y, e2) => match a.get x e2, b.get y e2 with
    | some dx, some dy => optR e2 (f dx dy)
    | _, _ => .bad
  | _ => .bad
def MtD (K : PySem.W.Frag) (mg : MG) (r : V → List V → Hp → VK → Prop) (f : D → D → Option D) : Prop :=
  ∀ (F H : Hp) (x y : D) (vx vy : V) (z : D) (Q : VK), Ex F H → Fb K mg F H x vx → Fb K mg F H y vy → f x y = some z → Rz K mg F H z Q → r vx [vy] H Q
theorem se_mt {X : Cx} {W : WX} {e : Expr} {oa ob : Opd} {r : V → List V → Hp → VK → Prop} {f : D → D → Option D} (od : MtD X.K X.mg r f) (hp : PE X e (tBM X.K "list" r (tOpd X.K X.mg W oa) (tCons (tOpd X.K X.mg W ob) tNil))) : PE X e (tM X.K X.mg W (mMt f oa ob)) := by
  refine PE_imp hp fun σ H Q ⟨B, F, env, s, h⟩ => ?_
  refine ⟨B, F, env, s, (Pst.bind h).imp fun x env1 F1 H1 s1 e1 h1 vx hx => ?_⟩
  simp only at h1
  split at h1
  · rename_i ds q1
    obtain ⟨p, us, rfl, hsq, _⟩ := hx.fb s1 q1
    refine ⟨.inl ⟨rfl, _, hsq⟩, B, F1, env1, s1, (Pst.bind h1).imp fun y env2 F2 H2 s2 e2 h2 vy hy => ?_⟩
    simp only at h2
    cases q2 : oa.get x env2 with
    | none => rw [q2] at h2; exact h2.elim
    | some dx =>
      cases q3 : ob.get y env2 with
      | none => rw [q2, q3] at h2; exact h2.elim
      | some dy =>
        rw [q2, q3] at h2
        simp only at h2
        cases q4 : f dx dy with
        | none => rw [q4] at h2; exact h2.elim
        | some z =>
          rw [q4] at h2
          exact od F2 H2 dx dy _ vy z Q s2.fH ((hx.ex e2).fb s2 q2) (hy.fb s2 q3) q4 fun F' H' v st hz => h2 F' H' (s2.step st) st.fF v hz
  · exact h1.elim
/-! ### count, index of flat things -/
def scL : List D → Option (List V)
  | [] => some []
  | d :: ds => match scalD d, scL ds with
    | some v, some vs => some (v :: vs)
    | _, _ => none
theorem scalD_eq {K : PySem.W.Frag} {mg : MG} {F : Hp} {d : D} {v u : V} (h : scalD d = some v) (g : Fz K mg F d u) : u = v ∧ flatV v = true := by
  cases d <;> simp [scalD] at h <;> (subst h; exact ⟨g, rfl⟩)
theorem scL_eq {K : PySem.W.Frag} {mg : MG} {F : Hp} : ∀ {ds : List D} {us vs : List V}, scL ds = some us → FzL K mg F ds vs → vs = us ∧ us.all flatV = true
  | [], _, _, h, g => by cases h; exact ⟨g, rfl⟩
  | d :: ds, _, _, h, g => by
    unfold scL at h
    cases q1 : scalD d with
    | none => rw [q1] at h; simp at h
    | some v =>
      cases q2 : scL ds with
      | none => rw [q1, q2] at h; simp at h
      | some vs =>
        rw [q1, q2] at h
        cases h
        obtain ⟨w, r, rfl, g1, g2⟩ := g
        obtain ⟨rfl, a1⟩ := scalD_eq q1 g1
        obtain ⟨rfl, a2⟩ := scL_eq q2 g2
        exact ⟨rfl, by simp [a1, a2]⟩
def dCnt : D → D → Option D
  | .lst ds, y => match scL ds, scalD y with
    | some us, some u => some (.int ((us.countP fun z => eqV z u : Nat) : Int))
    | _, _ => none
  | _, _ => none
def dIdx : D → D → Option D
  | .lst ds, y => match scL ds, scalD y with
    | some us, some u => if us.findIdx (fun z => eqV z u) < us.length then some (.int ((us.findIdx fun z => eqV z u : Nat) : Int)) else none
    | _, _ => none
  | _, _ => none
def rCntF (K : PySem.W.Frag) : V → List V → Hp → VK → Prop := fun x xs H Q => ∃ (p : Addr) (ys : List V) (y : V), x = .ref p ∧ xs = [y] ∧ SqL K H p ys ∧ flatV y = true ∧ ys.all flatV = true ∧ Q (.int ((ys.countP fun z => eqV z y : Nat) : Int)) H
theorem mt_cntF {X : Cx} : MtR X "list.count" (rCntF X.K) := by
  intro pins s σ H x xs v us Q I rx rxs h
  obtain ⟨p, ys, y, rfl, rfl, hs, fy, fys, q⟩ := h
  cases rx
  obtain ⟨u, rfl, ru⟩ := rxs.one
  obtain ⟨its, rv, ⟨⟨cls, dd, data, sl⟩, n, ho, hc, hdn, hd⟩, hlen⟩ := I.list hs
  simp only at hc hd
  subst hc hd
  have key : ∀ {ys : List V} {its : List Value}, Vals ys its → ys.all flatV = true → its.countP (eqU y) = ys.countP fun z => eqV z y := by
    intro ys its r
    induction r with
    | nil => intro _; rfl
    | cons ra rt ih =>
      intro f
      rw [List.all_cons, Bool.and_eq_true] at f
      rw [List.countP_cons, List.countP_cons, ih f.2, eqU_of ra f.1]
  refine call_meets PySem.F.slot_list_count ⟨_, ho, rfl⟩ PySem.F.entry_list_count (PySem.F.args_list_count_2 _ _)
    (SeqAt.list_countAt p its.toArray n dd sl u (eqU y)) ⟨ho, fun u' hu' => mem_eqAt ru fy rv fys u' (by simpa using hu'), ?_⟩
  refine ⟨.int ((ys.countP fun z => eqV z y : Nat) : Int), H, I.tok _, ⟨s.toks, ?_⟩, q⟩
  show Value.int ((its.toArray.toList.countP (eqU y) : Nat) : Int) s.toks = _
  rw [show its.toArray.toList = its from by simp, key rv fys]
theorem md_cnt {K : PySem.W.Frag} {mg : MG} : MtD K mg (rCntF K) dCnt := fun F H x y vx vy z Q ex hx hy h q => by
  cases x with
  | lst ds =>
    obtain ⟨p, us, rfl, h1, h2⟩ := hx
    unfold dCnt at h
    simp only at h
    split at h
    · rename_i ws u q1 q2
      cases h
      obtain ⟨rfl, a1⟩ := scL_eq q1 h2
      have hy' : Fz K mg H y vy := hy.fzH ex
      obtain ⟨rfl, a2⟩ := scalD_eq q2 hy'
      exact ⟨p, us, vy, rfl, rfl, h1, a2, a1, q F H _ (Step.refl ex) rfl⟩
    · cases h
  | _ => cases h
theorem md_idx {K : PySem.W.Frag} {mg : MG} : MtD K mg (rIndex K) dIdx := fun F H x y vx vy z Q ex hx hy h q => by
  cases x with
  | lst ds =>
    obtain ⟨p, us, rfl, h1, h2⟩ := hx
    unfold dIdx at h
    simp only at h
    split at h
    · rename_i ws u q1 q2
      split at h
      · rename_i hlt
        cases h
        obtain ⟨rfl, a1⟩ := scL_eq q1 h2
        have hy' : Fz K mg H y vy := hy.fzH ex
        obtain ⟨rfl, a2⟩ := scalD_eq q2 hy'
        refine ⟨p, us, vy, _, us[us.findIdx fun z => eqV z vy], rfl, rfl, h1, a2, a1, List.getElem?_eq_getElem hlt, ?_, ?_, q F H _ (Step.refl ex) rfl⟩
        · exact List.findIdx_getElem (p := fun z => eqV z vy) (w := hlt)
        · intro m u2 hm hu2
          obtain ⟨hl2, rfl⟩ := List.getElem?_eq_some_iff.mp hu2
          have := List.not_of_lt_findIdx (p := fun z => eqV z vy) hm
          simpa using this
      · cases h
    · cases h
  | _ => cases h
end Mi

set_option Elab.async false
set_option linter.all false
set_option maxRecDepth 100000
namespace Mi
open PySem PySem.Spec PyProof.Rows L2

/-! ## own classes whose __init__ sets attributes, one behind another -/
def goS : List (Str × ME) → List D → Env → OR
  | [], acc, _ => .ok acc
  | (_, m) :: r, acc, env => match m env with
    | .ok (d, e1) => if (e1.all fun s => !s.owned) = true then goS r (acc ++ [d]) e1 else .bad
    | .exc x _ => .exc x
    | .bad => .bad
def fInitS (n N : Nat) (fs : List (Str × ME)) : OF := fun ds => if ds.length ≠ n then .bad else goS fs [] (envC N ds)
theorem fInitS_len {n N : Nat} {fs : List (Str × ME)} : ∀ ds : List D, ds.length ≠ n → fInitS n N fs ds = .bad := fun ds h => by unfold fInitS; rw [if_pos h]
def tFs (K : PySem.W.Frag) (mg : MG) (E : XK) : List (Str × ME) → TS
  | [] => tNext
  | (f, m) :: r => tSeq (sFld K (tVar 0) (tM K mg (fun cls d _ H => E cls d H) m) f) (tFs K mg E r)
section
variable {K : PySem.W.Frag} {mg : MG} {F H : Hp} {B : Base} {σ : L2.St} {env : Env}
theorem putF_zip {f : Str} {v : V} : ∀ {ns : List Str} {us : List V}, ns.length = us.length → f ∉ ns → putF f v (ns.zip us) = (ns ++ [f]).zip (us ++ [v])
  | [], [], _, _ => rfl
  | n :: ns, u :: us, hl, h => by
    have hne : n ≠ f := fun z => h (by rw [z]; exact List.mem_cons_self)
    show (if n = f then _ else (n, u) :: putF f v (ns.zip us)) = _
    rw [if_neg hne, putF_zip (by simpa using hl) fun z => h (List.mem_cons_of_mem _ z)]
    rfl
/-- nothing is owned: another base -/
theorem Sta.rebase {x : Addr} {o : HO} (s : Sta K mg B F env σ H) (hn : (env.all fun s => !s.owned) = true) (hx : F x = none) (hd : ∀ fs, H x ≠ some (.xd fs)) : Sta K mg ⟨F, upd H x o, []⟩ F env σ (upd H x o) := by
  have no : ∀ (i : Nat) (y : Sl), env[i]? = some y → y.owned = false := fun i y e => by
    have := List.all_eq_true.mp hn y (List.mem_of_getElem? e)
    simpa using this
  have e1 : Ex F (upd H x o) := by
    refine ⟨fun a u h => ?_, fun a o' hd h => ?_⟩
    · have ne : a ≠ x := fun z => by
        subst z
        unfold Rd at h
        rw [hx] at h
        rcases h with h | ⟨_, h⟩ <;> cases h
      have := s.fH.rd a u h
      unfold Rd at this ⊢
      rw [upd_ne ne]; exact this
    · rw [upd_ne (ne_of_none h hx)]; exact s.fH.ex a o' hd h
  refine ⟨Ex.refl F, e1, fun a _ h => h, fun a u h _ => h, fun a h => absurd h (by simp), s.len, fun i y e => ?_, fun i j p ha _ => ?_, fun a h => absurd h (by simp)⟩
  · have q := s.sl i y e
    have ho := no i y e
    cases y with
    | dead => trivial
    | fz d => exact q
    | xc w z => exact ⟨q.1, q.2.1, q.2.2.keep (Ex.refl F) fun dx fs z => by rw [upd_ne (fun z2 => by subst z2; exact hd _ z)]; exact z⟩
    | _ => cases ho
  · obtain ⟨_, y, e, ho⟩ := ha
    rw [no i y e] at ho
    cases ho
theorem ini_go {C x dx : Addr} {E : XK} {Q : VK} {F0 H0 : Hp} {ns : List Str} (hT : Cls K C) : ∀ (fs : List (Str × ME)) (done : List Str) (acc : List D) (us : List V) (F H : Hp) (env : Env), ns = done ++ fs.map (·.1) → ns.Nodup → ns.length < 900 → (∀ f ∈ fs.map (·.1), NoAttr K C f) →
    Sta K mg ⟨F, H, []⟩ F env σ H → (env.all fun s => !s.owned) = true → σ[0]? = some (some (.ref x)) → F x = none → H x = some (.ins C dx (done.zip us)) → done.length = us.length → FzL K mg F acc us → Step [x] F0 H0 F H →
    (match goS fs acc env with
      | .bad => False
      | .exc y => ExcP K mg [x] F0 H0 y E
      | .ok zs => ∀ F' H' us, Step [x] F0 H0 F' H' → F' x = none → H' x = some (.ins C dx (ns.zip us)) → ns.length = us.length → FzL K mg F' zs us → Q .non H') →
    tFs K mg E fs { nx := fun _ H' => Q .non H', rt := Q } σ H
  | [], done, acc, us, F, H, env, hns, hnd, hlen, hno, s, hen, hσ, hFx, hHx, hl, hz, st, h => by
    have hns : ns = done := by simpa using hns
    subst hns
    exact h F H us st hFx hHx hl hz
  | (f, m) :: r, done, acc, us, F, H, env, hns, hnd, hlen, hno, s, hen, hσ, hFx, hHx, hl, hz, st, h => by
    have hfd : f ∉ done := fun z => by
      rw [hns, List.nodup_append] at hnd
      exact hnd.2.2 f z f (by simp) rfl
    unfold goS at h
    refine ⟨⟨F, H, []⟩, F, env, s, ?_⟩
    cases q : m env with
    | bad => simp only [q] at h
    | exc y e1 =>
      simp only [q] at h
      intro F2 H2 d C2 s2 e2 ha hC
      have st2 : Step [] F H F2 H2 := s2.stepOf e2
      have hne : ∀ p ∈ [x], H p ≠ none := fun p hp => by
        have : p = x := by simpa using hp
        rw [this, hHx]; simp
      exact h F2 H2 d C2 (st.trans hne (st2.more (by simp))) (fun p hp => by
        have : p = x := by simpa using hp
        rw [this, st2.kH _ _ hHx (by simp)]; simp) ha hC
    | ok pr =>
      obtain ⟨d, e1⟩ := pr
      simp only [q] at h
      by_cases ho : (e1.all fun s => !s.owned) = true
      · rw [if_pos ho] at h
        intro F2 H2 s2 e2 v hv
        have st2 : Step [] F H F2 H2 := s2.stepOf e2
        have hHx2 := st2.kH _ _ hHx (by simp)
        have hFx2 : F2 x = none := st2.new x (by rw [hHx]; simp) hFx
        have hne : ∀ p ∈ [x], H p ≠ none := fun p hp => by
          have : p = x := by simpa using hp
          rw [this, hHx]; simp
        have hlen2 : (done.zip us).length < 1000 := by
          have := congrArg List.length hns
          simp at this
          rw [List.length_zip]
          omega
        refine ⟨.ref x, hσ, x, C, dx, _, rfl, hHx2, hT, hno f (by simp), hlen2, ?_⟩
        rw [putF_zip hl hfd]
        have s3 := s2.rebase (x := x) (o := .ins C dx ((done ++ [f]).zip (us ++ [v]))) ho hFx2 (fun fs z => by rw [hHx2] at z; cases z)
        refine ini_go hT r (done ++ [f]) (acc ++ [d]) (us ++ [v]) F2 _ e1 (by rw [hns]; simp) hnd hlen (fun g hg => hno g (by simp at hg ⊢; exact .inr hg)) s3 ho hσ hFx2 upd_same (by simp [hl]) ((hz.ex e2).app ⟨v, [], rfl, hv, rfl⟩) ?_ h
        refine st.trans hne (Step.trans (st2.more (by simp)) (fun p hp => by
          have : p = x := by simpa using hp
          rw [this, hHx2]; simp) ⟨Ex.refl F2, s3.fH, fun a o e n => ?_, fun a _ z => z⟩)
        rw [upd_ne (fun z => n (by rw [z]; simp))]; exact e
      · rw [if_neg ho] at h; exact h.elim
theorem envC_no (N : Nat) (ds : List D) : ((envC N ds).all fun s => !s.owned) = true := by
  rw [List.all_eq_true]
  intro s hs
  unfold envC at hs
  rcases List.mem_cons.mp hs with rfl | hs
  · rfl
  · rcases List.mem_append.mp hs with hs | hs
    · obtain ⟨d, _, rfl⟩ := List.mem_map.mp hs
      rfl
    · rw [(List.mem_replicate.mp hs).2]; rfl
theorem initS_read {C : Addr} {N : List Str} {n : Nat} {fs : List (Str × ME)} {vs : List V} {Q : VK} {E : XK} (hT : Cls K C) (hno : ∀ f ∈ fs.map (·.1), NoAttr K C f) (hnd : (fs.map (·.1)).Nodup) (hlen : fs.length < 900) (hN : n + 1 ≤ N.length) (h : spC K mg C (fs.map (·.1)) (fInitS n N.length fs) vs H Q E) :
    tFs K mg E fs { nx := fun _ H' => Q .non H', rt := Q } (L2.start N vs) H := by
  obtain ⟨F0, x, dx, vr, ds, rfl, eF, hFx, hHx, hd, h⟩ := h
  unfold fInitS at h
  by_cases hl : ds.length = n
  · rw [if_neg (by simp [hl])] at h
    have hvl : vr.length + 1 ≤ N.length := by rw [← hd.length, hl]; exact hN
    have s0 : Sta K mg ⟨F0, H, []⟩ F0 (envC N.length ds) (L2.start N (.ref x :: vr)) H := sta_startC eF hd hvl
    exact ini_go hT fs [] [] [] F0 H _ rfl hnd (by simpa using hlen) hno s0 (envC_no _ _) (look_of (start_get rfl)) hFx hHx rfl .nil ⟨Ex.refl F0, eF, fun a o e _ => e, fun a _ z => z⟩ h
  · rw [if_pos (by simpa using hl)] at h; exact h.elim
end
/-! ## methods that change nothing -/
def mMth (cn mt : Str) (f : PF) (a : ME) (b : MA) : ME := fun env => (a env).bind fun (d, e1) => match d with
  | .obj c ns _ => if c = cn ∧ mt ∉ ns then (b e1).bind fun (ds, e2) => (f (d :: ds)).at e2 else .bad
  | _ => .bad
theorem lookup_no {mt : Str} : ∀ {ns : List Str} {us : List V}, mt ∉ ns → (ns.zip us).lookup mt = none
  | [], _, _ => rfl
  | n :: ns, [], _ => rfl
  | n :: ns, u :: us, h => by
    rw [List.zip_cons_cons, List.lookup_cons]
    have : (mt == n) = false := by simpa using fun z : mt = n => h (by rw [z]; exact List.mem_cons_self)
    rw [this]
    exact lookup_no fun z => h (List.mem_cons_of_mem _ z)
section
variable {X : Cx} {E : XK}
theorem tM_mth {K : PySem.W.Frag} {mg : MG} {cn mt : Str} {C : Addr} {f : PF} {a : ME} {b : MA} (hC : mg cn = some (.ref C)) : ∀ σ H Q, tM K mg (fun cls d _ H => E cls d H) (mMth cn mt f a b) σ H Q →
    tMeth C mt (spP K mg f) [] E (tM K mg (fun cls d _ H => E cls d H) a) (tMA K mg (fun cls d _ H => E cls d H) b) σ H Q := by
  rintro σ H Q ⟨B, F, env, s, h⟩
  refine ⟨B, F, env, s, (Pst.bind h).imp fun d env1 F1 H1 s1 e1 h1 v hv => ?_⟩
  cases d with
  | obj c ns ws =>
    simp only at h1
    split at h1
    · rename_i hcn
      obtain ⟨hc, hnm⟩ := hcn
      subst hc
      have hv' := hv
      obtain ⟨p, C', dx, us, rfl, g1, g2, g3, g4⟩ := hv
      rw [hC] at g1
      cases g1
      refine ⟨p, dx, _, rfl, s1.fH.ex _ _ rfl g2, lookup_no hnm, B, F1, env1, s1, (Pst.bind h1).imp fun ds env2 F2 H2 s2 e2 h2 vs hvs => ?_⟩
      refine ⟨F2, .obj c ns ws :: ds, s2.fH, ?_, ?_⟩
      · rw [List.append_nil]
        exact FzL.cons (hv'.ex e2) hvs
      · simp only at h2
        cases q : f (.obj c ns ws :: ds) with
        | bad => rw [q] at h2; exact h2.elim
        | exc x => rw [q] at h2; exact fun F' H' d C st _ ha hC => h2 F' H' d C (s2.step st) st.fF ha hC
        | ok z => rw [q] at h2; exact fun F' H' v st hz => h2 F' H' (s2.step st) st.fF v hz
    · exact h1.elim
  | _ => exact h1.elim
end
end Mi

set_option Elab.async false
set_option linter.all false
set_option maxRecDepth 100000
namespace Mi
open PySem PySem.Spec PyProof.Rows L2

/-! ## index of what is deep -/
def dIdxD : D → D → Option D
  | .lst ds, y => if lvl 60 (.lst ds) = true ∧ lvl 60 y = true ∧ ds.findIdx (fun z => eqD z y) < ds.length then some (.int ((ds.findIdx fun z => eqD z y : Nat) : Int)) else none
  | _, _ => none
theorem pyL_at : ∀ (ds : List D) (i : Nat), (D.pyL ds)[i]? = (ds[i]?).map D.py
  | [], i => by simp [D.pyL]
  | d :: ds, 0 => by simp [D.pyL]
  | d :: ds, i + 1 => by simp [D.pyL, pyL_at ds i]
theorem md_idxD {K : PySem.W.Frag} {mg : MG} : MtD K mg (rIndexD K) dIdxD := fun F H x y vx vy z Q ex hx hy h q => by
  cases x with
  | lst ds =>
    unfold dIdxD at h
    simp only at h
    split at h
    · rename_i hh
      obtain ⟨l1, l2, hlt⟩ := hh
      cases h
      have d1 := fb_dp l1 hx ex
      have d2 := fb_dp l2 hy ex
      obtain ⟨a, us, rfl, h1, h2⟩ := hx
      refine ⟨a, vy, y.py, D.pyL ds, _, (ds[ds.findIdx fun z => eqD z y]).py, rfl, rfl, d1, d2, lvl_shaped (by decide) l1, lvl_shaped (by decide) l2, by rw [pyL_at, List.getElem?_eq_getElem hlt]; rfl, ?_, ?_, q F H _ (Step.refl ex) rfl⟩
      · exact List.findIdx_getElem (p := fun z => eqD z y) (w := hlt)
      · intro m z' hm hz'
        rw [pyL_at] at hz'
        obtain ⟨w, hw, rfl⟩ := Option.map_eq_some_iff.mp hz'
        obtain ⟨hl2, rfl⟩ := List.getElem?_eq_some_iff.mp hw
        have := List.not_of_lt_findIdx (p := fun z => eqD z y) hm
        have : eqD ds[m] y = false := by simpa using this
        exact this
    · cases h
  | _ => cases h
/-! ## own classes, as the texts have them -/
structure ClsAt (K : PySem.W.Frag) (mg : MG) (cn : Str) (qual : Str) (ns : List Str) (stI : Stmt) where
  C : Addr
  g : mg cn = some (.ref C)
  T : Cls K C
  no : ∀ f ∈ ns, NoAttr K C f
  I : MethAt K C "__init__" qual stI
  mks : PySem.W.makesIn K C = true
  kp : PySem.W.keepIn K (.ref C) = true
theorem ClsAt.M {K : PySem.W.Frag} {mg : MG} {cn qual : Str} {ns : List Str} {stI : Stmt} (o : ClsAt K mg cn qual ns stI) : Mk K o.C o.I.a := ⟨o.mks, o.I.m.at_, o.I.m.fn, o.kp⟩
theorem ClsAt.fld {K : PySem.W.Frag} {mg : MG} {cn qual : Str} {ns : List Str} {stI : Stmt} (o : ClsAt K mg cn qual ns stI) {f : Str} (hf : f ∈ ns) : FldOk K mg [cn] f := fun c hc C h => by
  have e : c = cn := by simpa using hc
  subst e
  rw [o.g] at h
  cases h
  exact ⟨o.T, o.no f hf⟩
end Mi

set_option Elab.async false
set_option linter.all false
set_option maxRecDepth 100000
set_option maxHeartbeats 2000000
namespace Mi
open PySem PySem.Spec PyProof.Rows L2

/-! ## {k: v for ..} where the keys may be tuples -/
section
variable {X : Cx}
theorem put_dict {pins : List (Addr × Obj)} {σ : L2.St} {H H' : Hp} {s : Shared} {E : Value → Shared → Prop} {D : Addr} {y z : V} {u r : Value} {Q : Unit → Shared → Prop} (hu : X.A.units < cLine) (I : Inv X pins σ H s) (p : DPut H D y z H') (ry : RelV y u) (rz : RelV z r)
    (k : ∀ s', Inv X pins σ H' s' → Q () s') : wpAny (model X.prog X.w) X.A (dictSet D u r) Q E s := by
  rcases p with ⟨kvs, ky, eD, rfl, hl, rfl⟩ | ⟨kvs, ky, b, eD, rfl, eb, hl, rfl⟩
  · exact d_dictSet I eD hl ry rz k
  · have hb : u = Value.ref b := ry
    subst hb
    obtain ⟨lz, nz, es, rel, dd⟩ := dt_of I.hok eD
    have l2 : es.length ≤ sizeLine := Paired.length rel ▸ lz
    have l3 := length_putK kvs ky z
    refine wpAny_dictSet_heap (hsz := l2) (knd := tupleKind (mixKind X.prog X.w)) hu (key_of I.hok eb) dd fun hp2 dd2 same => k _ ?_
    obtain ⟨ob, ent, cnt, g1, g2, g3, g4, _, g6⟩ := dd2
    exact d_write I (by rw [eD]; trivial) same ⟨ob, g1⟩ ⟨by omega, nz, _, (rel.put ky eb rz).keeps fun c ys ec => (upd_ne (ne_of ec eD (by intro w; cases w))).trans ec, ob, ent, cnt, g1, g2, g3, g4, g6⟩
/-- o0: the empty dict, of the one kind or the other -/
def tDcP (o0 : HO) (wi : TI) (g : TG) (tt : TT) (tk tv : TE) (vs : List Nat) : TE := fun σ H Q => wi σ H fun J Ha => ∀ D, Ha D = none → ∃ W : Nat → Nat → Hp → Prop, (∃ m, W 0 m (upd Ha D o0)) ∧
  ∀ i m Hb, W i m Hb → (J.stop i Hb ∧ Q (.ref D) Hb) ∨ (J.go i Hb ∧ ∃ Nx : Hp → Prop, (∀ Hc, Nx Hc → ∃ m', m' < m ∧ W (i + 1) m' Hc) ∧ ∀ x Hc, J.yld i Hb x Hc → g x (wipe σ vs) Hc fun σ2 Hd => wipe σ2 vs = wipe σ vs ∧ tt σ2 Hd fun b He =>
    if b = true then tk σ2 He fun y Hf => tv σ2 Hf fun z Hg => ∃ Hh, DPut Hg D y z Hh ∧ Nx Hh else Nx He)
abbrev blkA (X : Cx) (scope : Scope) (s : Shared) (H : Hp) (C : Addr) (cl : List (Str × Addr)) (fp : List Addr) : Cx := X.blk s H scope (compEnvC scope cl C X.env) fp
theorem pe_dcP {o0 : HO} {kx vx tg iter : Expr} {ifs : List Expr} {scope : Scope} {own : List (Str × Nat)} {pos : Pos} {wi : TI} {g : TG} {tt : TT} {tk tv : TE} (ho : o0 = .dK [] ∨ o0 = .dT []) (hu : X.A.units < cLine) (hc : X.calm = true) (hN : X.N.Nodup) (hi : PI X tg iter wi) (ok : BlkOk X.N X.env.scope scope own)
    (hg : ∀ s H C cl fp, PG (blkA X scope s H C cl fp) tg g) (ht : ∀ s H C cl fp, PTs (blkA X scope s H C cl fp) ifs tt) (hk : ∀ s H C cl fp, PE (blkA X scope s H C cl fp) kx tk) (he : ∀ s H C cl fp, PE (blkA X scope s H C cl fp) vx tv)
    (hs : ∀ x, foldedSetIterable iter X.env x = pure x := by intro _; rfl) : PE X (.DictComp kx vx [⟨tg, iter, ifs, 0⟩] scope pos) (tDcP o0 wi g tt tk tv (own.map (·.2))) := by
  refine ⟨fun pins s σ H Q I h => ?_⟩
  rw [arm_eval_DictComp]
  refine wpAny_comprehension_free (use := none) rfl hs (closure_ok fun y hy e => (ok.free y hy e).elim (fun k => I.ok.has _ (.inl k)) fun k => I.ok.has _ (.inr k)) ok.kind (fun y hy e => by rw [ok.uniq y hy, e]) (thn (hi.run pins s σ H _ I h) fun xv sb hx => thn hx fun itv sc hcv => ?_)
  obtain ⟨it, fp, tn, J, Hc, e, Ic, T, stc, fc, q⟩ := hcv
  subst e
  refine wpAny_newObj_type (newEnv_comp ?_)
  generalize hD : sc.heap.objs.size = D
  have hDn : Hc D = none := Ic.hok.fresh (Nat.le_of_eq hD)
  obtain ⟨W, ⟨m0, w0⟩, turn⟩ := q D hDn
  generalize hsd : ({ sc with heap := sc.heap.push { cls := .type "dict", data := .dict #[] } } : Shared) = sd
  have new0 : ObjOk X.prog X.w (upd Hc D o0) (sc.heap.push { cls := .type "dict", data := .dict #[] }) D o0 := by
    rw [← hD]
    rcases ho with rfl | rfl
    · exact dk_empty sc.heap Ic.big
    · exact dt_empty sc.heap Ic.big
  have Id : Inv X pins σ (upd Hc D o0) sd := by
    rw [← hsd]
    exact Ic.laid (t' := sc.toks) (fun b o z => Heap.get?_push_of_some _ z) (Nat.le_of_eq hD) new0
  have hpd : sd.heap = sc.heap.push { cls := .type "dict", data := .dict #[] } := by rw [← hsd]
  have small : ∀ b ∈ fp, b < sc.heap.objs.size := fun b hb => (T.obj _ _ stc b hb).elim fun o z => Heap.lt_size z.1
  have fd : ∀ b ∈ fp, FpOk X pins (upd Hc D o0) b ∧ b < sd.heap.objs.size := fun b hb => by
    have lt := small b hb
    have nb : b ≠ D := by rw [← hD]; exact Nat.ne_of_lt lt
    exact ⟨⟨(upd_ne nb).trans (fc b hb).1, (fc b hb).2⟩, by rw [hpd, Heap.size_push]; exact Nat.lt_succ_of_lt lt⟩
  have std : tn 0 sd.heap := T.keep _ _ _ stc fun b _ o z => by rw [hpd]; exact Heap.get?_push_of_some _ z
  have Ie := block_start Id ok hN fd
  obtain ⟨C, hC⟩ : ∃ C, C = sd.heap.objs.size := ⟨_, rfl⟩
  obtain ⟨cl, hcl⟩ : ∃ cl, cl = cellsFrom (C + 1) scope.names (cloFrom X.env.cells scope.names []) := ⟨_, rfl⟩
  have pg := hg sd (upd Hc D o0) C cl fp
  have pt := ht sd (upd Hc D o0) C cl fp
  have pk := hk sd (upd Hc D o0) C cl fp
  have pv' := he sd (upd Hc D o0) C cl fp
  obtain ⟨post, hpost⟩ : ∃ post, post = compPost (model X.prog X.w) X.A X.xe none (EP X pins σ Q) (.ref D) C := ⟨_, rfl⟩
  show codeAny _ _ (.compStart (.DictComp kx vx [⟨tg, iter, ifs, 0⟩] scope pos) 0 (.ref it) (.ref D) (compEnvC scope (cellsFrom (sd.heap.objs.size + 1) scope.names (cloFrom X.env.cells scope.names [])) sd.heap.objs.size X.env)) _ { sd with heap := pushCells (sd.heap.push { cls := .type "dict", data := .dict #[] }) scope.names }
  rw [← hC] at Ie ⊢
  rw [← hcl] at Ie ⊢
  have nofp : ∀ b ∈ fp, upd Hc D o0 b = none := fun b hb => (fd b hb).1.1
  obtain ⟨ce, hce⟩ : ∃ ce, ce = compEnvC scope cl C X.env := ⟨_, rfl⟩
  have ceL : ce.locals = C := by rw [hce]; rfl
  unfold blkA at pg pt pk pv'
  rw [← hce] at Ie pg pt pk pv' ⊢
  obtain ⟨Hd, hHd⟩ : ∃ Hd, Hd = upd Hc D o0 := ⟨_, rfl⟩
  rw [← hHd] at Id Ie pg pt pk pv' w0 nofp fd
  generalize hse : ({ sd with heap := pushCells (sd.heap.push { cls := .type "dict", data := .dict #[] }) scope.names } : Shared) = se at Ie ⊢
  have ste : tn 0 se.heap := T.keep _ _ _ std fun b _ o z => by rw [← hse]; exact pushCells_keeps _ _ _ _ (Heap.get?_push_of_some _ z)
  have good : ∀ {σ' : L2.St} {Hx : Hp} {sx : Shared}, Inv (X.blk sd Hd scope ce fp) [] σ' Hx sx → (∀ b ∈ fp, Hx b = none) → ∀ b ∈ fp, FpOk (X.blk sd Hd scope ce fp) [] Hx b := fun {σ' Hx sx} Ix hn b hb => by
    obtain ⟨k1, k2⟩ := Ix.ok.exf b hb
    exact ⟨hn b hb, k1, Ix.ok.exfs b hb, .inl hb, fun x c z => k2 x c z, fun p hp => by cases hp⟩
  refine codeAny_compStart_dict ?loop (T.self X.A 0 _ _ _ ste ?loop)
  case loop =>
    refine compLoop_anyD (fun n sx => ∃ i Hx, Inv (X.blk sd Hd scope ce fp) [] (wipe σ (own.map (·.2))) Hx sx ∧ tn i sx.heap ∧ (∀ b ∈ fp, Hx b = none) ∧ W i n Hx) ?_ m0 ⟨0, Hd, Ie, ste, nofp, w0⟩
    rintro n sf ⟨i, Hf, If, stf, nf, wf⟩
    rcases turn i n Hf wf with ⟨stop, fin⟩ | ⟨go, Nx, hNx, step⟩
    · refine thnF (T.done (X.blk sd Hd scope ce fp) rfl rfl rfl hc i [] sf _ Hf (fun _ _ => False) If (good If nf) stf stop) fun r sg ⟨hr, Ig⟩ => ?_
      subst hr
      have Ih : Inv X pins σ Hf sg := Id.call' (ch := fp) Ig.os Ig.base Ig.hok Ig.bare fun b hb => by
        obtain ⟨_, k1, k2, k3, k4, k5⟩ := (fd b hb).1
        exact ⟨k3, k1, k4, k5⟩
      have nC : Hf C = none := ceL ▸ Ig.free
      obtain ⟨m, hn, _⟩ := Ig.loc
      have hn : sg.heap.Ns ce.locals m := hn
      rw [ceL] at hn
      have fC := Id.fpOk (b := C) (by rw [hC]; exact Nat.le_refl _) nC
      refine ⟨m, hn, fun hz sb => ?_⟩
      obtain ⟨c0, c1, c2, c3, c4, c5⟩ := fC
      exact ⟨.ref D, Hf, Ih.turned (t' := sg.toks) (fun b o hb z => (sb.2 b hb).trans z) c0 c1 c3 c4 c5, rfl, fin⟩
    · refine thnF (T.item (X.blk sd Hd scope ce fp) rfl rfl rfl hc i [] sf _ Hf (fun _ _ => False) If (good If nf) stf go) fun r sg ⟨u, hr, hsg⟩ => ?_
      subst hr
      refine thnF hsg fun _ sh ⟨x, Hh, Ih, rh, yh, sth, nh⟩ => ?_
      have Ip := Ih.pinned (good Ih nh) (T.obj _ _ sth)
      refine thnF (pg.run _ sh _ Hh x u _ Ip rh (step x Hh yh)) fun _ si ⟨σi, Hi, Ii, wi', qi⟩ => ?_
      refine thnF (pt.run _ si σi Hi _ Ii qi) fun b sj ⟨Hj, Ij, qj⟩ => ?_
      have wl : (wipe σ (own.map (·.2))).length = σi.length := by rw [← wi', wipe_length]
      have close : ∀ {sx : Shared} {Hx : Hp}, Inv (X.blk sd Hd scope ce fp) ([] ++ pinsAt fp sh.heap) σi Hx sx → Nx Hx → ∃ m, m < n ∧ ∃ i Hy, Inv (X.blk sd Hd scope ce fp) [] (wipe σ (own.map (·.2))) Hy sx ∧ tn i sx.heap ∧ (∀ b ∈ fp, Hy b = none) ∧ W i m Hy := fun {sx Hx} Ix nx => by
        obtain ⟨m', lt, w'⟩ := hNx Hx nx
        have pinned : ∀ b ∈ fp, ∀ o, sh.heap.get? b = some o → sx.heap.get? b = some o ∧ Hx b = none := fun b hb o z => by
          obtain ⟨p1, p2, _⟩ := Ix.pin (b, o) (List.mem_append_right _ (List.mem_append_right _ (mem_pinsAt hb z)))
          exact ⟨p1, p2⟩
        refine ⟨m', lt, i + 1, Hx, (Ix.unpinned (pins := [])).weak wl (fun j v z => (wipe_some (wi' ▸ z)).1), T.keep _ _ _ sth fun b hb o z => (pinned b hb o z).1, fun b hb => ?_, w'⟩
        obtain ⟨o, z, _⟩ := T.obj _ _ sth b hb
        exact (pinned b hb o z).2
      cases b with
      | false => exact close Ij (by simpa using qj)
      | true =>
        simp only [if_true] at qj ⊢
        refine thnF (pk.run _ sj σi Hj _ Ij qj) fun y sk ⟨yk, Hk, Ik, rk, qk⟩ => thnF (pv'.run _ sk σi Hk _ Ik qk) fun z sl ⟨zv, Hl, Il, rl, Hm, dp, nx⟩ => ?_
        exact put_dict (X := X.blk sd Hd scope ce fp) hu Il dp rk rl fun sm Im => close Im nx
end
end Mi

set_option Elab.async false
set_option linter.all false
set_option maxRecDepth 100000
namespace Mi
open PySem PySem.Spec PyProof.Rows L2

/-! ## {k: v for .. in .. if ..}, keys that are tuples -/
def dcGoT (vs : List Nat) (b : Bd) (t : MT) (mk mv : ME) : List D → List D → List D → Env → Rs ((List D × List D) × Env)
  | [], ks, ws, env => .ok ((ks, ws), env)
  | d :: ds, ks, ws, env => match b d env with
    | none => .bad
    | some e1 => (noX (t e1)).bind fun (c, e2) => if c = true then (noX (mk e2)).bind fun (x, e3) => (noX (mv e3)).bind fun (y, e4) =>
        if ws.length < lim then match dicPut true ks ws x y with
          | some (ks', ws') => dcGoT vs b t mk mv ds ks' ws' (killAll vs e4)
          | none => .bad
        else .bad
      else dcGoT vs b t mk mv ds ks ws (killAll vs e2)
def mDcT (vs : List Nat) (it : MA) (b : Bd) (t : MT) (mk mv : ME) : ME := fun env => (it env).bind fun (ds, e1) => (dcGoT vs b t mk mv ds [] [] (killAll vs e1)).bind fun (p, e2) => .ok (.dic true p.1 p.2, e2)
theorem put_true {K : PySem.W.Frag} {mg : MG} {F : Hp} {ks ws ks' ws' : List D} {x y : D} {kk : List (List Key)} {us : List V} {v : V} (p1 : tkeysOf ks = some kk) (p2 : kk.length = us.length) (hw : FzL K mg F ws us) (hy : Fz K mg F y v) (h : dicPut true ks ws x y = some (ks', ws')) :
    ∃ k kk' us', tkeyOf x = some k ∧ tkeysOf ks' = some kk' ∧ kk'.length = us'.length ∧ FzL K mg F ws' us' ∧ putK (kk.zip us) k v = kk'.zip us' := by
  unfold dicPut at h
  simp only at h
  cases q2 : tkeyOf x with
  | none => rw [p1, q2] at h; cases h
  | some k =>
    rw [p1, q2] at h
    simp only [Option.some.injEq] at h
    obtain ⟨us', g1, g2, g3⟩ := put_zip (k := k) (x := x) (ks := ks) p2 hw hy
    refine ⟨k, _, us', rfl, ?_, g2, ?_, g1⟩
    · by_cases hh : hasK kk k = true
      · rw [if_pos hh] at h ⊢; cases h; exact p1
      · rw [if_neg hh] at h ⊢; cases h; exact tkeysOf_app p1 q2
    · by_cases hh : hasK kk k = true
      · rw [if_pos hh] at h g3; cases h; exact g3
      · rw [if_neg hh] at h g3; cases h; exact g3
theorem dcP_it {J : It} {n : Nat} {G : Hp → Prop} {Y : Nat → Hp → V → Hp → Prop} (w : Walk J n G Y) {g : TG} {tt : TT} {tk tv : TE} {vs : List Nat} {σ : L2.St} {H1 : Hp} {D : Addr} {Qd : Hp → Prop} (Pv : Nat → Hp → Prop) (h0 : Pv 0 H1) (hG : ∀ i H, i ≤ n → Pv i H → G H)
    (hs : ∀ i x H H', i < n → Pv i H → Y i H x H' → g x (wipe σ vs) H' fun σ2 H2 => wipe σ2 vs = wipe σ vs ∧ tt σ2 H2 fun b H3 =>
      if b = true then tk σ2 H3 fun y H4 => tv σ2 H4 fun z H5 => ∃ H6, DPut H5 D y z H6 ∧ Pv (i + 1) H6 else Pv (i + 1) H3) (hd : ∀ H, Pv n H → Qd H) :
    ∃ W : Nat → Nat → Hp → Prop, (∃ m, W 0 m H1) ∧ ∀ i m H, W i m H →
      (J.stop i H ∧ Qd H) ∨ (J.go i H ∧ ∃ Nx : Hp → Prop, (∀ H', Nx H' → ∃ m', m' < m ∧ W (i + 1) m' H') ∧ ∀ x H', J.yld i H x H' → g x (wipe σ vs) H' fun σ2 H2 => wipe σ2 vs = wipe σ vs ∧ tt σ2 H2 fun b H3 =>
        if b = true then tk σ2 H3 fun y H4 => tv σ2 H4 fun z H5 => ∃ H6, DPut H5 D y z H6 ∧ Nx H6 else Nx H3) := by
  refine ⟨fun i m H => (m = n - i ∧ i ≤ n) ∧ Pv i H, ⟨n, ⟨by simp, Nat.zero_le _⟩, h0⟩, ?_⟩
  rintro i m H ⟨⟨rfl, hi⟩, p⟩
  have q := hG i H hi p
  rcases Nat.lt_or_ge i n with hlt | hge
  · exact .inr ⟨w.goes i H hlt q, Pv (i + 1), fun H' p' => ⟨n - (i + 1), by omega, ⟨rfl, hlt⟩, p'⟩, fun x H' y => hs i x H H' hlt p (w.yields i H x H' hlt q y)⟩
  · obtain rfl : i = n := by omega
    exact .inl ⟨w.stops H q, hd H p⟩
theorem dcT_read {K : PySem.W.Frag} {mg : MG} {W : WX} {it : MA} {g : TG} {b : Bd} {js vs : List Nat} {mt : MT} {mk mv : ME} (gd : GD K mg g b js) (hj : ∀ j ∈ js, j ∈ vs) :
    ∀ σ H Q, tM K mg W (mDcT vs it b mt mk mv) σ H Q → tDcP (.dT []) (tMI K mg W it) g (tMT K mg WF mt) (tM K mg WF mk) (tM K mg WF mv) vs σ H Q := by
  rintro σ H Q ⟨B, F, env, s, h⟩
  refine ⟨B, F, env, s, (Pst.bind h).imp fun ds env1 F1 H1 s1 e1 h1 J hJ D hD => ?_⟩
  simp only at h1
  have h1 := Pst.bind h1
  obtain ⟨G, Y, w, hG, hY⟩ := hJ
  obtain ⟨s2, a1, a2, a3, a4⟩ := s1.laidO (o := .dT []) hD
  have f0 : B.F0 D = none := by
    cases q : B.F0 D with
    | none => rfl
    | some u => rcases s1.f0.rd D u (.inl q) with z | ⟨_, z⟩ <;> rw [a1] at z <;> cases z
  have own0 : ∀ i, ¬ OwnAt (killAll vs env1) (wipe σ vs) i D := fun i ⟨p1, x, p2, p3⟩ => by
    rcases killAll_get p2 with ⟨_, rfl⟩ | ⟨hi, p2'⟩
    · cases p3
    · refine a4 i ⟨?_, x, p2', p3⟩
      have p1 : (slots (wipe σ vs))[i]? = some (some (.ref D)) := p1
      rw [wipe_get, if_neg hi] at p1
      exact p1
  refine dcP_it w (fun i H' => ∃ F' env' ks ws kk us, Sta K mg (B.fill D (.dT (kk.zip us))) F' (killAll vs env') (wipe σ vs) H' ∧ Ex F1 F' ∧ tkeysOf ks = some kk ∧ kk.length = us.length ∧ FzL K mg F' ws us ∧
      Pst K mg W B F' σ (fun p env2 F2 H2 => Pst K mg W B F2 σ (fun d _ F' H' => ∀ v, Fz K mg F' d v → Q v H') (.ok (.dic true p.1 p.2, env2))) (dcGoT vs b mt mk mv (ds.drop i) ks ws (killAll vs env')))
    ⟨F1, env1, [], [], [], [], (s2.wiped vs).toFill a1 a2 a3 own0 upd_same, Ex.refl F1, rfl, rfl, rfl, h1⟩
    (fun i H' _ ⟨F', env', ks, ws, kk, us, s', ex, _⟩ => hG H' (ex.trans (s'.ofFill f0 a2 a3).1.fH)) (fun i x H' H2 hi ⟨F', env', ks, ws, kk, us, s', ex, k1, k2, k3, hp⟩ y => ?_) (fun H' ⟨F', env', ks, ws, kk, us, s', ex, k1, k2, k3, hp⟩ => ?_)
  · obtain ⟨F2, d, hd, st, fz⟩ := hY F' i H' x H2 hi ex s'.fH y
    have ed : ds.drop i = d :: ds.drop (i + 1) := by
      rw [List.drop_eq_getElem_cons hi]
      rw [List.getElem?_eq_getElem hi] at hd
      cases hd; rfl
    rw [ed] at hp
    unfold dcGoT at hp
    cases eb : b d (killAll vs env') with
    | none => rw [eb] at hp; exact hp.elim
    | some e2 =>
      rw [eb] at hp
      simp only at hp
      refine gd (B.fill D _) F2 (killAll vs env') (wipe σ vs) H2 d x e2 _ (s'.step st) fz eb fun σ3 s3 n3 => ⟨near_wipe n3 hj, ?_⟩
      refine ⟨B.fill D _, F2, e2, s3, ?_⟩
      have back : ∀ {F4 : Hp} {e4 : Env} {H4 : Hp} {o : HO}, Sta K mg (B.fill D o) F4 e4 σ3 H4 → Sta K mg (B.fill D o) F4 (killAll vs e4) (wipe σ vs) H4 := fun {F4 e4 H4 o} st4 =>
        (st4.killAll vs).dead_off n3.1.symm fun i hi => (n3.2 i fun z => hi (hj i z)).symm
      cases et : mt e2 with
      | bad => rw [et] at hp; exact hp
      | exc x1 e3 => rw [et] at hp; exact hp.elim
      | ok p =>
        obtain ⟨c, e3⟩ := p
        rw [et] at hp
        intro F3 H3 s4 ex3
        cases c with
        | false => exact ⟨F3, e3, ks, ws, kk, us, back s4, (ex.trans st.fF).trans ex3, k1, k2, (k3.ex st.fF).ex ex3, Pst.mono (st.fF.trans ex3) hp⟩
        | true =>
          show tM K mg WF mk σ3 H3 _
          refine ⟨_, F3, e3, s4, ?_⟩
          cases ek : mk e3 with
          | bad => simp [ek] at hp; exact hp.elim
          | exc x1 e5 => simp [ek, noX] at hp; exact hp.elim
          | ok pk =>
            obtain ⟨xd, e5⟩ := pk
            intro F4 H4 s5 ex4 xv hxv
            refine ⟨_, F4, e5, s5, ?_⟩
            simp only [noX_ok, Rs.bind_ok, if_true, ek] at hp
            cases em : mv e5 with
            | bad => rw [em] at hp; exact hp.elim
            | exc x1 e6 => rw [em] at hp; exact hp.elim
            | ok pv =>
              obtain ⟨yd, e6⟩ := pv
              rw [em] at hp
              intro F5 H5 s6 ex5 v hv
              simp only [noX_ok, Rs.bind_ok] at hp
              obtain ⟨o1, o2, o3, o4⟩ := s6.ofFill f0 a2 a3
              have hall : Ex F' F5 := ((st.fF.trans ex3).trans ex4).trans ex5
              split at hp
              · rename_i hl
                cases r : dicPut true ks ws xd yd with
                | none => rw [r] at hp; exact hp.elim
                | some pr =>
                  obtain ⟨ks', ws'⟩ := pr
                  rw [r] at hp
                  obtain ⟨k, kk', us', g1, g2, g3, g4, g5⟩ := put_true k1 k2 (k3.ex hall) hv r
                  obtain ⟨b', rfl, hb'⟩ := tkeyOf_fz g1 (hxv.ex ex5)
                  refine ⟨_, DPut.t o4 (s6.fH.ex _ _ rfl hb') (by rw [List.length_zip, k2, Nat.min_self, ← (k3.ex hall).length]; exact lim_lt hl), F5, e6, ks', ws', kk', us', ?_, ex.trans hall, g2, g3, g4, Pst.mono hall hp⟩
                  rw [g5]
                  have s7 := ex_mut (o := .dT (kk'.zip us')) o1 o2 a2 a3 o3 (fun fs z => by rw [o4] at z; cases z)
                  exact back (s7.toFill o2 a2 a3 o3 upd_same)
              · exact hp.elim
  · rw [List.drop_length] at hp
    obtain ⟨o1, o2, o3, o4⟩ := s'.ofFill f0 a2 a3
    have o5 : Sta K mg B F' (killAll vs env') σ H' := o1.dead_off (wipe_length σ vs).symm fun i hi => by rw [wipe_get, if_neg hi]
    have o6 : ∀ i, ¬ OwnAt (killAll vs env') σ i D := fun i ⟨p1, x, p2, p3⟩ => by
      rcases killAll_get p2 with ⟨_, rfl⟩ | ⟨hi, p2'⟩
      · cases p3
      · refine o3 i ⟨?_, x, p2, p3⟩
        show (slots (wipe σ vs))[i]? = _
        rw [wipe_get, if_neg hi]
        exact p1
    have q1 := hp F' H' o5 (Ex.refl F')
    obtain ⟨ez, s8⟩ := o5.freezeT o6 o2 a2 o4
    exact q1 _ H' s8 ez (.ref D) ⟨D, us, rfl, k3.ex ez, kk, k1, k2, .inl upd_same⟩
section
variable {X : Cx} {W : WX} {tg iter kx vx : Expr} {ifs : List Expr} {scope : Scope} {own : List (Str × Nat)} {pos : Pos} {it : MA} {g : TG} {b : Bd} {js : List Nat} {mt : MT} {mk mv : ME}
theorem se_dcT {vs : List Nat} (hu : X.A.units < cLine) (hc : X.calm = true) (hN : X.N.Nodup) (hi : PI X tg iter (tMI X.K X.mg W it)) (ok : BlkOk X.N X.env.scope scope own) (gd : GD X.K X.mg g b js) (hj : ∀ j ∈ js, j ∈ own.map (·.2))
    (hg : ∀ (s : Shared) (H : Hp) (C : Addr) (cl : List (Str × Addr)) (fp : List Addr), PG (X.blk s H scope (compEnvC scope cl C X.env) fp) tg g) (ht : ∀ (s : Shared) (H : Hp) (C : Addr) (cl : List (Str × Addr)) (fp : List Addr), PTs (X.blk s H scope (compEnvC scope cl C X.env) fp) ifs (tMT X.K X.mg WF mt))
    (hk : ∀ (s : Shared) (H : Hp) (C : Addr) (cl : List (Str × Addr)) (fp : List Addr), PE (X.blk s H scope (compEnvC scope cl C X.env) fp) kx (tM X.K X.mg WF mk)) (he : ∀ (s : Shared) (H : Hp) (C : Addr) (cl : List (Str × Addr)) (fp : List Addr), PE (X.blk s H scope (compEnvC scope cl C X.env) fp) vx (tM X.K X.mg WF mv))
    (hs : ∀ x, foldedSetIterable iter X.env x = pure x := by intro _; rfl) (hv : own.map (·.2) = vs := by rfl) : PE X (.DictComp kx vx [⟨tg, iter, ifs, 0⟩] scope pos) (tM X.K X.mg W (mDcT vs it b mt mk mv)) := by
  subst hv
  exact PE_imp (pe_dcP (.inr rfl) hu hc hN hi ok hg ht hk he hs) (dcT_read gd hj)
end
end Mi

set_option Elab.async false
set_option linter.all false
set_option maxRecDepth 100000
namespace Mi
open PySem PySem.Spec PyProof.Rows L2

/-! ## what holds behind a run -/
def wE {α : Type} (r : Rs (α × Env)) (Q : α → Env → Prop) : Prop := match r with
  | .ok (a, e) => Q a e
  | _ => False
section
variable {α β : Type} {Q : α → Env → Prop} {env : Env}
@[simp] theorem w_ok (a : α) (e : Env) : wE (.ok (a, e)) Q = Q a e := rfl
@[simp] theorem w_bad : wE (.bad : Rs (α × Env)) Q = False := rfl
@[simp] theorem w_exc (x : Xc) (e : Env) : wE (.exc x e : Rs (α × Env)) Q = False := rfl
theorem w_bind (r : Rs (β × Env)) (f : β × Env → Rs (α × Env)) : wE (r.bind f) Q = wE r fun b e => wE (f (b, e)) Q := by
  cases r with
  | ok p => rfl
  | _ => rfl
theorem wE_eq {r : Rs (α × Env)} (h : wE r Q) : ∃ a e, r = .ok (a, e) ∧ Q a e := by
  cases r with
  | ok p => exact ⟨p.1, p.2, rfl, h⟩
  | _ => exact h.elim
theorem wE.imp {r : Rs (α × Env)} {Q' : α → Env → Prop} (h : wE r Q) (i : ∀ a e, Q a e → Q' a e) : wE r Q' := by
  cases r with
  | ok p => exact i _ _ h
  | _ => exact h.elim
@[simp] theorem w_optR (o : Option α) : wE (optR env o) Q = match o with | some a => Q a env | none => False := by cases o <;> rfl
@[simp] theorem w_at (p : PR) {Q : D → Env → Prop} : wE (p.at env) Q = match p with | .ok d => Q d env | _ => False := by cases p <;> rfl
end
/-! ### cases -/
def oM {α : Type} (o : Option α) (k : α → Prop) : Prop := match o with
  | some a => k a
  | none => False
@[simp] theorem oM_some {α : Type} (a : α) (k : α → Prop) : oM (some a) k = k a := rfl
@[simp] theorem oM_none {α : Type} (k : α → Prop) : oM none k = False := rfl
def bM (d : D) (k : Bool → Prop) : Prop := match d with
  | .bl b => k b
  | _ => False
@[simp] theorem bM_bl (b : Bool) (k : Bool → Prop) : bM (.bl b) k = k b := rfl
def sM (d : D) (k : List D → Prop) : Prop := match d with
  | .lst ds => k ds
  | .tup ds => k ds
  | _ => False
@[simp] theorem sM_lst (b : List D) (k : List D → Prop) : sM (.lst b) k = k b := rfl
@[simp] theorem sM_tup (b : List D) (k : List D → Prop) : sM (.tup b) k = k b := rfl
def lM (d : D) (k : List D → Prop) : Prop := match d with
  | .lst ds => k ds
  | _ => False
@[simp] theorem lM_lst (b : List D) (k : List D → Prop) : lM (.lst b) k = k b := rfl
def jM (d : D) (k : Int → Prop) : Prop := match d with
  | .int ds => k ds
  | _ => False
@[simp] theorem jM_int (b : Int) (k : Int → Prop) : jM (.int b) k = k b := rfl
def slM (s : Option Sl) (k : List D → (List D → Sl) → Prop) : Prop := match s with
  | some (.ol ds) => k ds .ol
  | some (.io ds) => k ds .io
  | _ => False
@[simp] theorem slM_ol (b : List D) (k : List D → (List D → Sl) → Prop) : slM (some (.ol b)) k = k b .ol := rfl
@[simp] theorem slM_io (b : List D) (k : List D → (List D → Sl) → Prop) : slM (some (.io b)) k = k b .io := rfl
def flM (f : Fl) (k : Prop) (o : Fl → Prop) : Prop := match f with
  | .nx => k
  | f => o f
@[simp] theorem flM_nx (k : Prop) (o : Fl → Prop) : flM .nx k o = k := rfl
@[simp] theorem flM_rt (d : D) (k : Prop) (o : Fl → Prop) : flM (.rt d) k o = o (.rt d) := rfl
@[simp] theorem flM_ro (d : List D) (k : Prop) (o : Fl → Prop) : flM (.ro d) k o = o (.ro d) := rfl
@[simp] theorem flM_br (k : Prop) (o : Fl → Prop) : flM .br k o = o .br := rfl
@[simp] theorem flM_ct (k : Prop) (o : Fl → Prop) : flM .ct k o = o .ct := rfl
def prM (p : PR) (k : D → Prop) : Prop := match p with
  | .ok d => k d
  | _ => False
@[simp] theorem prM_ok (d : D) (k : D → Prop) : prM (.ok d) k = k d := rfl
def orM (p : OR) (k : List D → Prop) : Prop := match p with
  | .ok d => k d
  | _ => False
@[simp] theorem orM_ok (d : List D) (k : List D → Prop) : orM (.ok d) k = k d := rfl
def irM (p : IR) (k : D → List D → Prop) : Prop := match p with
  | .ok d xs => k d xs
  | _ => False
@[simp] theorem irM_ok (d : D) (xs : List D) (k : D → List D → Prop) : irM (.ok d xs) k = k d xs := rfl
/-! ### expressions -/
section
variable {Q : D → Env → Prop} {QT : Bool → Env → Prop} {QA : List D → Env → Prop} {QS : Fl → Env → Prop} {env : Env} {m ma mb : ME} {a b c : Opd} {t ta tb : MT} {sa sb : MS} {ml : MA}
def oW (o : Opd) (env : Env) (Q : Option D → Env → Prop) : Prop := wE (o.run env) Q
@[simp] theorem oW_v (i : Nat) {Q : Option D → Env → Prop} : oW (.v i) env Q = ((peek env i).isSome = true ∧ Q none env) := by
  show wE (match peek env i with | some _ => .ok (none, env) | none => .bad) Q = _
  cases peek env i <;> simp
@[simp] theorem oW_m {Q : Option D → Env → Prop} : oW (.m m) env Q = wE (m env) fun d e => Q (some d) e := by
  unfold oW Opd.run
  rw [w_bind]; rfl
@[simp] theorem oW_c (d : D) {Q : Option D → Env → Prop} : oW (.c d) env Q = Q (some d) env := rfl
@[simp] theorem get_v (i : Nat) (o : Option D) : Opd.get (.v i) o env = peek env i := rfl
@[simp] theorem get_m (o : Option D) : Opd.get (.m m) o env = o := by cases o <;> rfl
@[simp] theorem get_c (d : D) (o : Option D) : Opd.get (.c d) o env = o := by cases o <;> rfl
@[simp] theorem w_mVar (i : Nat) : wE (mVar i env) Q = oM env[i]? fun s => match s with
  | .fz d => Q d env
  | .ol ds => Q (.lst ds) (env.set i (.fz (.lst ds)))
  | .od t ks ws => Q (.dic t ks ws) (env.set i (.fz (.dic t ks ws)))
  | _ => False := by
  unfold mVar
  cases env[i]? with
  | none => rfl
  | some s => cases s <;> rfl
@[simp] theorem w_mK (d : D) : wE (mK d env) Q = Q d env := rfl
@[simp] theorem w_mBin (f : D → D → Option D) : wE (mBin f a b env) Q = oW a env fun x e1 => oW b e1 fun y e2 => oM (a.get x e2) fun dx => oM (b.get y e2) fun dy => oM (f dx dy) fun z => Q z e2 := by
  unfold mBin oW
  simp only [w_bind]
  congr 1; funext x e1; congr 1; funext y e2
  cases a.get x e2 <;> cases b.get y e2 <;> simp [oM] <;> (try (cases f _ _ <;> rfl))
@[simp] theorem w_mUn (f : D → Option D) : wE (mUn f a env) Q = oW a env fun x e1 => oM (a.get x e1) fun dx => oM (f dx) fun z => Q z e1 := by
  unfold mUn oW
  simp only [w_bind]
  congr 1; funext x e1
  cases a.get x e1 <;> simp [oM] <;> (try (cases f _ <;> rfl))
@[simp] theorem w_mChain (f g : D → D → Option D) : wE (mChain f g a b c env) Q = oW a env fun x e1 => oW b e1 fun y e2 => oM (a.get x e2) fun dx => oM (b.get y e2) fun dy => oM (f dx dy) fun z => bM z fun k =>
    if k = true then oW c e2 fun w e3 => oM (b.get y e3) fun dy => oM (c.get w e3) fun dz => oM (g dy dz) fun z => Q z e3 else Q (.bl false) e2 := by
  unfold mChain oW
  simp only [w_bind]
  congr 1; funext x e1; congr 1; funext y e2
  cases a.get x e2 with
  | none => rfl
  | some dx =>
    cases b.get y e2 with
    | none => rfl
    | some dy =>
      simp only [oM_some]
      cases f dx dy with
      | none => rfl
      | some z =>
        cases z with
        | bl k =>
          cases k with
          | false => rfl
          | true =>
            simp only [oM_some, bM_bl, if_true, w_bind]
            congr 1; funext w e3
            cases b.get y e3 <;> cases c.get w e3 <;> simp [oM] <;> (try (cases g _ _ <;> rfl))
        | _ => rfl
def lW (os : List Opd) (env : Env) (Q : List (Option D) → Env → Prop) : Prop := wE (runL os env) Q
@[simp] theorem lW_nil {Q : List (Option D) → Env → Prop} : lW [] env Q = Q [] env := rfl
@[simp] theorem lW_cons (o : Opd) (os : List Opd) {Q : List (Option D) → Env → Prop} : lW (o :: os) env Q = oW o env fun x e1 => lW os e1 fun r e2 => Q (x :: r) e2 := by
  unfold lW oW
  simp only [runL, w_bind]
  rfl
@[simp] theorem getL_nil : getL [] [] env = some [] := rfl
@[simp] theorem getL_cons (o : Opd) (os : List Opd) (x : Option D) (xs : List (Option D)) : getL (o :: os) (x :: xs) env = match o.get x env, getL os xs env with | some d, some ds => some (d :: ds) | _, _ => none := rfl
@[simp] theorem w_mFn (f : List D → Option D) (as : List Opd) : wE (mFn f as env) Q = lW as env fun xs e1 => oM (getL as xs e1) fun ds => oM (f ds) fun z => Q z e1 := by
  unfold mFn lW
  simp only [w_bind]
  congr 1; funext x e1
  cases getL as x e1 <;> simp [oM] <;> (try (cases f _ <;> rfl))
@[simp] theorem w_mFnL (f : List D → Option D) (as : List Opd) : wE (mFnL f as env) QA = lW as env fun xs e1 => oM (getL as xs e1) fun ds => oM (f ds) fun z => lM z fun zs => QA zs e1 := by
  unfold mFnL lW
  simp only [w_bind]
  congr 1; funext x e1
  cases getL as x e1 with
  | none => rfl
  | some ds =>
    simp only [oM_some]
    cases f ds with
    | none => rfl
    | some z => cases z <;> rfl
@[simp] theorem w_mL_nil : wE (mL [] env) QA = QA [] env := rfl
@[simp] theorem w_mL_cons (m : ME) (ms : List ME) : wE (mL (m :: ms) env) QA = wE (m env) fun d e1 => wE (mL ms e1) fun r e2 => QA (d :: r) e2 := by
  simp only [mL, w_bind]; rfl
theorem w_lim {α : Type} {Q : α → Env → Prop} {n : Nat} {x : α} {e : Env} : wE (if n ≤ lim then .ok (x, e) else .bad) Q = (n ≤ lim ∧ Q x e) := by
  by_cases h : n ≤ lim <;> simp [h]
@[simp] theorem w_mTup : wE (mTup ml env) Q = wE (ml env) fun ds e1 => ds.length ≤ lim ∧ Q (.tup ds) e1 := by
  unfold mTup
  rw [w_bind]
  congr 1; funext ds e1
  exact w_lim
@[simp] theorem w_mLstF : wE (mLstF ml env) Q = wE (ml env) fun ds e1 => ds.length ≤ lim ∧ Q (.lst ds) e1 := by
  unfold mLstF
  rw [w_bind]
  congr 1; funext ds e1
  exact w_lim
@[simp] theorem w_mLst : wE (mLst ml env) QA = wE (ml env) fun ds e1 => ds.length ≤ lim ∧ QA ds e1 := by
  unfold mLst
  rw [w_bind]
  congr 1; funext ds e1
  exact w_lim
@[simp] theorem w_mFrz : wE (mFrz ml env) Q = wE (ml env) fun ds e1 => Q (.lst ds) e1 := by unfold mFrz; rw [w_bind]; rfl
@[simp] theorem w_mAndV : wE (mAndV ma mb env) Q = wE (ma env) fun d e1 => bM d fun k => if k = true then wE (mb e1) Q else Q (.bl false) e1 := by
  unfold mAndV
  rw [w_bind]
  congr 1; funext d e1
  cases d with
  | bl k => cases k <;> rfl
  | _ => rfl
@[simp] theorem w_mOrV : wE (mOrV ma mb env) Q = wE (ma env) fun d e1 => bM d fun k => if k = true then Q (.bl true) e1 else wE (mb e1) Q := by
  unfold mOrV
  rw [w_bind]
  congr 1; funext d e1
  cases d with
  | bl k => cases k <;> rfl
  | _ => rfl
@[simp] theorem w_mNotV : wE (mNotV ma env) Q = wE (ma env) fun d e1 => bM d fun b => Q (.bl (!b)) e1 := by
  unfold mNotV
  rw [w_bind]
  congr 1; funext d e1
  cases d <;> rfl
@[simp] theorem w_mIfE : wE (mIfE t ma mb env) Q = wE (t env) fun c e1 => if c = true then wE (ma e1) Q else wE (mb e1) Q := by
  unfold mIfE
  rw [w_bind]
  congr 1; funext d e1
  cases d <;> rfl
@[simp] theorem w_mSl (o : Opd) (lo hi : Option Opd) : wE (mSl o lo hi env) Q = oW o env fun x e1 => wE (partR lo e1) fun l e2 => wE (partR hi e2) fun h e3 => oM (o.get x e3) fun d => oM (dSl l h d) fun z => Q z e3 := by
  unfold mSl oW
  simp only [w_bind]
  congr 1; funext x e1; congr 1; funext l e2; congr 1; funext h e3
  cases o.get x e3 with
  | none => rfl
  | some d =>
    simp only [oM_some]
    cases dSl l h d <;> rfl
@[simp] theorem w_part_none {Q : Option Int → Env → Prop} : wE (partR none env) Q = Q none env := rfl
@[simp] theorem w_part_some (o : Opd) {Q : Option Int → Env → Prop} : wE (partR (some o) env) Q = oW o env fun a e1 => oM (o.get a e1) fun d => jM d fun i => Q (some i) e1 := by
  unfold oW
  simp only [partR, w_bind]
  congr 1; funext x e1
  cases o.get x e1 with
  | none => rfl
  | some d => cases d <;> rfl
@[simp] theorem w_mCall (f : PF) : wE (mCall f ml env) Q = wE (ml env) fun ds e1 => prM (f ds) fun d => Q d e1 := by
  unfold mCall
  rw [w_bind]
  congr 1; funext ds e1
  show wE (PR.at e1 (f ds)) Q = _
  cases f ds <;> rfl
@[simp] theorem w_mCallO (f : OF) : wE (mCallO f ml env) QA = wE (ml env) fun ds e1 => orM (f ds) fun d => QA d e1 := by
  unfold mCallO
  rw [w_bind]
  congr 1; funext ds e1
  simp only []
  cases f ds <;> rfl
@[simp] theorem w_mMake (cn : Str) (ns : List Str) (f : OF) : wE (mMake cn ns f ml env) Q = wE (ml env) fun ds e1 => orM (f ds) fun zs => Q (.obj cn ns zs) e1 := by
  unfold mMake
  rw [w_bind]
  congr 1; funext ds e1
  simp only []
  cases f ds <;> rfl
@[simp] theorem w_mCallI (f : IF) (i : Nat) : wE (mCallI f i ml env) Q = ((peek env i).isSome = true ∧ wE (ml env) fun ds e1 => slM e1[i]? fun xs mk => irM (f xs ds) fun z xs' => Q z (e1.set i (mk xs'))) := by
  unfold mCallI
  cases peek env i with
  | none => simp
  | some d =>
    simp only [Option.isNone_some, Bool.false_eq_true, if_false, Option.isSome_some, true_and]
    rw [w_bind]
    congr 1; funext ds e1
    simp only []
    cases e1[i]? with
    | none => rfl
    | some s =>
      cases s with
      | ol xs => simp only [slM_ol]; cases f xs ds <;> rfl
      | io xs => simp only [slM_io]; cases f xs ds <;> rfl
      | _ => rfl
/-! ### tests -/
@[simp] theorem w_mTst : wE (mTst m env) QT = wE (m env) fun d e1 => bM d fun b => QT b e1 := by
  unfold mTst
  rw [w_bind]
  congr 1; funext d e1
  cases d <;> rfl
@[simp] theorem w_mAnd : wE (mAnd ta tb env) QT = wE (ta env) fun c e1 => if c = true then wE (tb e1) QT else QT false e1 := by
  unfold mAnd
  rw [w_bind]
  congr 1; funext d e1
  cases d <;> rfl
@[simp] theorem w_mOr : wE (mOr ta tb env) QT = wE (ta env) fun c e1 => if c = true then QT true e1 else wE (tb e1) QT := by
  unfold mOr
  rw [w_bind]
  congr 1; funext d e1
  cases d <;> rfl
@[simp] theorem w_mNot : wE (mNot t env) QT = wE (t env) fun c e1 => QT (!c) e1 := by
  unfold mNot
  rw [w_bind]
  rfl
@[simp] theorem w_mYes : wE (mYes env) QT = QT true env := rfl
/-! ### statements -/
@[simp] theorem w_mSeq : wE (mSeq sa sb env) QS = wE (sa env) fun f e1 => flM f (wE (sb e1) QS) fun f => QS f e1 := by
  unfold mSeq
  cases sa env with
  | ok p =>
    obtain ⟨f, e⟩ := p
    cases f <;> rfl
  | _ => rfl
@[simp] theorem w_mAsg (i : Nat) : wE (mAsg i m env) QS = wE (m env) fun d e1 => QS .nx (e1.set i (.fz d)) := by unfold mAsg; rw [w_bind]; rfl
@[simp] theorem w_mAsgL (i : Nat) : wE (mAsgL i ml env) QS = wE (ml env) fun d e1 => QS .nx (e1.set i (.ol d)) := by unfold mAsgL; rw [w_bind]; rfl
@[simp] theorem w_mAsgD (t : Bool) (i : Nat) : wE (mAsgD t i env) QS = QS .nx (env.set i (.od t [] [])) := rfl
@[simp] theorem w_mAsgT (b : Bd) : wE (mAsgT b m env) QS = wE (m env) fun d e1 => oM (b d e1) fun e2 => QS .nx e2 := by
  unfold mAsgT
  rw [w_bind]
  congr 1; funext d e1
  simp only []
  cases b d e1 <;> rfl
@[simp] theorem w_mPass : wE (mPass env) QS = QS .nx env := rfl
@[simp] theorem w_mIf : wE (mIf t sa sb env) QS = wE (t env) fun c e1 => if c = true then wE (sa e1) QS else wE (sb e1) QS := by
  unfold mIf
  rw [w_bind]
  congr 1; funext d e1
  cases d <;> rfl
@[simp] theorem w_mRet : wE (mRet m env) QS = wE (m env) fun d e1 => QS (.rt d) e1 := by unfold mRet; rw [w_bind]; rfl
@[simp] theorem w_mRetL : wE (mRetL ml env) QS = wE (ml env) fun d e1 => QS (.ro d) e1 := by unfold mRetL; rw [w_bind]; rfl
@[simp] theorem w_mRetN : wE (mRetN env) QS = QS (.rt .non) env := rfl
@[simp] theorem w_mDrop : wE (mDrop m env) QS = wE (m env) fun _ e1 => QS .nx e1 := by unfold mDrop; rw [w_bind]; rfl
@[simp] theorem w_mBreak : wE (mBreak env) QS = QS .br env := rfl
@[simp] theorem w_mCont : wE (mCont env) QS = QS .ct env := rfl
@[simp] theorem w_mDead : wE (mDead env) QS = False := rfl
@[simp] theorem w_mKill (is : List Nat) : wE (mKill is sa env) QS = wE (sa env) fun f e1 => QS f (killAll is e1) := by unfold mKill; rw [w_bind]; rfl
@[simp] theorem killAll_nil : killAll [] env = env := rfl
@[simp] theorem killAll_cons (i : Nat) (is : List Nat) : killAll (i :: is) env = (killAll is env).set i .dead := rfl
@[simp] theorem w_mApp (i : Nat) : wE (mApp i m env) QS = (oM (peek env i) fun d => lM d fun _ => wE (m env) fun d e1 => slM e1[i]? fun ds mk => ds.length < lim ∧ QS .nx (e1.set i (mk (ds ++ [d])))) := by
  unfold mApp
  cases peek env i with
  | none => rfl
  | some d =>
    cases d with
    | lst ds =>
      simp only [oM_some, lM_lst]
      rw [w_bind]
      congr 1; funext d e1
      simp only []
      cases e1[i]? with
      | none => rfl
      | some s =>
        cases s with
        | ol xs => simp only [slM_ol]; by_cases h : xs.length < lim <;> simp [h]
        | io xs => simp only [slM_io]; by_cases h : xs.length < lim <;> simp [h]
        | _ => rfl
    | _ => rfl
@[simp] theorem w_mSetI (i : Nat) (k : Opd) : wE (mSetI i k m env) QS = wE (m env) fun d e1 => ((peek e1 i).isSome = true ∧ oW k e1 fun x e2 => oM (k.get x e2) fun dk => jM dk fun z => slM e2[i]? fun ds mk => oM (ixN ds.length z) fun j => QS .nx (e2.set i (mk (ds.set j d)))) := by
  unfold mSetI oW
  rw [w_bind]
  congr 1; funext d e1
  simp only []
  cases peek e1 i with
  | none => simp
  | some x =>
    simp only [Option.isNone_some, Bool.false_eq_true, if_false, Option.isSome_some, true_and]
    rw [w_bind]
    congr 1; funext x e2
    simp only []
    cases k.get x e2 with
    | none => rfl
    | some dk =>
      cases dk with
      | int z =>
        simp only [oM_some, jM_int]
        cases e2[i]? with
        | none => rfl
        | some s =>
          cases s with
          | ol xs => simp only [slM_ol]; cases ixN xs.length z <;> rfl
          | io xs => simp only [slM_io]; cases ixN xs.length z <;> rfl
          | _ => rfl
      | _ => rfl
@[simp] theorem w_mFor (it : MA) (b : Bd) : wE (mFor it b sa env) QS = wE (it env) fun ds e1 => wE (mForGo b sa ds e1) QS := by unfold mFor; rw [w_bind]
@[simp] theorem w_mItems : wE (mItems m env) QA = wE (m env) fun d e1 => sM d fun ds => QA ds e1 := by
  unfold mItems
  rw [w_bind]
  congr 1; funext d e1
  cases d <;> rfl
@[simp] theorem w_mRange1 : wE (mRange1 a env) QA = oW a env fun x e1 => oM (a.get x e1) fun d => jM d fun j => (-(lim : Int) ≤ j ∧ j ≤ (lim : Int)) ∧ QA (rngD 0 j.toNat) e1 := by
  unfold mRange1 oW
  rw [w_bind]
  congr 1; funext x e1
  simp only []
  cases a.get x e1 with
  | none => rfl
  | some d =>
    cases d with
    | int j =>
      simp only [oM_some, jM_int]
      by_cases hj : -(lim : Int) ≤ j ∧ j ≤ (lim : Int)
      · rw [if_pos hj]; simp [hj]
      · rw [if_neg hj]; simp [hj]
    | _ => rfl
@[simp] theorem w_mRange2 : wE (mRange2 a b env) QA = oW a env fun x e1 => oW b e1 fun y e2 => oM (a.get x e2) fun dx => oM (b.get y e2) fun dy => jM dx fun i => jM dy fun j => (-(lim : Int) ≤ i ∧ i ≤ (lim : Int) ∧ -(lim : Int) ≤ j ∧ j ≤ (lim : Int)) ∧ QA (rngD i (j - i).toNat) e2 := by
  unfold mRange2 oW
  simp only [runL, w_bind]
  congr 1; funext x e1; congr 1; funext y e2
  simp only [w_ok, getL]
  cases a.get x e2 with
  | none => rfl
  | some dx =>
    cases b.get y e2 with
    | none => rfl
    | some dy =>
      simp only [oM_some]
      cases dx with
      | int i =>
        cases dy with
        | int j =>
          simp only [jM_int]
          by_cases hj : -(lim : Int) ≤ i ∧ i ≤ (lim : Int) ∧ -(lim : Int) ≤ j ∧ j ≤ (lim : Int)
          · rw [if_pos hj]; simp [hj]
          · rw [if_neg hj]; simp [hj]
        | _ => rfl
      | _ => rfl
@[simp] theorem w_mComp (vs : List Nat) (it : MA) (b : Bd) : wE (mComp vs it b t m env) QA = wE (it env) fun ds e1 => ds.length ≤ lim ∧ wE (compGo vs b t m ds (killAll vs e1)) QA := by
  unfold mComp
  rw [w_bind]
  congr 1; funext ds e1
  by_cases h : ds.length ≤ lim <;> simp [h]
@[simp] theorem b_name (i : Nat) (d : D) : bName i d env = some (env.set i (.fz d)) := rfl
@[simp] theorem b_nil : bNil [] env = some env := rfl
@[simp] theorem b_cons (b : Bd) (bs : Bds) (d : D) (ds : List D) : bCons b bs (d :: ds) env = match b d env with | some e1 => bs ds e1 | none => none := rfl
@[simp] theorem b_tup (n : Nat) (bs : Bds) (ds : List D) : bTup n bs (.tup ds) env = if ds.length = n then bs ds env else none := rfl
end
/-! ### loops -/
theorem for_go {b : Bd} {body : MS} {Q : Fl → Env → Prop} (I : List D → Env → Prop) (step : ∀ d r env, I (d :: r) env → ∃ e1, b d env = some e1 ∧ wE (body e1) fun f e2 => match f with
    | .nx => I r e2
    | .ct => I r e2
    | .br => Q .nx e2
    | f => Q f e2) (fin : ∀ env, I [] env → Q .nx env) : ∀ {ds : List D} {env : Env}, I ds env → wE (mForGo b body ds env) Q
  | [], env, h => fin env h
  | d :: ds, env, h => by
    obtain ⟨e1, h1, h2⟩ := step d ds env h
    unfold mForGo
    simp only [h1]
    obtain ⟨f, e2, h3, h4⟩ := wE_eq h2
    rw [h3]
    cases f with
    | nx => exact for_go I step fin h4
    | ct => exact for_go I step fin h4
    | br => exact h4
    | rt d => exact h4
    | ro d => exact h4
theorem comp_go {vs : List Nat} {b : Bd} {t : MT} {m : ME} (I : List D → List D → Env → Prop) (step : ∀ d r acc env, I (d :: r) acc env → ∃ e1, b d env = some e1 ∧ wE (t e1) fun c e2 => if c = true then wE (m e2) fun y e3 => I r (acc ++ [y]) (killAll vs e3) else I r acc (killAll vs e2)) :
    ∀ {ds acc : List D} {env : Env}, I ds acc env → wE (compGo vs b t m ds env) fun r e => I [] (acc ++ r) e
  | [], acc, env, h => by
    show I [] (acc ++ []) env
    rw [List.append_nil]; exact h
  | d :: ds, acc, env, h => by
    obtain ⟨e1, h1, h2⟩ := step d ds acc env h
    unfold compGo
    simp only [h1]
    obtain ⟨c, e2, h3, h4⟩ := wE_eq h2
    rw [h3]
    cases c with
    | false =>
      simp only [noX_ok, Rs.bind_ok, Bool.false_eq_true, if_false] at h4 ⊢
      exact comp_go I step h4
    | true =>
      simp only [noX_ok, Rs.bind_ok, if_true] at h4 ⊢
      obtain ⟨y, e3, h5, h6⟩ := wE_eq h4
      rw [h5]
      simp only [noX_ok, Rs.bind_ok]
      rw [w_bind]
      refine (comp_go I step h6).imp fun r e hr => ?_
      show I [] (acc ++ (y :: r)) e
      simpa using hr
theorem comp_goQ {vs : List Nat} {b : Bd} {t : MT} {m : ME} {Q : List D → Env → Prop} (I : List D → List D → Env → Prop) (step : ∀ d r acc env, I (d :: r) acc env → ∃ e1, b d env = some e1 ∧ wE (t e1) fun c e2 => if c = true then wE (m e2) fun y e3 => I r (acc ++ [y]) (killAll vs e3) else I r acc (killAll vs e2))
    (fin : ∀ acc env, I [] acc env → Q acc env) {ds : List D} {env : Env} (h : I ds [] env) : wE (compGo vs b t m ds env) Q := (comp_go I step h).imp fun r e hr => fin r e (by simpa using hr)
/-- a comprehension that changes nothing -/
theorem comp_pure {vs : List Nat} {b : Bd} {t : MT} {m : ME} {Q : List D → Env → Prop} {env : Env} (p : D → Bool) (f : D → D) {ds : List D} (h : ∀ d ∈ ds, ∃ e1, b d env = some e1 ∧ wE (t e1) fun c e2 => c = p d ∧ if p d = true then wE (m e2) fun y e3 => y = f d ∧ killAll vs e3 = env else killAll vs e2 = env)
    (q : Q ((ds.filter p).map f) env) : wE (compGo vs b t m ds env) Q := by
  have key : ∀ (r acc : List D), (∀ d ∈ r, d ∈ ds) → wE (compGo vs b t m r env) fun z e => z = (r.filter p).map f ∧ e = env := by
    intro r
    induction r with
    | nil => intro acc _; exact ⟨rfl, rfl⟩
    | cons d r ih =>
      intro acc hm
      obtain ⟨e1, h1, h2⟩ := h d (hm d List.mem_cons_self)
      unfold compGo
      simp only [h1]
      obtain ⟨c, e2, h3, rfl, h4⟩ := wE_eq h2
      rw [h3]
      by_cases hp : p d = true
      · rw [if_pos hp] at h4
        simp only [noX_ok, Rs.bind_ok, hp, if_true]
        obtain ⟨y, e3, h5, h6, h7⟩ := wE_eq h4
        rw [h5]
        simp only [noX_ok, Rs.bind_ok]
        rw [w_bind, h7]
        refine (ih [] fun x hx => hm x (List.mem_cons_of_mem _ hx)).imp fun r' e hr => ?_
        obtain ⟨rfl, rfl⟩ := hr
        exact ⟨by rw [List.filter_cons_of_pos hp, List.map_cons, h6], rfl⟩
      · rw [if_neg hp] at h4
        simp only [noX_ok, Rs.bind_ok, hp, Bool.false_eq_true, if_false]
        rw [h4]
        refine (ih [] fun x hx => hm x (List.mem_cons_of_mem _ hx)).imp fun r' e hr => ?_
        obtain ⟨rfl, rfl⟩ := hr
        exact ⟨by rw [List.filter_cons_of_neg hp], rfl⟩
  refine (key ds [] fun _ h => h).imp fun z e hz => ?_
  obtain ⟨rfl, rfl⟩ := hz
  exact q
/-- a comprehension that changes nothing, over a list of things of a type -/
theorem comp_map {α : Type} {vs : List Nat} {b : Bd} {t : MT} {m : ME} {Q : List D → Env → Prop} {env : Env} {g : α → D} (p : α → Bool) (f : α → D) : ∀ {as : List α}, (∀ a ∈ as, ∃ e1, b (g a) env = some e1 ∧ wE (t e1) fun c e2 => c = p a ∧ if p a = true then wE (m e2) fun y e3 => y = f a ∧ killAll vs e3 = env else killAll vs e2 = env) →
    Q ((as.filter p).map f) env → wE (compGo vs b t m (as.map g) env) Q := by
  intro as h q
  have key : ∀ (r : List α), (∀ d ∈ r, d ∈ as) → wE (compGo vs b t m (r.map g) env) fun z e => z = (r.filter p).map f ∧ e = env := by
    intro r
    induction r with
    | nil => intro _; exact ⟨rfl, rfl⟩
    | cons d r ih =>
      intro hm
      obtain ⟨e1, h1, h2⟩ := h d (hm d List.mem_cons_self)
      rw [List.map_cons]
      unfold compGo
      simp only [h1]
      obtain ⟨c, e2, h3, rfl, h4⟩ := wE_eq h2
      rw [h3]
      by_cases hp : p d = true
      · rw [if_pos hp] at h4
        simp only [noX_ok, Rs.bind_ok, hp, if_true]
        obtain ⟨y, e3, h5, h6, h7⟩ := wE_eq h4
        rw [h5]
        simp only [noX_ok, Rs.bind_ok]
        rw [w_bind, h7]
        refine (ih fun x hx => hm x (List.mem_cons_of_mem _ hx)).imp fun r' e hr => ?_
        obtain ⟨rfl, rfl⟩ := hr
        exact ⟨by rw [List.filter_cons_of_pos hp, List.map_cons, h6], rfl⟩
      · rw [if_neg hp] at h4
        simp only [noX_ok, Rs.bind_ok, hp, Bool.false_eq_true, if_false]
        rw [h4]
        refine (ih fun x hx => hm x (List.mem_cons_of_mem _ hx)).imp fun r' e hr => ?_
        obtain ⟨rfl, rfl⟩ := hr
        exact ⟨by rw [List.filter_cons_of_neg hp], rfl⟩
  refine (key as fun _ h => h).imp fun z e hz => ?_
  obtain ⟨rfl, rfl⟩ := hz
  exact q
theorem comp_all {α : Type} {vs : List Nat} {b : Bd} {m : ME} {Q : List D → Env → Prop} {env : Env} {g : α → D} (f : α → D) {as : List α} (h : ∀ a ∈ as, ∃ e1, b (g a) env = some e1 ∧ wE (m e1) fun y e3 => y = f a ∧ killAll vs e3 = env)
    (q : Q (as.map f) env) : wE (compGo vs b mYes m (as.map g) env) Q :=
  comp_map (fun _ => true) f (fun a ha => by
    obtain ⟨e1, h1, h2⟩ := h a ha
    exact ⟨e1, h1, rfl, by rw [if_pos rfl]; exact h2⟩) (by rw [List.filter_eq_self.mpr fun _ _ => rfl]; exact q)
theorem rngD_map (lo : Int) (n : Nat) : rngD lo n = (List.range n).map fun i => .int (lo + (i : Int)) := rfl
theorem rngD_cons (lo : Int) (n : Nat) : rngD lo (n + 1) = .int lo :: rngD (lo + 1) n := by
  unfold rngD
  rw [List.range_succ_eq_map, List.map_cons, List.map_map]
  congr 1
  · simp
  · refine List.map_congr_left fun k _ => ?_
    simp only [Function.comp]
    congr 1
    omega
theorem for_rng {b : Bd} {body : MS} {Q : Fl → Env → Prop} {lo : Int} (I : Nat → Env → Prop) {n : Nat} (step : ∀ k env, k < n → I k env → ∃ e1, b (.int (lo + (k : Int))) env = some e1 ∧ wE (body e1) fun f e2 => match f with
    | .nx => I (k + 1) e2
    | .ct => I (k + 1) e2
    | .br => Q .nx e2
    | f => Q f e2) (fin : ∀ env, I n env → Q .nx env) {env : Env} (h : I 0 env) : wE (mForGo b body (rngD lo n) env) Q := by
  refine for_go (fun rest e => ∃ k, k ≤ n ∧ rest = rngD (lo + (k : Int)) (n - k) ∧ I k e) (fun d r e ⟨k, hk, hr, hI⟩ => ?_) (fun e ⟨k, hk, hr, hI⟩ => ?_) ⟨0, Nat.zero_le _, by simp, h⟩
  · have hlt : k < n := by
      rcases Nat.lt_or_ge k n with q | q
      · exact q
      · rw [Nat.sub_eq_zero_of_le q] at hr; cases hr
    rw [show n - k = (n - (k + 1)) + 1 by omega, rngD_cons] at hr
    injection hr with h1 h2
    subst h1
    obtain ⟨e1, g1, g2⟩ := step k e hlt hI
    refine ⟨e1, g1, g2.imp fun f e2 hf => ?_⟩
    have next : I (k + 1) e2 → ∃ k', k' ≤ n ∧ r = rngD (lo + (k' : Int)) (n - k') ∧ I k' e2 := fun hi => ⟨k + 1, hlt, by rw [h2]; congr 1; push_cast; omega, hi⟩
    cases f with
    | nx => exact next hf
    | ct => exact next hf
    | br => exact hf
    | rt d => exact hf
    | ro d => exact hf
  · have : k = n := by
      rcases Nat.lt_or_ge k n with q | q
      · rw [show n - k = (n - (k + 1)) + 1 by omega, rngD_cons] at hr; cases hr
      · omega
    subst this
    exact fin e hI
theorem comp_rng {vs : List Nat} {b : Bd} {t : MT} {m : ME} {Q : List D → Env → Prop} {lo : Int} {n : Nat} (I : Nat → List D → Env → Prop)
    (step : ∀ k acc env, k < n → I k acc env → ∃ e1, b (.int (lo + (k : Int))) env = some e1 ∧ wE (t e1) fun c e2 => if c = true then wE (m e2) fun y e3 => I (k + 1) (acc ++ [y]) (killAll vs e3) else I (k + 1) acc (killAll vs e2))
    (fin : ∀ acc env, I n acc env → Q acc env) {env : Env} (h : I 0 [] env) : wE (compGo vs b t m (rngD lo n) env) Q := by
  refine comp_goQ (fun rest acc e => ∃ k, k ≤ n ∧ rest = rngD (lo + (k : Int)) (n - k) ∧ I k acc e) (fun d r acc e ⟨k, hk, hr, hI⟩ => ?_) (fun acc e ⟨k, hk, hr, hI⟩ => ?_) ⟨0, Nat.zero_le _, by simp, h⟩
  · have hlt : k < n := by
      rcases Nat.lt_or_ge k n with q | q
      · exact q
      · rw [Nat.sub_eq_zero_of_le q] at hr; cases hr
    rw [show n - k = (n - (k + 1)) + 1 by omega, rngD_cons] at hr
    injection hr with h1 h2
    subst h1
    obtain ⟨e1, g1, g2⟩ := step k acc e hlt hI
    have next : ∀ {ac e2}, I (k + 1) ac e2 → ∃ k', k' ≤ n ∧ r = rngD (lo + (k' : Int)) (n - k') ∧ I k' ac e2 := fun hi => ⟨k + 1, hlt, by rw [h2]; congr 1; push_cast; omega, hi⟩
    refine ⟨e1, g1, g2.imp fun c e2 hc => ?_⟩
    by_cases h : c = true
    · rw [if_pos h] at hc ⊢
      exact hc.imp fun y e3 hy => next hy
    · rw [if_neg h] at hc ⊢
      exact next hc
  · have : k = n := by
      rcases Nat.lt_or_ge k n with q | q
      · rw [show n - k = (n - (k + 1)) + 1 by omega, rngD_cons] at hr; cases hr
      · omega
    subst this
    exact fin acc e hI
/-! ### defs -/
theorem runP_ok {n N : Nat} {m : MS} {ds : List D} {d : D} (hl : ds.length = n) (h : wE (m (env0 N ds)) fun f _ => f = .rt d) : runP n N m ds = .ok d := by
  unfold runP
  rw [if_neg (by simp [hl])]
  obtain ⟨f, e, h1, rfl⟩ := wE_eq h
  rw [h1]
theorem runP_non {n N : Nat} {m : MS} {ds : List D} (hl : ds.length = n) (h : wE (m (env0 N ds)) fun f _ => f = .nx) : runP n N m ds = .ok .non := by
  unfold runP
  rw [if_neg (by simp [hl])]
  obtain ⟨f, e, h1, rfl⟩ := wE_eq h
  rw [h1]
/-- the result is one of which P holds -/
theorem runP_ex {n N : Nat} {m : MS} {ds : List D} {P : D → Prop} (hl : ds.length = n) (h : wE (m (env0 N ds)) fun f _ => ∃ d, f = .rt d ∧ P d) : ∃ d, runP n N m ds = .ok d ∧ P d := by
  unfold runP
  rw [if_neg (by simp [hl])]
  obtain ⟨f, e, h1, d, rfl, hp⟩ := wE_eq h
  exact ⟨d, by rw [h1], hp⟩
theorem runO_ok {n N : Nat} {m : MS} {ds zs : List D} (hl : ds.length = n) (h : wE (m (env0 N ds)) fun f _ => f = .ro zs) : runO n N m ds = .ok zs := by
  unfold runO
  rw [if_neg (by simp [hl])]
  obtain ⟨f, e, h1, rfl⟩ := wE_eq h
  rw [h1]
theorem runI_ex {n N : Nat} {m : MS} {xs ds : List D} {P : D → List D → Prop} (hl : ds.length + 1 = n) (h : wE (m (envI N xs ds)) fun f e => ∃ d xs' r, f = .rt d ∧ e = .io xs' :: r ∧ P d xs') : ∃ d xs', runI n N m xs ds = .ok d xs' ∧ P d xs' := by
  unfold runI
  rw [if_neg (by simp [hl])]
  obtain ⟨f, e, h1, d, xs', r, rfl, rfl, hp⟩ := wE_eq h
  exact ⟨d, xs', by rw [h1], hp⟩
end Mi

set_option Elab.async false
set_option linter.all false
set_option maxRecDepth 100000
namespace Mi
open PySem PySem.Spec PyProof.Rows L2

/-! ## the order of data -/
abbrev ltD (x y : D) : Bool := PySem.W.dataLt x.py y.py
abbrev alD (x y : D) : Bool := PySem.W.alike x.py y.py
theorem ltD_irrefl (x : D) : ltD x x = false := lex_irrefl _
theorem ltD_trans {x y z : D} (h : ltD x y = true) (g : ltD y z = true) : ltD x z = true := lex_trans _ _ _ h g
theorem ltD_asymm {x y : D} (h : ltD x y = true) : ltD y x = false := by
  cases e : ltD y x with
  | false => rfl
  | true => have := ltD_trans h e; rw [ltD_irrefl] at this; cases this
theorem leD_trans {x y z : D} (h : ltD y x = false) (g : ltD z y = false) : ltD z x = false := by
  cases e : ltD z x with
  | false => rfl
  | true =>
    rcases lex_negTrans _ (PySem.W.keyToks y.py) _ e with q | q
    · exact absurd q (by rw [show lexLt _ _ _ = ltD z y from rfl, g]; simp)
    · exact absurd q (by rw [show lexLt _ _ _ = ltD y x from rfl, h]; simp)
/-- trees of ints -/
def itN : Nat → D → Bool
  | _, .int _ => true
  | n + 1, .tup ds => ds.all (itN n)
  | _, _ => false
theorem itN_tup {n : Nat} {ds : List D} : itN (n + 1) (.tup ds) = ds.all (itN n) := rfl
theorem pyL_len : ∀ ds : List D, (D.pyL ds).length = ds.length
  | [] => rfl
  | d :: ds => by simp [D.pyL, pyL_len ds]
theorem eqv_int (a b : Int) : PyData.eqv (.int a) (.int b) = decide (a = b) := by
  simp only [PyData.eqv]
  by_cases h : a = b <;> simp [h]
theorem eqv_it : ∀ (n : Nat) (x y : D), itN n x = true → itN n y = true → (PyData.eqv x.py y.py = true ↔ x = y) := by
  intro n
  have base : ∀ (a : Int) (y : D), (∀ ds, y ≠ .tup ds) → itN n y = true → (PyData.eqv (D.int a).py y.py = true ↔ D.int a = y) := fun a y hy h => by
    cases y with
    | int b => simp [D.py, eqv_int]
    | tup ds => exact absurd rfl (hy ds)
    | _ => cases n <;> simp [itN] at h
  induction n with
  | zero =>
    intro x y hx hy
    cases x with
    | int a => exact base a y (fun ds e => by subst e; simp [itN] at hy) hy
    | _ => simp [itN] at hx
  | succ n ih =>
    intro x y hx hy
    cases x with
    | int a =>
      cases y with
      | tup ds => simp [D.py, PyData.eqv]
      | int b => simp [D.py, eqv_int]
      | _ => simp [itN] at hy
    | tup xs =>
      cases y with
      | tup ys =>
        have ih' := ih (fun a y hy h => by
          cases y with
          | int b => simp [D.py, eqv_int]
          | tup ds => exact absurd rfl (hy ds)
          | _ => cases n <;> simp [itN] at h)
        have all : ∀ (xs ys : List D), xs.all (itN n) = true → ys.all (itN n) = true → (PyData.eqvAll (D.pyL xs) (D.pyL ys) = true ↔ xs = ys) := by
          intro xs
          induction xs with
          | nil =>
            intro ys _ _
            cases ys <;> simp [D.pyL, PyData.eqvAll]
          | cons x xs ihx =>
            intro ys hx hy
            cases ys with
            | nil => simp [D.pyL, PyData.eqvAll]
            | cons y ys =>
              rw [List.all_cons, Bool.and_eq_true] at hx hy
              simp only [D.pyL, PyData.eqvAll, Bool.and_eq_true, ih' x y hx.1 hy.1, ihx ys hx.2 hy.2, List.cons.injEq]
        simp only [D.py, PyData.eqv, D.tup.injEq]
        exact all xs ys hx hy
      | int b => simp [D.py, PyData.eqv]
      | _ => simp [itN] at hy
    | _ => simp [itN] at hx
theorem eqD_it {n : Nat} {x y : D} (hx : itN n x = true) (hy : itN n y = true) : eqD x y = true ↔ x = y := eqv_it n x y hx hy
theorem itN_lvl : ∀ (n : Nat) (d : D), itN n d = true → lvl n d = true := by
  intro n
  induction n with
  | zero => intro d h; cases d <;> simp [itN] at h; rfl
  | succ n ih =>
    intro d h
    cases d with
    | int a => rfl
    | tup ds =>
      rw [itN_tup] at h
      show ds.all (lvl n) = true
      rw [List.all_eq_true] at h ⊢
      exact fun x hx => ih x (h x hx)
    | _ => simp [itN] at h
theorem lvl_mono : ∀ (n m : Nat) (d : D), n ≤ m → lvl n d = true → lvl m d = true := by
  intro n
  induction n with
  | zero => intro m d hm h; cases d <;> cases m <;> simp [lvl] at h ⊢ <;> exact h
  | succ n ih =>
    intro m d hm h
    obtain ⟨m, rfl⟩ : ∃ k, m = k + 1 := ⟨m - 1, by omega⟩
    cases d with
    | tup ds =>
      show ds.all (lvl m) = true
      have h : ds.all (lvl n) = true := h
      rw [List.all_eq_true] at h ⊢
      exact fun x hx => ih m x (by omega) (h x hx)
    | lst ds =>
      show ds.all (lvl m) = true
      have h : ds.all (lvl n) = true := h
      rw [List.all_eq_true] at h ⊢
      exact fun x hx => ih m x (by omega) (h x hx)
    | _ => simpa [lvl] using h
theorem ltD_total {n : Nat} {x y : D} (hx : itN n x = true) (hy : itN n y = true) (ha : alD x y = true) (h1 : ltD x y = false) (h2 : ltD y x = false) : x = y := by
  have ht : PySem.W.keyToks x.py = PySem.W.keyToks y.py := lex_total _ _ h1 h2
  cases e : PyData.eqv x.py y.py with
  | true => exact (eqv_it n x y hx hy).mp e
  | false =>
    have q := (PySem.W.toks_eqv x.py y.py ha).2 e [] [.inl 0]
    rw [ht, PySem.W.lex_pre] at q
    rw [lex_irrefl] at q
    cases q
/-- what the comparisons say of trees of ints -/
theorem cmp_it (ii : Int → Int → Bool) (nn : Nat → Nat → Bool) (P : D → D → Bool) (hi : ∀ a b : Int, a ≠ b → ii a b = P (.int a) (.int b)) (hn : ∀ xs ys : List D, D.tup xs ≠ D.tup ys → True)
    (hP : ∀ (n : Nat) (x y : D) (xs ys : List D), itN n x = true → itN n y = true → alD x y = true → eqD x y = false → P (.tup (x :: xs)) (.tup (y :: ys)) = P x y) (hQ : ∀ (n : Nat) (x y : D) (xs ys : List D), itN n x = true → itN n y = true → alD x y = true → eqD x y = true → P (.tup (x :: xs)) (.tup (y :: ys)) = P (.tup xs) (.tup ys))
    (h0 : ∀ (x : D) (xs : List D) (m n : Nat), m < n → nn m n = P (.tup []) (.tup (x :: xs))) (h1 : ∀ (x : D) (xs : List D) (m n : Nat), n < m → nn m n = P (.tup (x :: xs)) (.tup [])) (h2 : ∀ n : Nat, nn n n = P (.tup []) (.tup [])) (h3 : ∀ a : Int, ii a a = P (.int a) (.int a)) :
    ∀ (n : Nat) (x y : D), itN n x = true → itN n y = true → alD x y = true → cmpN ii nn n x y = some (P x y) := by
  intro n
  have hint : ∀ a b : Int, ii a b = P (.int a) (.int b) := fun a b => by
    by_cases h : a = b
    · subst h; exact h3 a
    · exact hi a b h
  induction n with
  | zero =>
    intro x y hx hy ha
    cases x <;> simp [itN] at hx
    cases y <;> simp [itN] at hy
    rw [← hint]; rfl
  | succ n ih =>
    intro x y hx hy ha
    cases x with
    | int a =>
      cases y with
      | int b => rw [← hint]; rfl
      | tup ys => simp [alD, D.py, PySem.W.alike] at ha
      | _ => simp [itN] at hy
    | tup xs =>
      cases y with
      | int b => simp [alD, D.py, PySem.W.alike] at ha
      | tup ys =>
        have ha : PySem.W.alikeAll (D.pyL xs) (D.pyL ys) = true := by simpa [alD, D.py, PySem.W.alike] using ha
        have hx : xs.all (itN n) = true := hx
        have hy : ys.all (itN n) = true := hy
        have hz : ∀ (xs ys : List D), PySem.W.alikeAll (D.pyL xs) (D.pyL ys) = true → xs.all (itN n) = true → ys.all (itN n) = true → ((xs.zip ys).all fun p => eqD p.1 p.2 || (cmpN ii nn n p.1 p.2).isSome) = true := by
          intro xs
          induction xs with
          | nil => intro ys _ _ _; rfl
          | cons x xs ihx =>
            intro ys ha hx hy
            cases ys with
            | nil => rfl
            | cons y ys =>
              rw [List.all_cons, Bool.and_eq_true] at hx hy
              obtain ⟨a1, a2⟩ := PySem.W.alike_all_cons ha
              rw [List.zip_cons_cons, List.all_cons, ihx ys a2 hx.2 hy.2, ih x y hx.1 hy.1 a1]
              simp
        have hl : ∀ (xs ys : List D) (k m : Nat), (k : Int) - m = (xs.length : Int) - ys.length → PySem.W.alikeAll (D.pyL xs) (D.pyL ys) = true → xs.all (itN n) = true → ys.all (itN n) = true → cmpLs nn (cmpN ii nn n) k m xs ys = P (.tup xs) (.tup ys) := by
          intro xs
          induction xs with
          | nil =>
            intro ys k m hk _ _ _
            cases ys with
            | nil =>
              have : k = m := by simp at hk; omega
              subst this
              show nn k k = _
              exact h2 k
            | cons y ys => exact h0 y ys k m (by simp at hk; omega)
          | cons x xs ihx =>
            intro ys k m hk ha hx hy
            cases ys with
            | nil => exact h1 x xs k m (by simp at hk; omega)
            | cons y ys =>
              rw [List.all_cons, Bool.and_eq_true] at hx hy
              obtain ⟨a1, a2⟩ := PySem.W.alike_all_cons ha
              unfold cmpLs
              cases e : eqD x y with
              | true => rw [if_pos rfl, hQ n x y xs ys hx.1 hy.1 a1 e]; exact ihx ys k m (by simp at hk; omega) a2 hx.2 hy.2
              | false => rw [if_neg Bool.false_ne_true, ih x y hx.1 hy.1 a1, hP n x y xs ys hx.1 hy.1 a1 e]; rfl
        unfold cmpN
        rw [if_pos (hz xs ys ha hx hy), hl xs ys _ _ rfl ha hx hy]
      | _ => simp [itN] at hy
    | _ => simp [itN] at hx
theorem lt_tup (x y : D) (xs ys : List D) (h : alD x y = true) : ltD (.tup (x :: xs)) (.tup (y :: ys)) = if eqD x y = true then ltD (.tup xs) (.tup ys) else ltD x y := PySem.W.dataLt_cons h _ _
theorem lt_nil (x : D) (xs : List D) : ltD (.tup []) (.tup (x :: xs)) = true := by
  show PySem.W.dataLt (.tuple []) (.tuple (x.py :: D.pyL xs)) = true
  rw [PySem.W.dataLt_tuple, PySem.W.keyToksAll, PySem.W.keyToksAll, lex_diff (O := itemOrd) (by simp)]
  rfl
theorem lt_nil2 (x : D) (xs : List D) : ltD (.tup (x :: xs)) (.tup []) = false := by
  show PySem.W.dataLt (.tuple (x.py :: D.pyL xs)) (.tuple []) = false
  rw [PySem.W.dataLt_tuple, PySem.W.keyToksAll, PySem.W.keyToksAll, lex_diff (O := itemOrd) (by simp)]
  rfl
theorem lt_int (a b : Int) : ltD (.int a) (.int b) = decide (a < b) := PySem.W.dataLt_int a b
theorem eqv_symm_it {n : Nat} {x y : D} (hx : itN n x = true) (hy : itN n y = true) : eqD y x = eqD x y := by
  have a := eqD_it hx hy
  have b := eqD_it hy hx
  cases e : eqD x y with
  | true => exact b.mpr (a.mp e).symm
  | false =>
    cases e2 : eqD y x with
    | false => rfl
    | true => have := a.mpr (b.mp e2).symm; rw [e] at this; cases this
mutual
theorem alike_symm : ∀ x y : PyData, PySem.W.alike x y = PySem.W.alike y x
  | .none, y => by cases y <;> rfl
  | .bool _, y => by cases y <;> rfl
  | .int _, y => by cases y <;> rfl
  | .str _, y => by cases y <;> rfl
  | .list xs, y => by
    cases y with
    | list ys => exact alikeAll_symm xs ys
    | _ => rfl
  | .tuple xs, y => by
    cases y with
    | tuple ys => exact alikeAll_symm xs ys
    | _ => rfl
  | .dict _, y => by cases y <;> rfl
theorem alikeAll_symm : ∀ xs ys : List PyData, PySem.W.alikeAll xs ys = PySem.W.alikeAll ys xs
  | [], [] => rfl
  | [], _ :: _ => rfl
  | _ :: _, [] => rfl
  | x :: xs, y :: ys => by
    show (PySem.W.alike x y && PySem.W.alikeAll xs ys) = (PySem.W.alike y x && PySem.W.alikeAll ys xs)
    rw [alike_symm x y, alikeAll_symm xs ys]
end
theorem alD_symm (x y : D) : alD x y = alD y x := alike_symm _ _
theorem cmp_lt {n : Nat} {x y : D} (hx : itN n x = true) (hy : itN n y = true) (ha : alD x y = true) : cmpN (fun a b => decide (a < b)) (fun m n => decide (m < n)) n x y = some (ltD x y) :=
  cmp_it _ _ ltD (fun a b _ => (lt_int a b).symm) (fun _ _ _ => trivial) (fun n x y xs ys _ _ h e => by rw [lt_tup x y xs ys h, e, if_neg Bool.false_ne_true]) (fun n x y xs ys _ _ h e => by rw [lt_tup x y xs ys h, e, if_pos rfl])
    (fun x xs m n h => by rw [lt_nil]; simp [h]) (fun x xs m n h => by rw [lt_nil2]; simp; omega) (fun n => by rw [ltD_irrefl]; simp) (fun a => by rw [lt_int]) n x y hx hy ha
theorem cmp_ge {n : Nat} {x y : D} (hx : itN n x = true) (hy : itN n y = true) (ha : alD x y = true) : cmpN (fun a b => decide (b ≤ a)) (fun m n => decide (m ≥ n)) n x y = some (!ltD x y) :=
  cmp_it _ _ (fun x y => !ltD x y) (fun a b _ => by rw [lt_int]; by_cases h : a < b <;> simp [h] <;> omega) (fun _ _ _ => trivial) (fun n x y xs ys _ _ h e => by rw [lt_tup x y xs ys h, e, if_neg Bool.false_ne_true]) (fun n x y xs ys _ _ h e => by rw [lt_tup x y xs ys h, e, if_pos rfl])
    (fun x xs m n h => by rw [lt_nil]; simp; omega) (fun x xs m n h => by rw [lt_nil2]; simp; omega) (fun n => by rw [ltD_irrefl]; simp) (fun a => by rw [lt_int]; simp) n x y hx hy ha
theorem cmp_gt {n : Nat} {x y : D} (hx : itN n x = true) (hy : itN n y = true) (ha : alD x y = true) : cmpN (fun a b => decide (b < a)) (fun m n => decide (m > n)) n x y = some (ltD y x) :=
  cmp_it _ _ (fun x y => ltD y x) (fun a b _ => (lt_int b a).symm) (fun _ _ _ => trivial) (fun n x y xs ys h1 h2 h e => by rw [lt_tup y x ys xs (by rw [alD_symm]; exact h), eqv_symm_it h1 h2, e, if_neg Bool.false_ne_true]) (fun n x y xs ys h1 h2 h e => by rw [lt_tup y x ys xs (by rw [alD_symm]; exact h), eqv_symm_it h1 h2, e, if_pos rfl])
    (fun x xs m n h => by rw [lt_nil2]; simp; omega) (fun x xs m n h => by rw [lt_nil]; simp [h]) (fun n => by rw [ltD_irrefl]; simp) (fun a => by rw [lt_int]) n x y hx hy ha
theorem cmp_le {n : Nat} {x y : D} (hx : itN n x = true) (hy : itN n y = true) (ha : alD x y = true) : cmpN (fun a b => decide (a ≤ b)) (fun m n => decide (m ≤ n)) n x y = some (!ltD y x) :=
  cmp_it _ _ (fun x y => !ltD y x) (fun a b _ => by rw [lt_int]; by_cases h : b < a <;> simp [h] <;> omega) (fun _ _ _ => trivial) (fun n x y xs ys h1 h2 h e => by rw [lt_tup y x ys xs (by rw [alD_symm]; exact h), eqv_symm_it h1 h2, e, if_neg Bool.false_ne_true]) (fun n x y xs ys h1 h2 h e => by rw [lt_tup y x ys xs (by rw [alD_symm]; exact h), eqv_symm_it h1 h2, e, if_pos rfl])
    (fun x xs m n h => by rw [lt_nil2]; simp; omega) (fun x xs m n h => by rw [lt_nil]; simp; omega) (fun n => by rw [ltD_irrefl]; simp) (fun a => by rw [lt_int]; simp) n x y hx hy ha
theorem itN_mono : ∀ (n m : Nat) (d : D), n ≤ m → itN n d = true → itN m d = true := by
  intro n
  induction n with
  | zero => intro m d hm h; cases d <;> cases m <;> simp [itN] at h ⊢
  | succ n ih =>
    intro m d hm h
    obtain ⟨m, rfl⟩ : ∃ k, m = k + 1 := ⟨m - 1, by omega⟩
    cases d with
    | int a => rfl
    | tup ds =>
      rw [itN_tup] at h ⊢
      rw [List.all_eq_true] at h ⊢
      exact fun x hx => ih m x (by omega) (h x hx)
    | _ => simp [itN] at h
section
variable {n : Nat} {x y : D} (hn : n ≤ 40) (hx : itN n x = true) (hy : itN n y = true) (ha : alD x y = true)
include hn hx hy ha
theorem l40 : lvl 40 x = true ∧ lvl 40 y = true := ⟨itN_lvl 40 x (itN_mono n 40 x hn hx), itN_lvl 40 y (itN_mono n 40 y hn hy)⟩
theorem dLt_it : dLt x y = some (.bl (ltD x y)) := by
  unfold dLt dOrd
  rw [if_pos (l40 hn hx hy ha), cmp_lt (itN_mono n 40 x hn hx) (itN_mono n 40 y hn hy) ha]; rfl
theorem dGe_it : dGe x y = some (.bl (!ltD x y)) := by
  unfold dGe dOrd
  rw [if_pos (l40 hn hx hy ha), cmp_ge (itN_mono n 40 x hn hx) (itN_mono n 40 y hn hy) ha]; rfl
theorem dGt_it : dGt x y = some (.bl (ltD y x)) := by
  unfold dGt dOrd
  rw [if_pos (l40 hn hx hy ha), cmp_gt (itN_mono n 40 x hn hx) (itN_mono n 40 y hn hy) ha]; rfl
theorem dLe_it : dLe x y = some (.bl (!ltD y x)) := by
  unfold dLe dOrd
  rw [if_pos (l40 hn hx hy ha), cmp_le (itN_mono n 40 x hn hx) (itN_mono n 40 y hn hy) ha]; rfl
end
@[simp] theorem dLt_int (a b : Int) : dLt (.int a) (.int b) = some (.bl (decide (a < b))) := rfl
@[simp] theorem dLe_int (a b : Int) : dLe (.int a) (.int b) = some (.bl (decide (a ≤ b))) := rfl
@[simp] theorem dGt_int (a b : Int) : dGt (.int a) (.int b) = some (.bl (decide (b < a))) := rfl
@[simp] theorem dGe_int (a b : Int) : dGe (.int a) (.int b) = some (.bl (decide (b ≤ a))) := rfl
theorem dEq_it {n : Nat} {x y : D} (hn : n ≤ 60) (hx : itN n x = true) (hy : itN n y = true) : dEq x y = some (.bl (eqD x y)) := by
  unfold dEq
  rw [if_pos ⟨lvl_mono n 60 x hn (itN_lvl n x hx), lvl_mono n 60 y hn (itN_lvl n y hy)⟩]
theorem dNe_it {n : Nat} {x y : D} (hn : n ≤ 60) (hx : itN n x = true) (hy : itN n y = true) : dNe x y = some (.bl (!eqD x y)) := by
  unfold dNe
  rw [if_pos ⟨lvl_mono n 60 x hn (itN_lvl n x hx), lvl_mono n 60 y hn (itN_lvl n y hy)⟩]
theorem eqD_refl_it {n : Nat} {x : D} (hx : itN n x = true) : eqD x x = true := (eqD_it hx hx).mpr rfl
@[simp] theorem dEq_int (a b : Int) : dEq (.int a) (.int b) = some (.bl (decide (a = b))) := by
  rw [dEq_it (n := 0) (by decide) rfl rfl]
  show some (D.bl (PyData.eqv (.int a) (.int b))) = _
  rw [eqv_int]
@[simp] theorem dNe_int (a b : Int) : dNe (.int a) (.int b) = some (.bl (!decide (a = b))) := by
  rw [dNe_it (n := 0) (by decide) rfl rfl]
  show some (D.bl (!PyData.eqv (.int a) (.int b))) = _
  rw [eqv_int]
/-! ### sorted -/
theorem srtD_perm (ds : List D) : (srtD ds).Perm ds := List.mergeSort_perm _ _
theorem dataLe_eq (a b : D) : PySem.W.dataLe false D.py a b = !ltD b a := rfl
theorem srtD_sorted (ds : List D) : (srtD ds).Pairwise fun x y => ltD y x = false := by
  have := List.pairwise_mergeSort (le := PySem.W.dataLe false D.py) (fun a b c h g => by
    rw [dataLe_eq] at *
    simp only [Bool.not_eq_true', Bool.not_eq_eq_eq_not] at *
    exact leD_trans h g) (fun a b => by
    rw [dataLe_eq, dataLe_eq]
    cases e : ltD b a with
    | false => simp
    | true => rw [ltD_asymm e]; simp) ds
  exact this.imp fun h => by simpa [dataLe_eq] using h
/-- a sorted list of unlike items ascends -/
theorem srtD_strict {n : Nat} {ds : List D} (hit : ∀ d ∈ ds, itN n d = true) (hal : ∀ x ∈ ds, ∀ y ∈ ds, alD x y = true) (nd : ds.Nodup) : (srtD ds).Pairwise fun x y => ltD x y = true := by
  have hp := srtD_perm ds
  have hs := srtD_sorted ds
  have hnd : (srtD ds).Nodup := hp.nodup_iff.mpr nd
  have hm : ∀ x ∈ srtD ds, x ∈ ds := fun x h => hp.mem_iff.mp h
  generalize srtD ds = l at hs hnd hm
  clear hp
  induction l with
  | nil => exact .nil
  | cons a l ih =>
    rw [List.pairwise_cons] at hs ⊢
    rw [List.nodup_cons] at hnd
    refine ⟨fun y hy => ?_, ih hs.2 hnd.2 fun x hx => hm x (List.mem_cons_of_mem _ hx)⟩
    cases e : ltD a y with
    | true => rfl
    | false =>
      have ma := hm a List.mem_cons_self
      have my := hm y (List.mem_cons_of_mem _ hy)
      have := ltD_total (hit a ma) (hit y my) (hal a ma y my) e (hs.1 y hy)
      subst this
      exact absurd hy hnd.1
theorem map_perm {α : Type} {f : α → D} : ∀ {l : List D} {as : List α}, l.Perm (as.map f) → ∃ bs : List α, bs.Perm as ∧ l = bs.map f := by
  intro l
  induction l with
  | nil =>
    intro as h
    have : as.map f = [] := List.Perm.eq_nil h.symm
    have : as = [] := by simpa using this
    subst this
    exact ⟨[], .nil, rfl⟩
  | cons d l ih =>
    intro as h
    have hd : d ∈ as.map f := h.mem_iff.mp List.mem_cons_self
    obtain ⟨a, ha, rfl⟩ := List.mem_map.mp hd
    obtain ⟨s, t, rfl⟩ := List.append_of_mem ha
    have h2 : l.Perm ((s ++ t).map f) := by
      have h3 : ((s ++ a :: t).map f).Perm (f a :: (s ++ t).map f) := (List.perm_middle.map f)
      exact List.Perm.cons_inv (h.trans h3)
    obtain ⟨bs, p, rfl⟩ := ih h2
    exact ⟨a :: bs, (p.cons a).trans List.perm_middle.symm, rfl⟩
end Mi

set_option Elab.async false
set_option linter.all false
set_option maxRecDepth 100000
set_option maxHeartbeats 4000000
namespace Mi
open PySem PySem.Spec PyProof.Rows L2
abbrev cs_off : List Str := ["Office"]
/-- _law_draw(_law_hand_here, _law_many): slots _law_hand_here=0 _law_many=1 _law_number=2 _law_cell=3 _law_digit=4 -/
noncomputable def m__law_draw : MS := (mSeq (mIf (mAnd (mTst (mBin dEq (.m (mBin dIx (.v 0) (.c (.int 2)))) (.c (.int 0)))) (mTst (mBin dLt (.m (mBin dIx (.v 0) (.c (.int 1)))) (.m (mFn fLen [(.m (mBin dIx (.v 0) (.c (.int 0))))]))))) (mSeq (mAsg 3 (mBin dIx (.m (mBin dIx (.v 0) (.c (.int 0)))) (.m (mBin dIx (.v 0) (.c (.int 1)))))) (mSeq (mSetI 0 (.c (.int 1)) (mBin dAdd (.m (mBin dIx (.v 0) (.c (.int 1)))) (.c (.int 1)))) (mSeq (mSetI 0 (.c (.int 3)) (mBin dMod (.m (mFn fInt [(.m (mBin dAdd (.m (mBin dAdd (.m (mBin dMul (.m (mBin dIx (.v 0) (.c (.int 3)))) (.c (.int 69621)))) (.v 3))) (.c (.int 11))))])) (.c (.int 2147483629)))) (mIf (mTst (mBin dGe (.v 3) (.m (mBin dPow (.c (.int 10)) (.c (.int 18)))))) (mSetI 0 (.c (.int 2)) (mVar 3)) mPass)))) mPass) (mSeq (mIf (mTst (mBin dGt (.m (mBin dIx (.v 0) (.c (.int 2)))) (.c (.int 0)))) (mSeq (mAsg 4 (mBin dMod (.m (mFn fInt [(.m (mBin dIx (.v 0) (.c (.int 2))))])) (.v 1))) (mSeq (mSetI 0 (.c (.int 2)) (mBin dDiv (.m (mBin dIx (.v 0) (.c (.int 2)))) (.v 1))) (mRet (mVar 4)))) mPass) (mSeq (mSetI 0 (.c (.int 4)) (mBin dAdd (.m (mBin dIx (.v 0) (.c (.int 4)))) (.c (.int 1)))) (mSeq (mAsg 2 (mBin dMod (.m (mFn fInt [(.m (mBin dMul (.m (mFn fInt [(.m (mBin dAdd (.m (mBin dIx (.v 0) (.c (.int 3)))) (.m (mBin dMul (.c (.int 7919)) (.m (mBin dIx (.v 0) (.c (.int 4))))))))])) (.c (.int 48271))))])) (.c (.int 2147483647)))) (mSeq (mAsg 2 (mBin dMod (.m (mFn fInt [(.m (mBin dMul (.v 2) (.m (mBin dAdd (.m (mBin dDiv (.v 2) (.c (.int 1009)))) (.c (.int 69621))))))])) (.c (.int 2147483647)))) (mSeq (mAsg 2 (mBin dMod (.m (mFn fInt [(.m (mBin dMul (.v 2) (.m (mBin dAdd (.m (mBin dDiv (.v 2) (.c (.int 2003)))) (.c (.int 40692))))))])) (.c (.int 2147483399)))) (mRet (mBin dMod (.m (mFn fInt [(.m (mBin dDiv (.v 2) (.c (.int 16))))])) (.v 1)))))))))
@[irreducible] noncomputable def r__law_draw : IF := runI 2 5 m__law_draw theorem r__law_draw_df : r__law_draw = runI 2 5 m__law_draw := by unfold r__law_draw; rfl
/-- _law_steps_of(_law_parts_here): slots _law_parts_here=0 _law_slips=1 _law_answers=2 _law_marks=3 _law_found=4 _law_slip=5 _law_answer=6 _law_mark=7 -/
noncomputable def m__law_steps_of : MS := (mSeq (mAsgT (bTup 3 (bCons (bName 1) (bCons (bName 2) (bCons (bName 3) bNil)))) (mBin dIx (.v 0) (.c (.int 0)))) (mSeq (mAsg 4 (mLstF (mL []))) (mSeq (mFor (mRange1 (.v 1)) (bName 5) (mKill [5, 6] (mFor (mRange1 (.v 2)) (bName 6) (mKill [6] (mAsg 4 (mBin dAdd (.v 4) (.m (mFrz (mComp [7] (mRange1 (.v 3)) (bName 7) mYes (mTup (mL [(mVar 5), (mVar 6), (mVar 7)]))))))))))) (mRet (mVar 4)))))
@[irreducible] noncomputable def r__law_steps_of : PF := runP 1 8 m__law_steps_of theorem r__law_steps_of_df : r__law_steps_of = runP 1 8 m__law_steps_of := by unfold r__law_steps_of; rfl
/-- _law_any_day(_law_hand_here, _law_parts_here, _law_many): slots _law_hand_here=0 _law_parts_here=1 _law_many=2 _law_steps=3 _law_turn=4 -/
noncomputable def m__law_any_day : MS := (mSeq (mAsg 3 (mCall r__law_steps_of (mL [(mVar 1)]))) (mRet (mTup (mL [(mFn fTuple [(.m (mFrz (mComp [4] (mRange1 (.v 2)) (bName 4) mYes (mBin dIx (.v 3) (.m (mCallI r__law_draw 0 (mL [(mFn fLen [(.v 3)])])))))))]), (mCallI r__law_draw 0 (mL [(mBin dIx (.m (mBin dIx (.v 1) (.c (.int 0)))) (.c (.int 2)))]))]))))
@[irreducible] noncomputable def r__law_any_day : IF := runI 3 5 m__law_any_day theorem r__law_any_day_df : r__law_any_day = runI 3 5 m__law_any_day := by unfold r__law_any_day; rfl
/-- _law_hand(_law_script): slots _law_script=0 _law_cells=1 _law_cell=2 -/
noncomputable def m__law_hand : MS := (mSeq (mAsgL 1 (mComp [2] (mItems (mSl (.v 0) none (some (.c (.int 63))))) (bName 2) mYes (mFn fAbs [(.m (mFn fInt [(.v 2)]))]))) (mRetL (mLst (mL [(mVar 1), (mK (.int 0)), (mK (.int 0)), (mBin dAdd (.c (.int 1)) (.m (mFn fLen [(.v 1)]))), (mK (.int 0))]))))
@[irreducible] noncomputable def r__law_hand : OF := runO 1 3 m__law_hand theorem r__law_hand_df : r__law_hand = runO 1 3 m__law_hand := by unfold r__law_hand; rfl
/-- are_ascending(things): slots things=0 at=1 -/
noncomputable def m_are_ascending : MS := (mSeq (mFor (mRange2 (.c (.int 1)) (.m (mFn fLen [(.v 0)]))) (bName 1) (mKill [1] (mIf (mTst (mBin dGe (.m (mBin dIx (.v 0) (.m (mBin dSub (.v 1) (.c (.int 1)))))) (.m (mBin dIx (.v 0) (.v 1))))) (mRet (mK (.bl false))) mPass))) (mRet (mK (.bl true))))
@[irreducible] noncomputable def r_are_ascending : PF := runP 1 2 m_are_ascending theorem r_are_ascending_df : r_are_ascending = runP 1 2 m_are_ascending := by unfold r_are_ascending; rfl
/-- is_integer(thing): slots thing=0 -/
noncomputable def m_is_integer : MS := (mRet (mAndV (mFn fIsTy [(.v 0), (.c (.ty "int"))]) (mNotV (mFn fIsTy [(.v 0), (.c (.ty "bool"))]))))
@[irreducible] noncomputable def r_is_integer : PF := runP 1 1 m_is_integer theorem r_is_integer_df : r_is_integer = runP 1 1 m_is_integer := by unfold r_is_integer; rfl
/-- is_within(thing, least, most): slots thing=0 least=1 most=2 -/
noncomputable def m_is_within : MS := (mRet (mAndV (mCall r_is_integer (mL [(mVar 0)])) (mChain dLe dLe (.v 1) (.v 0) (.v 2))))
@[irreducible] noncomputable def r_is_within : PF := runP 3 3 m_is_within theorem r_is_within_df : r_is_within = runP 3 3 m_is_within := by unfold r_is_within; rfl
/-- are_closings(sizes, many, thing): slots sizes=0 many=1 thing=2 row=3 mark=4 -/
noncomputable def m_are_closings : MS := (mSeq (mIf (mOr (mNot (mTst (mFn fIsTy [(.v 2), (.c (.ty "tuple"))]))) (mTst (mBin dNe (.m (mFn fLen [(.v 2)])) (.v 1)))) (mRet (mK (.bl false))) mPass) (mSeq (mFor (mItems (mVar 2)) (bName 3) (mKill [3] (mSeq (mIf (mOr (mNot (mTst (mFn fIsTy [(.v 3), (.c (.ty "tuple"))]))) (mNot (mTst (mFn fAll [(.m (mFrz (mComp [4] (mItems (mVar 3)) (bName 4) mYes (mCall r_is_within (mL [(mVar 4), (mK (.int 0)), (mBin dSub (.m (mBin dIx (.v 0) (.c (.int 2)))) (.c (.int 1)))])))))])))) (mRet (mK (.bl false))) mPass) (mIf (mNot (mTst (mCall r_are_ascending (mL [(mVar 3)])))) (mRet (mK (.bl false))) mPass)))) (mRet (mK (.bl true)))))
@[irreducible] noncomputable def r_are_closings : PF := runP 3 5 m_are_closings theorem r_are_closings_df : r_are_closings = runP 3 5 m_are_closings := by unfold r_are_closings; rfl
/-- is_move(sizes, many, thing): slots sizes=0 many=1 thing=2 slips=3 answers=4 marks=5 -/
noncomputable def m_is_move : MS := (mSeq (mIf (mOr (mNot (mTst (mFn fIsTy [(.v 2), (.c (.ty "tuple"))]))) (mTst (mBin dNe (.m (mFn fLen [(.v 2)])) (.c (.int 4))))) (mRet (mK (.bl false))) mPass) (mSeq (mAsgT (bTup 3 (bCons (bName 3) (bCons (bName 4) (bCons (bName 5) bNil)))) (mVar 0)) (mSeq (mIf (mOr (mNot (mTst (mCall r_is_within (mL [(mBin dIx (.v 2) (.c (.int 0))), (mK (.int 0)), (mBin dSub (.v 3) (.c (.int 1)))])))) (mNot (mTst (mCall r_is_within (mL [(mBin dIx (.v 2) (.c (.int 1))), (mK (.int 0)), (mBin dSub (.v 4) (.c (.int 1)))]))))) (mRet (mK (.bl false))) mPass) (mRet (mAndV (mCall r_is_within (mL [(mBin dIx (.v 2) (.c (.int 2))), (mK (.int 0)), (mBin dSub (.v 5) (.c (.int 1)))])) (mCall r_is_within (mL [(mBin dIx (.v 2) (.c (.int 3))), (mK (.int 0)), (mBin dSub (.v 1) (.c (.int 1)))])))))))
@[irreducible] noncomputable def r_is_move : PF := runP 3 6 m_is_move theorem r_is_move_df : r_is_move = runP 3 6 m_is_move := by unfold r_is_move; rfl
/-- are_moves(sizes, thing): slots sizes=0 thing=1 row=2 move=3 -/
noncomputable def m_are_moves : MS := (mSeq (mIf (mOr (mNot (mTst (mFn fIsTy [(.v 1), (.c (.ty "tuple"))]))) (mNot (mTst (mChain dLe dLe (.c (.int 1)) (.m (mFn fLen [(.v 1)])) (.c (.int 20)))))) (mRet (mK (.bl false))) mPass) (mSeq (mFor (mItems (mVar 1)) (bName 2) (mKill [2] (mSeq (mIf (mOr (mNot (mTst (mFn fIsTy [(.v 2), (.c (.ty "tuple"))]))) (mNot (mTst (mFn fAll [(.m (mFrz (mComp [3] (mItems (mVar 2)) (bName 3) mYes (mCall r_is_move (mL [(mVar 0), (mFn fLen [(.v 1)]), (mVar 3)])))))])))) (mRet (mK (.bl false))) mPass) (mIf (mNot (mTst (mCall r_are_ascending (mL [(mVar 2)])))) (mRet (mK (.bl false))) mPass)))) (mRet (mK (.bl true)))))
@[irreducible] noncomputable def r_are_moves : PF := runP 2 4 m_are_moves theorem r_are_moves_df : r_are_moves = runP 2 4 m_are_moves := by unfold r_are_moves; rfl
/-- is_triple(thing): slots thing=0 -/
noncomputable def m_is_triple : MS := (mRet (mAndV (mFn fIsTy [(.v 0), (.c (.ty "tuple"))]) (mBin dEq (.m (mFn fLen [(.v 0)])) (.c (.int 3)))))
@[irreducible] noncomputable def r_is_triple : PF := runP 1 1 m_is_triple theorem r_is_triple_df : r_is_triple = runP 1 1 m_is_triple := by unfold r_is_triple; rfl
/-- are_sizes(thing): slots thing=0 size=1 -/
noncomputable def m_are_sizes : MS := (mRet (mAndV (mCall r_is_triple (mL [(mVar 0)])) (mFn fAll [(.m (mFrz (mComp [1] (mItems (mVar 0)) (bName 1) mYes (mCall r_is_within (mL [(mVar 1), (mK (.int 1)), (mK (.int 4))])))))])))
@[irreducible] noncomputable def r_are_sizes : PF := runP 1 2 m_are_sizes theorem r_are_sizes_df : r_are_sizes = runP 1 2 m_are_sizes := by unfold r_are_sizes; rfl
noncomputable def i_Office : OF := fInit 4 (mNot (mTst (mCall r_are_sizes (mL [(mVar 1)])))) (mNot (mTst (mCall r_are_moves (mL [(mVar 1), (mVar 2)])))) (mNot (mTst (mCall r_are_closings (mL [(mVar 1), (mFn fLen [(.v 2)]), (mVar 3)])))) mDead mDead mDead
/-- _law_made(_law_parts_here): slots _law_parts_here=0 -/
noncomputable def m__law_made : MS := (mRet (mMake "Office" kNames i_Office (mL [(mBin dIx (.v 0) (.c (.int 0))), (mBin dIx (.v 0) (.c (.int 1))), (mBin dIx (.v 0) (.c (.int 2)))])))
@[irreducible] noncomputable def r__law_made : PF := runP 1 1 m__law_made theorem r__law_made_df : r__law_made = runP 1 1 m__law_made := by unfold r__law_made; rfl
/-- _law_row(_law_hand_here, _law_sizes, _law_many, _law_goals): slots _law_hand_here=0 _law_sizes=1 _law_many=2 _law_goals=3 _law_row_here=4 _law_turn=5 _law_move=6 -/
noncomputable def m__law_row : MS := (mSeq (mAsgL 4 (mLst (mL []))) (mSeq (mFor (mRange1 (.v 2)) (bName 5) (mKill [5, 6] (mSeq (mAsg 6 (mTup (mL [(mCallI r__law_draw 0 (mL [(mBin dIx (.v 1) (.c (.int 0)))])), (mCallI r__law_draw 0 (mL [(mBin dIx (.v 1) (.c (.int 1)))])), (mCallI r__law_draw 0 (mL [(mBin dIx (.v 1) (.c (.int 2)))])), (mCallI r__law_draw 0 (mL [(mVar 3)]))]))) (mIf (mTst (mBin dNotIn (.v 6) (.v 4))) (mApp 4 (mVar 6)) mPass)))) (mRet (mFn fTuple [(.m (mFn fSorted [(.v 4)]))]))))
@[irreducible] noncomputable def r__law_row : IF := runI 4 7 m__law_row theorem r__law_row_df : r__law_row = runI 4 7 m__law_row := by unfold r__law_row; rfl
/-- _law_parts(_law_hand_here, _law_most, _law_size, _law_moves): slots _law_hand_here=0 _law_most=1 _law_size=2 _law_moves=3 _law_sizes=4 _law_many=5 _law_served=6 _law_rows=7 _law_closings=8 _law_standing=9 _law_row_here=10 _law_slip=11 _law_turn=12 _law_mark=13 _law_move=14 -/
noncomputable def m__law_parts : MS := (mSeq (mAsg 4 (mFn fTuple [(.m (mFrz (mComp [12] (mRange1 (.c (.int 3))) (bName 12) mYes (mBin dAdd (.c (.int 1)) (.m (mCallI r__law_draw 0 (mL [(mVar 2)])))))))])) (mSeq (mAsg 5 (mBin dAdd (.c (.int 1)) (.m (mCallI r__law_draw 0 (mL [(mVar 1)]))))) (mSeq (mAsg 6 (mBin dGt (.m (mCallI r__law_draw 0 (mL [(mK (.int 3))]))) (.c (.int 0)))) (mSeq (mAsgL 7 (mLst (mL []))) (mSeq (mAsgL 8 (mLst (mL []))) (mSeq (mFor (mRange1 (.v 5)) (bName 9) (mKill [9, 10, 11] (mSeq (mAsgL 10 (mFnL fList [(.m (mCallI r__law_row 0 (mL [(mVar 4), (mCallI r__law_draw 0 (mL [(mBin dAdd (.v 3) (.c (.int 1)))])), (mVar 5)])))])) (mSeq (mFor (mRange1 (.m (mBin dIx (.v 4) (.c (.int 0))))) (bName 11) (mKill [11] (mIf (mAnd (mTst (mVar 6)) (mTst (mBin dEq (.m (mFn fLen [(.m (mFrz (mCompP 10 [14] (bName 14) (mTst (mBin dEq (.m (mBin dIx (.v 14) (.c (.int 0)))) (.v 11))) (mVar 14))))])) (.c (.int 0))))) (mApp 10 (mTup (mL [(mVar 11), (mCallI r__law_draw 0 (mL [(mBin dIx (.v 4) (.c (.int 1)))])), (mCallI r__law_draw 0 (mL [(mBin dIx (.v 4) (.c (.int 2)))])), (mCallI r__law_draw 0 (mL [(mVar 5)]))]))) mPass))) (mSeq (mApp 7 (mFn fTuple [(.m (mFn fSorted [(.v 10)]))])) (mApp 8 (mFn fTuple [(.m (mFrz (mComp [13] (mRange1 (.m (mBin dIx (.v 4) (.c (.int 2))))) (bName 13) (mTst (mBin dGt (.m (mCallI r__law_draw 0 (mL [(mK (.int 3))]))) (.c (.int 0)))) (mVar 13))))]))))))) (mRet (mTup (mL [(mVar 4), (mFn fTuple [(.v 7)]), (mFn fTuple [(.v 8)])])))))))))
@[irreducible] noncomputable def r__law_parts : IF := runI 4 15 m__law_parts theorem r__law_parts_df : r__law_parts = runI 4 15 m__law_parts := by unfold r__law_parts; rfl
/-- board_of(day): slots day=0 step=1 -/
noncomputable def m_board_of : MS := (mRet (mTup (mL [(mFn fTuple [(.m (mFrz (mComp [1] (mItems (mBin dIx (.v 0) (.c (.int 0)))) (bName 1) mYes (mBin dIx (.v 1) (.c (.int 2))))))]), (mBin dIx (.v 0) (.c (.int 1)))])))
@[irreducible] noncomputable def r_board_of : PF := runP 1 2 m_board_of theorem r_board_of_df : r_board_of = runP 1 2 m_board_of := by unfold r_board_of; rfl
/-- is_mark(office, thing): slots office=0 thing=1 -/
noncomputable def m_is_mark : MS := (mRet (mCall r_is_within (mL [(mVar 1), (mK (.int 0)), (mBin dSub (.m (mBin dIx (.m (mUn (dFld cs_off "sizes") (.v 0))) (.c (.int 2)))) (.c (.int 1)))])))
@[irreducible] noncomputable def r_is_mark : PF := runP 2 2 m_is_mark theorem r_is_mark_df : r_is_mark = runP 2 2 m_is_mark := by unfold r_is_mark; rfl
/-- is_pair(thing): slots thing=0 -/
noncomputable def m_is_pair : MS := (mRet (mAndV (mFn fIsTy [(.v 0), (.c (.ty "tuple"))]) (mBin dEq (.m (mFn fLen [(.v 0)])) (.c (.int 2)))))
@[irreducible] noncomputable def r_is_pair : PF := runP 1 1 m_is_pair theorem r_is_pair_df : r_is_pair = runP 1 1 m_is_pair := by unfold r_is_pair; rfl
/-- is_note(office, thing): slots office=0 thing=1 -/
noncomputable def m_is_note : MS := (mSeq (mIf (mOr (mNot (mTst (mCall r_is_pair (mL [(mVar 1)])))) (mNot (mTst (mCall r_is_within (mL [(mBin dIx (.v 1) (.c (.int 0))), (mK (.int 0)), (mBin dSub (.m (mBin dIx (.m (mUn (dFld cs_off "sizes") (.v 0))) (.c (.int 0)))) (.c (.int 1)))]))))) (mRet (mK (.bl false))) mPass) (mRet (mCall r_is_within (mL [(mBin dIx (.v 1) (.c (.int 1))), (mK (.int 0)), (mBin dSub (.m (mBin dIx (.m (mUn (dFld cs_off "sizes") (.v 0))) (.c (.int 1)))) (.c (.int 1)))]))))
@[irreducible] noncomputable def r_is_note : PF := runP 2 2 m_is_note theorem r_is_note_df : r_is_note = runP 2 2 m_is_note := by unfold r_is_note; rfl
/-- is_step(office, thing): slots office=0 thing=1 -/
noncomputable def m_is_step : MS := (mRet (mAndV (mCall r_is_triple (mL [(mVar 1)])) (mAndV (mCall r_is_note (mL [(mVar 0), (mSl (.v 1) none (some (.c (.int 2))))])) (mCall r_is_mark (mL [(mVar 0), (mBin dIx (.v 1) (.c (.int 2)))])))))
@[irreducible] noncomputable def r_is_step : PF := runP 2 2 m_is_step theorem r_is_step_df : r_is_step = runP 2 2 m_is_step := by unfold r_is_step; rfl
/-- are_steps(office, thing): slots office=0 thing=1 step=2 -/
noncomputable def m_are_steps : MS := (mRet (mAndV (mFn fIsTy [(.v 1), (.c (.ty "tuple"))]) (mFn fAll [(.m (mFrz (mComp [2] (mItems (mVar 1)) (bName 2) mYes (mCall r_is_step (mL [(mVar 0), (mVar 2)])))))])))
@[irreducible] noncomputable def r_are_steps : PF := runP 2 3 m_are_steps theorem r_are_steps_df : r_are_steps = runP 2 3 m_are_steps := by unfold r_are_steps; rfl
/-- is_day(office, thing): slots office=0 thing=1 -/
noncomputable def m_is_day : MS := (mRet (mAndV (mCall r_is_pair (mL [(mVar 1)])) (mAndV (mCall r_are_steps (mL [(mVar 0), (mBin dIx (.v 1) (.c (.int 0)))])) (mCall r_is_mark (mL [(mVar 0), (mBin dIx (.v 1) (.c (.int 1)))])))))
@[irreducible] noncomputable def r_is_day : PF := runP 2 2 m_is_day theorem r_is_day_df : r_is_day = runP 2 2 m_is_day := by unfold r_is_day; rfl
/-- check_day(office, thing): slots office=0 thing=1 -/
noncomputable def m_check_day : MS := (mIf (mNot (mTst (mCall r_is_day (mL [(mVar 0), (mVar 1)])))) (mRaise0 "NoDay") mPass)
@[irreducible] noncomputable def r_check_day : PF := runP 2 2 m_check_day theorem r_check_day_df : r_check_day = runP 2 2 m_check_day := by unfold r_check_day; rfl
/-- shuts_with(office, standings, last): slots office=0 standings=1 last=2 standing=3 -/
noncomputable def m_shuts_with : MS := (mRet (mFn fAny [(.m (mFrz (mComp [3] (mItems (mVar 1)) (bName 3) mYes (mBin dIn (.v 2) (.m (mBin dIx (.m (mUn (dFld cs_off "closings") (.v 0))) (.v 3)))))))]))
@[irreducible] noncomputable def r_shuts_with : PF := runP 3 4 m_shuts_with theorem r_shuts_with_df : r_shuts_with = runP 3 4 m_shuts_with := by unfold r_shuts_with; rfl
/-- goals_of(office, standings, step): slots office=0 standings=1 step=2 found=3 standing=4 goal=5 -/
noncomputable def m_goals_of : MS := (mSeq (mAsgD false 3) (mSeq (mFor (mItems (mVar 1)) (bName 4) (mKill [4, 5] (mFor (mItems (mGet2 (.m (mBin dIx (.m (mUn (dFld cs_off "kept_goals") (.v 0))) (.v 4))) (.v 2) (mLstF (mL [])))) (bName 5) (mKill [5] (mPut 3 (mVar 5) (mK (.bl true))))))) (mRet (mFn fTuple [(.m (mFn fSorted [(.v 3)]))]))))
@[irreducible] noncomputable def r_goals_of : PF := runP 3 6 m_goals_of theorem r_goals_of_df : r_goals_of = runP 3 6 m_goals_of := by unfold r_goals_of; rfl
/-- standings_behind(office, steps): slots office=0 steps=1 standings=2 step=3 -/
noncomputable def m_standings_behind : MS := (mSeq (mAsg 2 (mTup (mL [(mK (.int 0))]))) (mSeq (mFor (mItems (mVar 1)) (bName 3) (mKill [3] (mAsg 2 (mCall r_goals_of (mL [(mVar 0), (mVar 2), (mVar 3)]))))) (mRet (mVar 2))))
@[irreducible] noncomputable def r_standings_behind : PF := runP 2 4 m_standings_behind theorem r_standings_behind_df : r_standings_behind = runP 2 4 m_standings_behind := by unfold r_standings_behind; rfl
/-- day_true(office, day): slots office=0 day=1 -/
noncomputable def m_day_true : MS := (mRet (mCall r_shuts_with (mL [(mVar 0), (mCall r_standings_behind (mL [(mVar 0), (mBin dIx (.v 1) (.c (.int 0)))])), (mBin dIx (.v 1) (.c (.int 1)))])))
@[irreducible] noncomputable def r_day_true : PF := runP 2 2 m_day_true theorem r_day_true_df : r_day_true = runP 2 2 m_day_true := by unfold r_day_true; rfl
/-- _law_changed(_law_hand_here, _law_parts_here, _law_day): slots _law_hand_here=0 _law_parts_here=1 _law_day=2 _law_steps=3 _law_last=4 _law_at=5 _law_step=6 _law_which=7 -/
noncomputable def m__law_changed : MS := (mSeq (mAsgT (bTup 2 (bCons (bName 3) (bCons (bName 4) bNil))) (mVar 2)) (mSeq (mIf (mOr (mTst (mBin dEq (.m (mFn fLen [(.v 3)])) (.c (.int 0)))) (mTst (mBin dEq (.m (mCallI r__law_draw 0 (mL [(mK (.int 3))]))) (.c (.int 0))))) (mRet (mTup (mL [(mVar 3), (mCallI r__law_draw 0 (mL [(mBin dIx (.m (mBin dIx (.v 1) (.c (.int 0)))) (.c (.int 2)))]))]))) mPass) (mSeq (mAsg 5 (mCallI r__law_draw 0 (mL [(mFn fLen [(.v 3)])]))) (mSeq (mAsgL 6 (mFnL fList [(.m (mBin dIx (.v 3) (.v 5)))])) (mSeq (mAsg 7 (mCallI r__law_draw 0 (mL [(mK (.int 3))]))) (mSeq (mSetI 6 (.v 7) (mCallI r__law_draw 0 (mL [(mBin dIx (.m (mBin dIx (.v 1) (.c (.int 0)))) (.v 7))]))) (mRet (mTup (mL [(mBin dAdd (.m (mBin dAdd (.m (mSl (.v 3) none (some (.v 5)))) (.m (mTup (mL [(mFn fTuple [(.v 6)])]))))) (.m (mSl (.v 3) (some (.m (mBin dAdd (.v 5) (.c (.int 1))))) none))), (mVar 4)])))))))))
@[irreducible] noncomputable def r__law_changed : IF := runI 3 8 m__law_changed theorem r__law_changed_df : r__law_changed = runI 3 8 m__law_changed := by unfold r__law_changed; rfl
/-- _law_behind(_law_parts_here, _law_standings, _law_step): slots _law_parts_here=0 _law_standings=1 _law_step=2 _law_found=3 _law_standing=4 _law_move=5 -/
noncomputable def m__law_behind : MS := (mSeq (mAsgL 3 (mLst (mL []))) (mSeq (mFor (mItems (mVar 1)) (bName 4) (mKill [4, 5] (mFor (mItems (mBin dIx (.m (mBin dIx (.v 0) (.c (.int 1)))) (.v 4))) (bName 5) (mKill [5] (mIf (mAnd (mTst (mBin dEq (.m (mSl (.v 5) none (some (.c (.int 3))))) (.v 2))) (mTst (mBin dNotIn (.m (mBin dIx (.v 5) (.c (.int 3)))) (.v 3)))) (mApp 3 (mBin dIx (.v 5) (.c (.int 3)))) mPass))))) (mRet (mFn fTuple [(.m (mFn fSorted [(.v 3)]))]))))
@[irreducible] noncomputable def r__law_behind : PF := runP 3 6 m__law_behind theorem r__law_behind_df : r__law_behind = runP 3 6 m__law_behind := by unfold r__law_behind; rfl
/-- _law_is_true(_law_parts_here, _law_day): slots _law_parts_here=0 _law_day=1 _law_standings=2 _law_step=3 _law_standing=4 -/
noncomputable def m__law_is_true : MS := (mSeq (mAsg 2 (mTup (mL [(mK (.int 0))]))) (mSeq (mFor (mItems (mBin dIx (.v 1) (.c (.int 0)))) (bName 3) (mKill [3] (mAsg 2 (mCall r__law_behind (mL [(mVar 0), (mVar 2), (mVar 3)]))))) (mRet (mBin dGt (.m (mFn fLen [(.m (mFrz (mComp [4] (mItems (mVar 2)) (bName 4) (mTst (mBin dIn (.m (mBin dIx (.v 1) (.c (.int 1)))) (.m (mBin dIx (.m (mBin dIx (.v 0) (.c (.int 2)))) (.v 4))))) (mVar 4))))])) (.c (.int 0))))))
@[irreducible] noncomputable def r__law_is_true : PF := runP 2 5 m__law_is_true theorem r__law_is_true_df : r__law_is_true = runP 2 5 m__law_is_true := by unfold r__law_is_true; rfl
/-- _law_walk(_law_hand_here, _law_parts_here, _law_many): slots _law_hand_here=0 _law_parts_here=1 _law_many=2 _law_at=3 _law_steps=4 _law_turn=5 _law_lasts=6 _law_move=7 -/
noncomputable def m__law_walk : MS := (mSeq (mAsg 3 (mK (.int 0))) (mSeq (mAsg 4 (mTup (mL []))) (mSeq (mFor (mRange1 (.v 2)) (bName 5) (mKill [5, 7] (mIf (mTst (mBin dGt (.m (mFn fLen [(.m (mBin dIx (.m (mBin dIx (.v 1) (.c (.int 1)))) (.v 3)))])) (.c (.int 0)))) (mSeq (mAsg 7 (mBin dIx (.m (mBin dIx (.m (mBin dIx (.v 1) (.c (.int 1)))) (.v 3))) (.m (mCallI r__law_draw 0 (mL [(mFn fLen [(.m (mBin dIx (.m (mBin dIx (.v 1) (.c (.int 1)))) (.v 3)))])]))))) (mSeq (mAsg 4 (mBin dAdd (.v 4) (.m (mTup (mL [(mSl (.v 7) none (some (.c (.int 3))))]))))) (mAsg 3 (mBin dIx (.v 7) (.c (.int 3)))))) mPass))) (mSeq (mAsg 6 (mIfE (mTst (mBin dGt (.m (mFn fLen [(.m (mBin dIx (.m (mBin dIx (.v 1) (.c (.int 2)))) (.v 3)))])) (.c (.int 0)))) (mBin dIx (.m (mBin dIx (.v 1) (.c (.int 2)))) (.v 3)) (mTup (mL [(mK (.int 0))])))) (mRet (mTup (mL [(mVar 4), (mBin dIx (.v 6) (.m (mCallI r__law_draw 0 (mL [(mFn fLen [(.v 6)])]))))])))))))
@[irreducible] noncomputable def r__law_walk : IF := runI 3 8 m__law_walk theorem r__law_walk_df : r__law_walk = runI 3 8 m__law_walk := by unfold r__law_walk; rfl
/-- _law_board(_law_day): slots _law_day=0 _law_step=1 -/
noncomputable def m__law_board : MS := (mRet (mTup (mL [(mFn fTuple [(.m (mFrz (mComp [1] (mItems (mBin dIx (.v 0) (.c (.int 0)))) (bName 1) mYes (mBin dIx (.v 1) (.c (.int 2))))))]), (mBin dIx (.v 0) (.c (.int 1)))])))
@[irreducible] noncomputable def r__law_board : PF := runP 1 2 m__law_board theorem r__law_board_df : r__law_board = runP 1 2 m__law_board := by unfold r__law_board; rfl
/-- _law_lot(_law_hand_here, _law_many): slots _law_hand_here=0 _law_many=1 _law_share=2 _law_place=3 -/
noncomputable def m__law_lot : MS := (mSeq (mAsg 2 (mBin dAdd (.c (.int 1)) (.m (mCallI r__law_draw 0 (mL [(mK (.int 3))]))))) (mRet (mFn fTuple [(.m (mFrz (mComp [3] (mRange1 (.v 1)) (bName 3) (mTst (mBin dLt (.m (mCallI r__law_draw 0 (mL [(mBin dAdd (.v 2) (.c (.int 1)))]))) (.v 2))) (mVar 3))))])))
@[irreducible] noncomputable def r__law_lot : IF := runI 2 4 m__law_lot theorem r__law_lot_df : r__law_lot = runI 2 4 m__law_lot := by unfold r__law_lot; rfl
/-- is_lot_below(thing, many): slots thing=0 many=1 place=2 -/
noncomputable def m_is_lot_below : MS := (mSeq (mIf (mOr (mNot (mTst (mFn fIsTy [(.v 0), (.c (.ty "tuple"))]))) (mNot (mTst (mFn fAll [(.m (mFrz (mComp [2] (mItems (mVar 0)) (bName 2) mYes (mCall r_is_within (mL [(mVar 2), (mK (.int 0)), (mBin dSub (.v 1) (.c (.int 1)))])))))])))) (mRet (mK (.bl false))) mPass) (mRet (mCall r_are_ascending (mL [(mVar 0)]))))
@[irreducible] noncomputable def r_is_lot_below : PF := runP 2 3 m_is_lot_below theorem r_is_lot_below_df : r_is_lot_below = runP 2 3 m_is_lot_below := by unfold r_is_lot_below; rfl
/-- check_lot(day, thing): slots day=0 thing=1 -/
noncomputable def m_check_lot : MS := (mIf (mNot (mTst (mCall r_is_lot_below (mL [(mVar 1), (mFn fLen [(.m (mBin dIx (.v 0) (.c (.int 0))))])])))) (mRaise0 "NoLot") mPass)
@[irreducible] noncomputable def r_check_lot : PF := runP 2 2 m_check_lot theorem r_check_lot_df : r_check_lot = runP 2 2 m_check_lot := by unfold r_check_lot; rfl
/-- is_tale(office, day, lot, thing): slots office=0 day=1 lot=2 thing=3 place=4 -/
noncomputable def m_is_tale : MS := (mSeq (mDrop (mCall r_check_day (mL [(mVar 0), (mVar 1)]))) (mSeq (mDrop (mCall r_check_lot (mL [(mVar 1), (mVar 2)]))) (mSeq (mIf (mOr (mNot (mTst (mCall r_is_day (mL [(mVar 0), (mVar 3)])))) (mTst (mBin dNe (.m (mCall r_board_of (mL [(mVar 3)]))) (.m (mCall r_board_of (mL [(mVar 1)])))))) (mRet (mK (.bl false))) mPass) (mSeq (mIf (mTst (mFn fAny [(.m (mFrz (mComp [4] (mItems (mVar 2)) (bName 4) mYes (mBin dNe (.m (mBin dIx (.m (mBin dIx (.v 3) (.c (.int 0)))) (.v 4))) (.m (mBin dIx (.m (mBin dIx (.v 1) (.c (.int 0)))) (.v 4)))))))])) (mRet (mK (.bl false))) mPass) (mRet (mCall r_day_true (mL [(mVar 0), (mVar 3)])))))))
@[irreducible] noncomputable def r_is_tale : PF := runP 4 5 m_is_tale theorem r_is_tale_df : r_is_tale = runP 4 5 m_is_tale := by unfold r_is_tale; rfl
/-- fixed_by(day, lot): slots day=0 lot=1 place=2 -/
noncomputable def m_fixed_by : MS := (mRet (mDc [2] (mItems (mVar 1)) (bName 2) mYes (mVar 2) (mSl (.m (mBin dIx (.m (mBin dIx (.v 0) (.c (.int 0)))) (.v 2))) none (some (.c (.int 2))))))
@[irreducible] noncomputable def r_fixed_by : PF := runP 2 3 m_fixed_by theorem r_fixed_by_df : r_fixed_by = runP 2 3 m_fixed_by := by unfold r_fixed_by; rfl
/-- layers_back(office, lets, last): slots office=0 lets=1 last=2 layers=3 steps=4 layer=5 at=6 goals=7 row=8 step=9 goal=10 -/
noncomputable def m_layers_back : MS := (mSeq (mAsgL 3 (mLst (mL [(mDc [6, 8] (mEnum (mUn (dFld cs_off "closings") (.v 0))) (bTup 2 (bCons (bName 6) (bCons (bName 8) bNil))) (mTst (mBin dIn (.v 2) (.v 8))) (mVar 6) (mK (.bl true)))]))) (mSeq (mFor (mItems (mUn dRev (.v 1))) (bName 4) (mKill [4, 5, 6, 7] (mSeq (mAsgD false 5) (mSeq (mFor (mEnum (mUn (dFld cs_off "kept_goals") (.v 0))) (bTup 2 (bCons (bName 6) (bCons (bName 7) bNil))) (mKill [6, 7] (mIf (mTst (mFn fAny [(.m (mFrz (mComp [9] (mItems (mVar 4)) (bName 9) mYes (mFn fAny [(.m (mFrz (mComp [10] (mItems (mGet2 (.v 7) (.v 9) (mLstF (mL [])))) (bName 10) mYes (mBin dIn (.v 10) (.m (mBin dIx (.v 3) (.m (mUn dNeg (.c (.int 1))))))))))]))))])) (mPut 5 (mVar 6) (mK (.bl true))) mPass))) (mApp 3 (mVar 5)))))) (mRet (mUn dRev (.v 3)))))
@[irreducible] noncomputable def r_layers_back : PF := runP 3 11 m_layers_back theorem r_layers_back_df : r_layers_back = runP 3 11 m_layers_back := by unfold r_layers_back; rfl
/-- all_steps(office): slots office=0 slips=1 answers=2 marks=3 notes_here=4 slip=5 answer=6 note=7 mark=8 -/
noncomputable def m_all_steps : MS := (mSeq (mAsgT (bTup 3 (bCons (bName 1) (bCons (bName 2) (bCons (bName 3) bNil)))) (mUn (dFld cs_off "sizes") (.v 0))) (mSeq (mAsgL 4 (mComp2 [5, 6] (mRange1 (.v 1)) (bName 5) mYes [6] (mRange1 (.v 2)) (bName 6) mYes (mTup (mL [(mVar 5), (mVar 6)])))) (mRet (mFrz (mComp2 [7, 8] (mItems (mVar 4)) (bName 7) mYes [8] (mRange1 (.v 3)) (bName 8) mYes (mBin dAdd (.v 7) (.m (mTup (mL [(mVar 8)])))))))))
@[irreducible] noncomputable def r_all_steps : PF := runP 1 9 m_all_steps theorem r_all_steps_df : r_all_steps = runP 1 9 m_all_steps := by unfold r_all_steps; rfl
/-- steps_with(office, mark): slots office=0 mark=1 step=2 -/
noncomputable def m_steps_with : MS := (mRet (mFrz (mComp [2] (mItems (mCall r_all_steps (mL [(mVar 0)]))) (bName 2) (mTst (mBin dEq (.m (mBin dIx (.v 2) (.c (.int 2)))) (.v 1))) (mVar 2))))
@[irreducible] noncomputable def r_steps_with : PF := runP 2 3 m_steps_with theorem r_steps_with_df : r_steps_with = runP 2 3 m_steps_with := by unfold r_steps_with; rfl
/-- steps_let(office, the_board, fixed): slots office=0 the_board=1 fixed=2 by_mark=3 found=4 place=5 mark=6 -/
noncomputable def m_steps_let : MS := (mSeq (mAsgL 3 (mComp [6] (mRange1 (.m (mBin dIx (.m (mUn (dFld cs_off "sizes") (.v 0))) (.c (.int 2))))) (bName 6) mYes (mCall r_steps_with (mL [(mVar 0), (mVar 6)])))) (mSeq (mAsgL 4 (mLst (mL []))) (mSeq (mFor (mEnum (mBin dIx (.v 1) (.c (.int 0)))) (bTup 2 (bCons (bName 5) (bCons (bName 6) bNil))) (mKill [5, 6] (mIf (mTst (mBin dIn (.v 5) (.v 2))) (mApp 4 (mLstF (mL [(mBin dAdd (.m (mBin dIx (.v 2) (.v 5))) (.m (mTup (mL [(mVar 6)]))))]))) (mApp 4 (mBin dIx (.v 3) (.v 6)))))) (mRet (mVar 4)))))
@[irreducible] noncomputable def r_steps_let : PF := runP 3 7 m_steps_let theorem r_steps_let_df : r_steps_let = runP 3 7 m_steps_let := by unfold r_steps_let; rfl
/-- can_close(office, lets, last): slots office=0 lets=1 last=2 -/
noncomputable def m_can_close : MS := (mRet (mBin dIn (.c (.int 0)) (.m (mBin dIx (.m (mCall r_layers_back (mL [(mVar 0), (mVar 1), (mVar 2)]))) (.c (.int 0))))))
@[irreducible] noncomputable def r_can_close : PF := runP 3 3 m_can_close theorem r_can_close_df : r_can_close = runP 3 3 m_can_close := by unfold r_can_close; rfl
/-- has_tale(office, day, lot): slots office=0 day=1 lot=2 -/
noncomputable def m_has_tale : MS := (mRet (mCall r_can_close (mL [(mVar 0), (mCall r_steps_let (mL [(mVar 0), (mCall r_board_of (mL [(mVar 1)])), (mCall r_fixed_by (mL [(mVar 1), (mVar 2)]))])), (mBin dIx (.v 1) (.c (.int 1)))])))
@[irreducible] noncomputable def r_has_tale : PF := runP 3 3 m_has_tale theorem r_has_tale_df : r_has_tale = runP 3 3 m_has_tale := by unfold r_has_tale; rfl
/-- _law_fact(_law_hand_here, _law_parts_here, _law_most): slots _law_hand_here=0 _law_parts_here=1 _law_most=2 _law_many=3 _law_size=4 _law_moves=5 _law_state=6 _law_step=7 -/
noncomputable def m__law_fact : MS := (mSeq (mAsg 3 (mBin dAdd (.c (.int 1)) (.m (mCallI r__law_draw 0 (mL [(mVar 2)]))))) (mSeq (mAsg 4 (mFn fLen [(.m (mCall r__law_steps_of (mL [(mVar 1)])))])) (mSeq (mAsg 5 (mFn fTuple [(.m (mFrz (mComp [6] (mRange1 (.v 3)) (bName 6) mYes (mFn fTuple [(.m (mFrz (mComp [7] (mRange1 (.v 4)) (bName 7) mYes (mCallI r__law_draw 0 (mL [(mVar 3)])))))]))))])) (mRet (mTup (mL [(mVar 5), (mFn fTuple [(.m (mFrz (mComp [6] (mRange1 (.v 3)) (bName 6) (mTst (mBin dEq (.m (mCallI r__law_draw 0 (mL [(mK (.int 2))]))) (.c (.int 0)))) (mVar 6))))])]))))))
@[irreducible] noncomputable def r__law_fact : IF := runI 3 8 m__law_fact theorem r__law_fact_df : r__law_fact = runI 3 8 m__law_fact := by unfold r__law_fact; rfl
/-- _law_holds(_law_parts_here, _law_fact_here, _law_day): slots _law_parts_here=0 _law_fact_here=1 _law_day=2 _law_steps=3 _law_state=4 _law_step=5 -/
noncomputable def m__law_holds : MS := (mSeq (mAsg 3 (mCall r__law_steps_of (mL [(mVar 0)]))) (mSeq (mAsg 4 (mK (.int 0))) (mSeq (mFor (mItems (mBin dIx (.v 2) (.c (.int 0)))) (bName 5) (mKill [5] (mAsg 4 (mBin dIx (.m (mBin dIx (.m (mBin dIx (.v 1) (.c (.int 0)))) (.v 4))) (.m (mMt dIdxD (.v 3) (.v 5))))))) (mRet (mBin dIn (.v 4) (.m (mBin dIx (.v 1) (.c (.int 1)))))))))
@[irreducible] noncomputable def r__law_holds : PF := runP 3 6 m__law_holds theorem r__law_holds_df : r__law_holds = runP 3 6 m__law_holds := by unfold r__law_holds; rfl
/-- _law_known(_law_hand_here, _law_parts_here): slots _law_hand_here=0 _law_parts_here=1 _law_steps=2 _law_number=3 _law_way=4 _law_row_here=5 _law_many=6 _law_rest=7 _law_k=8 -/
noncomputable def m__law_known : MS := (mSeq (mAsg 2 (mCall r__law_steps_of (mL [(mVar 1)]))) (mSeq (mAsg 3 (mCallI r__law_draw 0 (mL [(mFn fLen [(.v 2)])]))) (mSeq (mAsg 4 (mCallI r__law_draw 0 (mL [(mK (.int 3))]))) (mSeq (mIf (mTst (mBin dEq (.v 4) (.c (.int 0)))) (mRet (mTup (mL [(mTup (mL [(mTup (mL [(mFn fTuple [(.m (mFrz (mComp [8] (mRange1 (.m (mFn fLen [(.v 2)]))) (bName 8) mYes (mFn fInt [(.m (mBin dEq (.v 8) (.v 3)))]))))]), (mBin dRepT (.m (mTup (mL [(mK (.int 1))]))) (.m (mFn fLen [(.v 2)])))])), (mTup (mL [(mK (.int 1))]))])), (mTup (mL [(mK (.int 0)), (mBin dIx (.v 2) (.v 3))]))]))) mPass) (mSeq (mIf (mTst (mBin dEq (.v 4) (.c (.int 1)))) (mSeq (mAsg 6 (mBin dAdd (.c (.int 1)) (.m (mCallI r__law_draw 0 (mL [(mK (.int 10))]))))) (mSeq (mAsg 7 (mCallI r__law_draw 0 (mL [(mVar 6)]))) (mRet (mTup (mL [(mTup (mL [(mFn fTuple [(.m (mFrz (mComp [8] (mRange1 (.v 6)) (bName 8) mYes (mBin dRepT (.m (mTup (mL [(mBin dMod (.m (mFn fInt [(.m (mBin dAdd (.v 8) (.c (.int 1))))])) (.v 6))]))) (.m (mFn fLen [(.v 2)]))))))]), (mTup (mL [(mVar 7)]))])), (mTup (mL [(mK (.int 1)), (mVar 6), (mVar 7)]))]))))) mPass) (mSeq (mAsg 5 (mFn fTuple [(.m (mFrz (mComp [8] (mRange1 (.m (mFn fLen [(.v 2)]))) (bName 8) mYes (mFn fInt [(.m (mBin dEq (.v 8) (.v 3)))]))))])) (mRet (mTup (mL [(mTup (mL [(mTup (mL [(mVar 5), (mVar 5)])), (mTup (mL [(mK (.int 1))]))])), (mTup (mL [(mK (.int 2)), (mBin dIx (.v 2) (.v 3))]))])))))))))
@[irreducible] noncomputable def r__law_known : IF := runI 2 9 m__law_known theorem r__law_known_df : r__law_known = runI 2 9 m__law_known := by unfold r__law_known; rfl
/-- _law_meant(_law_meant_here, _law_day): slots _law_meant_here=0 _law_day=1 -/
noncomputable def m__law_meant : MS := (mSeq (mIf (mTst (mBin dEq (.m (mBin dIx (.v 0) (.c (.int 0)))) (.c (.int 0)))) (mRet (mBin dIn (.m (mBin dIx (.v 0) (.c (.int 1)))) (.m (mBin dIx (.v 1) (.c (.int 0)))))) mPass) (mSeq (mIf (mTst (mBin dEq (.m (mBin dIx (.v 0) (.c (.int 0)))) (.c (.int 1)))) (mRet (mBin dEq (.m (mBin dMod (.m (mFn fLen [(.m (mBin dIx (.v 1) (.c (.int 0))))])) (.m (mBin dIx (.v 0) (.c (.int 1)))))) (.m (mBin dIx (.v 0) (.c (.int 2)))))) mPass) (mRet (mBin dEq (.m (mSl (.m (mBin dIx (.v 1) (.c (.int 0)))) (some (.m (mUn dNeg (.c (.int 1))))) none)) (.m (mTup (mL [(mBin dIx (.v 0) (.c (.int 1)))])))))))
@[irreducible] noncomputable def r__law_meant : PF := runP 2 2 m__law_meant theorem r__law_meant_df : r__law_meant = runP 2 2 m__law_meant := by unfold r__law_meant; rfl
/-- are_states(thing, many): slots thing=0 many=1 state=2 -/
noncomputable def m_are_states : MS := (mRet (mAndV (mFn fIsTy [(.v 0), (.c (.ty "tuple"))]) (mFn fAll [(.m (mFrz (mComp [2] (mItems (mVar 0)) (bName 2) mYes (mCall r_is_within (mL [(mVar 2), (mK (.int 0)), (mBin dSub (.v 1) (.c (.int 1)))])))))])))
@[irreducible] noncomputable def r_are_states : PF := runP 2 3 m_are_states theorem r_are_states_df : r_are_states = runP 2 3 m_are_states := by unfold r_are_states; rfl
/-- is_fact(office, thing): slots office=0 thing=1 many=2 size=3 row=4 -/
noncomputable def m_is_fact : MS := (mSeq (mIf (mOr (mNot (mTst (mCall r_is_pair (mL [(mVar 1)])))) (mOr (mNot (mTst (mFn fIsTy [(.m (mBin dIx (.v 1) (.c (.int 0)))), (.c (.ty "tuple"))]))) (mNot (mTst (mChain dLe dLe (.c (.int 1)) (.m (mFn fLen [(.m (mBin dIx (.v 1) (.c (.int 0))))])) (.c (.int 10))))))) (mRet (mK (.bl false))) mPass) (mSeq (mAsg 2 (mFn fLen [(.m (mBin dIx (.v 1) (.c (.int 0))))])) (mSeq (mAsg 3 (mFn fLen [(.m (mCall r_all_steps (mL [(mVar 0)])))])) (mSeq (mIf (mNot (mTst (mFn fAll [(.m (mFrz (mComp [4] (mItems (mBin dIx (.v 1) (.c (.int 0)))) (bName 4) mYes (mAndV (mCall r_are_states (mL [(mVar 4), (mVar 2)])) (mBin dEq (.m (mFn fLen [(.v 4)])) (.v 3))))))]))) (mRet (mK (.bl false))) mPass) (mRet (mAndV (mCall r_are_states (mL [(mBin dIx (.v 1) (.c (.int 1))), (mVar 2)])) (mCall r_are_ascending (mL [(mBin dIx (.v 1) (.c (.int 1)))]))))))))
@[irreducible] noncomputable def r_is_fact : PF := runP 2 5 m_is_fact theorem r_is_fact_df : r_is_fact = runP 2 5 m_is_fact := by unfold r_is_fact; rfl
/-- check_fact(office, thing): slots office=0 thing=1 -/
noncomputable def m_check_fact : MS := (mIf (mNot (mTst (mCall r_is_fact (mL [(mVar 0), (mVar 1)])))) (mRaise0 "NoFact") mPass)
@[irreducible] noncomputable def r_check_fact : PF := runP 2 2 m_check_fact theorem r_check_fact_df : r_check_fact = runP 2 2 m_check_fact := by unfold r_check_fact; rfl
noncomputable def i_Watcher : OF := fInitS 2 5 [("numbers", (mDcT [3, 4] (mEnum (mCall r_all_steps (mL [(mVar 1)]))) (bTup 2 (bCons (bName 3) (bCons (bName 4) bNil))) mYes (mVar 4) (mVar 3))), ("fact_moves", (mBin dIx (.v 2) (.c (.int 0)))), ("fact_yes", (mBin dIx (.v 2) (.c (.int 1))))]
/-- goes(self, state, step): slots self=0 state=1 step=2 -/
noncomputable def m_Watcher_goes : MS := (mRet (mBin dIx (.m (mBin dIx (.m (mUn (dFld ["Watcher"] "fact_moves") (.v 0))) (.v 1))) (.m (mBin dIx (.m (mUn (dFld ["Watcher"] "numbers") (.v 0))) (.v 2)))))
@[irreducible] noncomputable def r_Watcher_goes : PF := runP 3 3 m_Watcher_goes theorem r_Watcher_goes_df : r_Watcher_goes = runP 3 3 m_Watcher_goes := by unfold r_Watcher_goes; rfl
/-- ends(self, steps): slots self=0 steps=1 state=2 step=3 -/
noncomputable def m_Watcher_ends : MS := (mSeq (mAsg 2 (mK (.int 0))) (mSeq (mFor (mItems (mVar 1)) (bName 3) (mKill [3] (mAsg 2 (mMth "Watcher" "goes" r_Watcher_goes (mVar 0) (mL [(mVar 2), (mVar 3)]))))) (mRet (mVar 2))))
@[irreducible] noncomputable def r_Watcher_ends : PF := runP 2 4 m_Watcher_ends theorem r_Watcher_ends_df : r_Watcher_ends = runP 2 4 m_Watcher_ends := by unfold r_Watcher_ends; rfl
/-- tells(self, state): slots self=0 state=1 -/
noncomputable def m_Watcher_tells : MS := (mRet (mBin dIn (.v 1) (.m (mUn (dFld ["Watcher"] "fact_yes") (.v 0)))))
@[irreducible] noncomputable def r_Watcher_tells : PF := runP 2 2 m_Watcher_tells theorem r_Watcher_tells_df : r_Watcher_tells = runP 2 2 m_Watcher_tells := by unfold r_Watcher_tells; rfl
/-- holds(office, fact, day): slots office=0 fact=1 day=2 watcher=3 -/
noncomputable def m_holds : MS := (mSeq (mDrop (mCall r_check_fact (mL [(mVar 0), (mVar 1)]))) (mSeq (mDrop (mCall r_check_day (mL [(mVar 0), (mVar 2)]))) (mSeq (mAsg 3 (mMake "Watcher" ["numbers", "fact_moves", "fact_yes"] i_Watcher (mL [(mVar 0), (mVar 1)]))) (mRet (mMth "Watcher" "tells" r_Watcher_tells (mVar 3) (mL [(mMth "Watcher" "ends" r_Watcher_ends (mVar 3) (mL [(mBin dIx (.v 2) (.c (.int 0)))]))]))))))
@[irreducible] noncomputable def r_holds : PF := runP 3 4 m_holds theorem r_holds_df : r_holds = runP 3 4 m_holds := by unfold r_holds; rfl
/-- law(_law_script): slots _law_script=0 _law_hand_here=1 _law_turn=2 _law_parts_here=3 _law_office=4 _law_fact_here=5 _law_other=6 _law_plain=7 _law_meant_here=8 _law_again=9 _law_day=10 _law_told=11 _law_state=12 -/
noncomputable def m_law_k29_b0 : MS := (mKill [9, 10, 11] (mSeq (mAsg 10 (mCallI r__law_any_day 1 (mL [(mVar 3), (mCallI r__law_draw 1 (mL [(mBin dIx (.m (mLstF (mL [(mK (.int 3)), (mK (.int 31))]))) (.m (mCallI r__law_draw 1 (mL [(mK (.int 2))]))))]))]))) (mSeq (mIf (mTst (mBin dEq (.m (mCallI r__law_draw 1 (mL [(mK (.int 3))]))) (.c (.int 0)))) (mAsg 10 (mCallI r__law_walk 1 (mL [(mVar 3), (mK (.int 8))]))) mPass) (mSeq (mAsg 11 (mCall r_holds (mL [(mVar 4), (mVar 5), (mVar 10)]))) (mSeq (mIf (mOr (mNot (mTst (mFn fIsTy [(.v 11), (.c (.ty "bool"))]))) (mOr (mTst (mBin dNe (.v 11) (.m (mCall r__law_holds (mL [(mVar 3), (mVar 5), (mVar 10)]))))) (mTst (mBin dEq (.m (mCall r_holds (mL [(mVar 4), (mVar 6), (mVar 10)]))) (.v 11))))) (mRet (mK (.bl false))) mPass) (mSeq (mIf (mTst (mBin dNe (.m (mCall r_holds (mL [(mVar 4), (mVar 7), (mVar 10)]))) (.m (mCall r__law_meant (mL [(mVar 8), (mVar 10)]))))) (mRet (mK (.bl false))) mPass) (mIf (mTst (mBin dNe (.m (mCall r_holds (mL [(mVar 4), (mVar 5), (mTup (mL [(mBin dIx (.v 10) (.c (.int 0))), (mCallI r__law_draw 1 (mL [(mBin dIx (.m (mBin dIx (.v 3) (.c (.int 0)))) (.c (.int 2)))]))]))]))) (.v 11))) (mRet (mK (.bl false))) mPass)))))))
noncomputable def m_law_k29_b1 : MS := (mKill [2, 3, 4, 5, 6, 7, 8, 9, 10, 11] (mSeq (mAsg 3 (mCallI r__law_parts 1 (mL [(mK (.int 3)), (mK (.int 3)), (mK (.int 5))]))) (mSeq (mIf (mTst (mBin dEq (.m (mCallI r__law_draw 1 (mL [(mK (.int 6))]))) (.c (.int 0)))) (mAsg 3 (mTup (mL [(mTup (mL [(mK (.int 4)), (mK (.int 4)), (mK (.int 4))])), (mBin dIx (.v 3) (.c (.int 1))), (mBin dIx (.v 3) (.c (.int 2)))]))) mPass) (mSeq (mAsg 4 (mCall r__law_made (mL [(mVar 3)]))) (mSeq (mAsg 5 (mCallI r__law_fact 1 (mL [(mVar 3), (mK (.int 10))]))) (mSeq (mAsg 6 (mTup (mL [(mBin dIx (.v 5) (.c (.int 0))), (mFn fTuple [(.m (mFrz (mComp [12] (mRange1 (.m (mFn fLen [(.m (mBin dIx (.v 5) (.c (.int 0))))]))) (bName 12) (mTst (mBin dNotIn (.v 12) (.m (mBin dIx (.v 5) (.c (.int 1)))))) (mVar 12))))])]))) (mSeq (mAsgT (bTup 2 (bCons (bName 7) (bCons (bName 8) bNil))) (mCallI r__law_known 1 (mL [(mVar 3)]))) (mSeq (mIf (mTst (mBin dIsNot (.m (mCall r_is_fact (mL [(mVar 4), (mVar 7)]))) (.c (.bl true)))) (mRet (mK (.bl false))) mPass) (mFor (mRange1 (.c (.int 5))) (bName 9) m_law_k29_b0)))))))))
noncomputable def m_law_k29 : MS := (mSeq (mAsgL 1 (mCallO r__law_hand (mL [(mVar 0)]))) (mSeq (mFor (mRange1 (.c (.int 4))) (bName 2) m_law_k29_b1) (mRet (mK (.bl true)))))
end Mi

set_option Elab.async false
set_option linter.all false
set_option maxRecDepth 100000
namespace Mi
open PySem PySem.Spec PyProof.Rows L2

/-! ## small things -/
@[simp] theorem peek_fz {env : Env} {i : Nat} {d : D} (h : env[i]? = some (.fz d)) : peek env i = some d := by unfold peek; rw [h]; rfl
mutual
/-- data of the built-in kinds -/
def okD : D → Bool
  | .tup ds => decide (ds.length ≤ 1000000) && okL ds
  | .lst ds => okL ds
  | .dic t _ _ => !t
  | .obj c _ _ => decide (c = "Office")
  | .glo _ => false
  | .ty _ => false
  | _ => true
def okL : List D → Bool
  | [] => true
  | d :: ds => okD d && okL ds
end
theorem okD_tup {ds : List D} : okD (.tup ds) = true ↔ ds.length ≤ 1000000 ∧ okL ds = true := by
  rw [okD, Bool.and_eq_true, decide_eq_true_eq]
theorem okL_mem : ∀ {ds : List D}, okL ds = true → ∀ d ∈ ds, okD d = true
  | d :: ds, h, x, hx => by
    unfold okL at h
    rw [Bool.and_eq_true] at h
    rcases List.mem_cons.mp hx with rfl | hx
    · exact h.1
    · exact okL_mem h.2 x hx
def isI : D → Bool
  | .int _ => true
  | _ => false
def isB : D → Bool
  | .bl _ => true
  | _ => false
def isT : D → Bool
  | .tup _ => true
  | _ => false
theorem ty_int {x : D} (h : okD x = true) : fIsTy [x, .ty "int"] = some (.bl (isI x || isB x)) := by
  cases x <;> simp [okD] at h <;> simp [fIsTy, tyName, isTy, isI, isB, isB6, h]
theorem ty_bool {x : D} (h : okD x = true) : fIsTy [x, .ty "bool"] = some (.bl (isB x)) := by
  cases x <;> simp [okD] at h <;> simp [fIsTy, tyName, isTy, isI, isB, isB6, h]
theorem ty_tuple {x : D} (h : okD x = true) : fIsTy [x, .ty "tuple"] = some (.bl (isT x)) := by
  cases x <;> simp [okD] at h <;> simp [fIsTy, tyName, isTy, isT, isB6, h]
def inD (x : D) (a b : Int) : Bool := match x with
  | .int i => decide (a ≤ i) && decide (i ≤ b)
  | _ => false
theorem r_is_integer_eq {x : D} (h : okD x = true) : r_is_integer [x] = .ok (.bl (isI x)) := by
  rw [r_is_integer_df]
  refine runP_ok rfl (show wE (m_is_integer [.fz x]) _ from ?_)
  simp [m_is_integer, peek, peekS, ty_int h, ty_bool h]
  cases x <;> simp [isI, isB]
theorem r_is_within_eq {x : D} {a b : Int} (h : okD x = true) : r_is_within [x, .int a, .int b] = .ok (.bl (inD x a b)) := by
  rw [r_is_within_df]
  refine runP_ok rfl (show wE (m_is_within [.fz x, .fz (.int a), .fz (.int b)]) _ from ?_)
  simp [m_is_within, r_is_integer_eq h, peek, peekS]
  cases x <;> simp [isI, inD]
  split <;> intros <;> omega
def isTn (n : Nat) : D → Bool
  | .tup ds => decide (ds.length = n)
  | _ => false
theorem r_is_triple_eq {x : D} (h : okD x = true) : r_is_triple [x] = .ok (.bl (isTn 3 x)) := by
  rw [r_is_triple_df]
  refine runP_ok rfl (show wE (m_is_triple [.fz x]) _ from ?_)
  simp [m_is_triple, peek, peekS, ty_tuple h]
  cases x <;> simp [isT, isTn, fLen]
  rename_i xs
  by_cases e : xs.length = 3
  · simp [e]
  · simp [e]; omega
end Mi

set_option Elab.async false
set_option linter.all false
set_option maxRecDepth 100000
namespace Mi
open PySem PySem.Spec PyProof.Rows L2

theorem r_is_pair_eq {x : D} (h : okD x = true) : r_is_pair [x] = .ok (.bl (isTn 2 x)) := by
  rw [r_is_pair_df]
  refine runP_ok rfl (show wE (m_is_pair [.fz x]) _ from ?_)
  simp [m_is_pair, peek, peekS, ty_tuple h]
  cases x <;> simp [isT, isTn, fLen]
  rename_i xs
  by_cases e : xs.length = 2
  · simp [e]
  · simp [e]; omega
end Mi

set_option Elab.async false
set_option linter.all false
set_option maxRecDepth 100000
set_option maxHeartbeats 1000000
namespace Mi
open PySem PySem.Spec PyProof.Rows L2

theorem w_mid {a b : MS} {env : Env} {Q : Fl → Env → Prop} (R : Env → Prop) (h1 : wE (a env) fun f e => f = .nx ∧ R e) (h2 : ∀ e, R e → wE (b e) Q) : wE (mSeq a b env) Q := by
  rw [w_mSeq]
  refine h1.imp fun f e h => ?_
  obtain ⟨rfl, h⟩ := h
  exact h2 e h
theorem w_mid2 {a b : MS} {env : Env} {Q : Fl → Env → Prop} (R : Env → Prop) (h1 : wE (a env) fun f e => flM f (R e) fun f => Q f e) (h2 : ∀ e, R e → wE (b e) Q) : wE (mSeq a b env) Q := by
  rw [w_mSeq]
  refine h1.imp fun f e h => ?_
  cases f with
  | nx => exact h2 e h
  | _ => exact h
@[simp] theorem dIx_lst (ds : List D) (i : Int) : dIx (.lst ds) (.int i) = atI ds i := rfl
@[simp] theorem dIx_tup (ds : List D) (i : Int) : dIx (.tup ds) (.int i) = atI ds i := rfl
theorem atI_of {α : Type} {ds : List α} {i : Int} (k : Nat) (h : i = (k : Int)) : atI ds i = ds[k]? := by
  subst h
  unfold atI ixN
  rw [if_pos (by omega)]
  by_cases hk : k < ds.length
  · rw [if_pos (by omega)]; simp
  · rw [if_neg (by omega)]; simp; omega
@[simp] theorem dAdd_int (a b : Int) : dAdd (.int a) (.int b) = some (.int (a + b)) := rfl
@[simp] theorem dSub_int (a b : Int) : dSub (.int a) (.int b) = some (.int (a - b)) := rfl
@[simp] theorem fInt_int (a : Int) : fInt [.int a] = some (.int a) := rfl
@[simp] theorem fLen_lst (ds : List D) : fLen [.lst ds] = some (.int ds.length) := rfl
@[simp] theorem fLen_tup (ds : List D) : fLen [.tup ds] = some (.int ds.length) := rfl
theorem dMul_of {a b : Int} (h : (-(2 ^ 64) < a ∧ a < 2 ^ 64) ∨ (-(2 ^ 64) < b ∧ b < 2 ^ 64)) : dMul (.int a) (.int b) = some (.int (a * b)) := by
  show (if decide _ = true then _ else _) = _
  rw [if_pos (decide_eq_true h)]
theorem dMod_of {a b : Int} (h : 0 < b) : dMod (.int a) (.int b) = some (.int (a % b)) := by
  show (if decide _ = true then _ else _) = _
  rw [if_pos (decide_eq_true h)]
theorem dDiv_of {a b : Int} (h : 0 < b) (h2 : b < 1073741824) : dDiv (.int a) (.int b) = some (.int (a / b)) := by
  show (if decide _ = true then _ else _) = _
  rw [if_pos (decide_eq_true ⟨h, h2⟩)]
@[simp] theorem dMul_r (a : Int) : dMul (.int a) (.int 69621) = some (.int (a * 69621)) := dMul_of (.inr (by decide))
@[simp] theorem dMul_r2 (a : Int) : dMul (.int a) (.int 48271) = some (.int (a * 48271)) := dMul_of (.inr (by decide))
@[simp] theorem dMul_l (a : Int) : dMul (.int 7919) (.int a) = some (.int (7919 * a)) := dMul_of (.inl (by decide))
@[simp] theorem dMod_1 (a : Int) : dMod (.int a) (.int 2147483629) = some (.int (a % 2147483629)) := dMod_of (by decide)
@[simp] theorem dMod_2 (a : Int) : dMod (.int a) (.int 2147483647) = some (.int (a % 2147483647)) := dMod_of (by decide)
@[simp] theorem dMod_3 (a : Int) : dMod (.int a) (.int 2147483399) = some (.int (a % 2147483399)) := dMod_of (by decide)
@[simp] theorem dDiv_1 (a : Int) : dDiv (.int a) (.int 1009) = some (.int (a / 1009)) := dDiv_of (by decide) (by decide)
@[simp] theorem dDiv_2 (a : Int) : dDiv (.int a) (.int 2003) = some (.int (a / 2003)) := dDiv_of (by decide) (by decide)
@[simp] theorem dDiv_3 (a : Int) : dDiv (.int a) (.int 16) = some (.int (a / 16)) := dDiv_of (by decide) (by decide)
@[simp] theorem dPow_18 : dPow (.int 10) (.int 18) = some (.int 1000000000000000000) := rfl
@[simp] theorem rngD_len (lo : Int) (n : Nat) : (rngD lo n).length = n := rngD_length
theorem for_rng0 {b : Bd} {body : MS} {Q : Fl → Env → Prop} (I : Nat → Env → Prop) {n : Nat} (step : ∀ k env, k < n → I k env → ∃ e1, b (.int (k : Int)) env = some e1 ∧ wE (body e1) fun f e2 => match f with
    | .nx => I (k + 1) e2
    | .ct => I (k + 1) e2
    | .br => Q .nx e2
    | f => Q f e2) (fin : ∀ env, I n env → Q .nx env) {env : Env} (h : I 0 env) : wE (mForGo b body (rngD 0 n) env) Q :=
  for_rng I (fun k env hk hI => by rw [Int.zero_add]; exact step k env hk hI) fin h
theorem comp_rng0 {vs : List Nat} {b : Bd} {t : MT} {m : ME} {Q : List D → Env → Prop} {n : Nat} (I : Nat → List D → Env → Prop)
    (step : ∀ k acc env, k < n → I k acc env → ∃ e1, b (.int (k : Int)) env = some e1 ∧ wE (t e1) fun c e2 => if c = true then wE (m e2) fun y e3 => I (k + 1) (acc ++ [y]) (killAll vs e3) else I (k + 1) acc (killAll vs e2))
    (fin : ∀ acc env, I n acc env → Q acc env) {env : Env} (h : I 0 [] env) : wE (compGo vs b t m (rngD 0 n) env) Q :=
  comp_rng I (fun k acc env hk hI => by rw [Int.zero_add]; exact step k acc env hk hI) fin h
theorem rng0 (n : Nat) : rngD 0 n = (List.range n).map fun (i : Nat) => .int (i : Int) := by
  rw [rngD_map]
  refine List.map_congr_left fun i _ => ?_
  rw [Int.zero_add]
structure GoodH (h : List D) : Prop where
  ex : ∃ (cells : List Int) (i : Nat) (big seed cnt : Int), h = [.lst (cells.map .int), .int i, .int big, .int seed, .int cnt] ∧ cells.length ≤ 63 ∧ (∀ c ∈ cells, 0 ≤ c) ∧ 0 ≤ big ∧ 0 ≤ seed ∧ 0 ≤ cnt
theorem draw_ok {h : List D} (g : GoodH h) {m : Int} (h0 : 0 < m) (h1 : m < 1073741824) : ∃ d h', r__law_draw h [.int m] = .ok d h' ∧ GoodH h' ∧ ∃ k, d = .int k ∧ 0 ≤ k ∧ k < m := by
  rw [r__law_draw_df]
  refine runI_ex rfl (show wE (m__law_draw [.io h, .fz (.int m), .dead, .dead, .dead]) _ from ?_)
  unfold m__law_draw
  refine w_mid (fun e => ∃ h' s, GoodH h' ∧ e = [.io h', .fz (.int m), .dead, s, .dead]) ?_ ?_
  · obtain ⟨cells, i, big, seed, cnt, rfl, hl, hc, hb, hs, hn⟩ := g.ex
    simp [peek, peekS, atI, ixN]
    split
    · split
      · rename_i hi
        simp only [Option.bind_some, List.getElem?_eq_getElem hi, Option.map_some]
        have hci := hc cells[i] (List.getElem_mem hi)
        generalize cells[i] = c at hci
        simp
        have q := Int.emod_nonneg (seed * 69621 + c + 11) (show (2147483629 : Int) ≠ 0 by decide)
        split
        · exact ⟨_, i + 1, c, _, cnt, rfl, hl, hc, hci, q, hn⟩
        · exact ⟨_, i + 1, big, _, cnt, rfl, hl, hc, hb, q, hn⟩
      · exact g
    · exact g
  rintro e ⟨h, s, g, rfl⟩
  refine w_mid2 (fun e => ∃ h' s, GoodH h' ∧ e = [.io h', .fz (.int m), .dead, s, .dead]) ?_ ?_
  · obtain ⟨cells, i, big, seed, cnt, rfl, hl, hc, hb, hs, hn⟩ := g.ex
    simp [peek, peekS, atI, ixN]
    split
    · rw [dMod_of h0, dDiv_of h0 h1]
      simp
      exact ⟨⟨_, i, big / m, seed, cnt, rfl, hl, hc, Int.ediv_nonneg hb (by omega), hs, hn⟩, Int.emod_nonneg big (by omega), Int.emod_lt_of_pos big h0⟩
    · exact g
  rintro e ⟨h, s, g, rfl⟩
  refine w_mid (fun e => ∃ h' s, GoodH h' ∧ e = [.io h', .fz (.int m), .dead, s, .dead]) ?_ ?_
  · obtain ⟨cells, i, big, seed, cnt, rfl, hl, hc, hb, hs, hn⟩ := g.ex
    simp [peek, peekS, atI, ixN]
    exact ⟨_, i, big, seed, cnt + 1, rfl, hl, hc, hb, hs, by omega⟩
  rintro e ⟨h, s, g, rfl⟩
  refine w_mid (fun e => ∃ n s, (0 ≤ n ∧ n < 2147483647) ∧ e = [.io h, .fz (.int m), .fz (.int n), s, .dead]) ?_ ?_
  · obtain ⟨cells, i, big, seed, cnt, rfl, hl, hc, hb, hs, hn⟩ := g.ex
    simp [peek, peekS, atI, ixN]
    omega
  rintro e ⟨n, s, hn, rfl⟩
  refine w_mid (fun e => ∃ n s, (0 ≤ n ∧ n < 2147483647) ∧ e = [.io h, .fz (.int m), .fz (.int n), s, .dead]) ?_ ?_
  · simp [peek, peekS]
    rw [dMul_of (.inl (by omega))]
    simp
    omega
  rintro e ⟨n, s, hn, rfl⟩
  refine w_mid (fun e => ∃ n s, (0 ≤ n ∧ n < 2147483647) ∧ e = [.io h, .fz (.int m), .fz (.int n), s, .dead]) ?_ ?_
  · simp [peek, peekS]
    rw [dMul_of (.inl (by omega))]
    simp
    omega
  rintro e ⟨n, s, hn, rfl⟩
  simp [peek, peekS]
  rw [dMod_of h0]
  simp
  exact ⟨g, Int.emod_nonneg _ (by omega), Int.emod_lt_of_pos _ h0⟩
end Mi

set_option Elab.async false
set_option linter.all false
set_option maxRecDepth 100000
set_option maxHeartbeats 1000000
namespace Mi
open PySem PySem.Spec PyProof.Rows L2

/-! ## the hand -/
theorem hand_ok (ns : List Int) (hn : ns.length ≤ 63) : ∃ h, r__law_hand [.lst (ns.map .int)] = .ok h ∧ GoodH h := by
  rw [r__law_hand_df]
  refine ⟨[.lst ((ns.map fun i => if i < 0 then -i else i).map .int), .int 0, .int 0, .int (1 + ns.length), .int 0], runO_ok rfl (show wE (m__law_hand [.fz (.lst (ns.map .int)), .dead, .dead]) _ from ?_), ?_⟩
  · unfold m__law_hand
    have hcut : cutD (ns.map .int) none (some 63) = ns.map .int := by
      unfold cutD
      have : HT.sIx (ns.map D.int).length 0 none = 0 := rfl
      rw [this]
      have h2 : HT.sIx (ns.map D.int).length (ns.map D.int).length (some 63) = ns.length := by
        simp [HT.sIx]
        omega
      rw [h2]
      simp only [List.drop_zero, Nat.sub_zero]
      exact List.take_of_length_le (by simp)
    simp [peek, peekS, dSl, hcut]
    refine ⟨by show _ ≤ 1000000; omega, comp_all (fun i => .int (if i < 0 then -i else i)) (fun i hi => ?_) ?_⟩
    · simp [peek, peekS, fAbs]
    · simp [peek, peekS]
      show 5 ≤ 1000000; omega
  · refine ⟨_, 0, 0, _, 0, rfl, by simpa using hn, fun c hc => ?_, by omega, by omega, by omega⟩
    obtain ⟨i, _, rfl⟩ := List.mem_map.mp hc
    split <;> omega
theorem draw_step {h : List D} (g : GoodH h) {m : Int} (h0 : 0 < m) (h1 : m < 1073741824) {k : D → List D → Prop} (q : ∀ n h', GoodH h' → 0 ≤ n → n < m → k (.int n) h') : irM (r__law_draw h [.int m]) k := by
  obtain ⟨d, h', e, g', n, rfl, a, b⟩ := draw_ok g h0 h1
  rw [e]
  exact q n h' g' a b
theorem runI_step {f : IF} {xs ds : List D} {P : D → List D → Prop} (h : ∃ d xs', f xs ds = .ok d xs' ∧ P d xs') {k : D → List D → Prop} (q : ∀ d xs', P d xs' → k d xs') : irM (f xs ds) k := by
  obtain ⟨d, xs', e, p⟩ := h
  rw [e]
  exact q d xs' p
@[simp] theorem lim_val : lim = 1000000 := rfl
/-! ## moves and rows -/
abbrev S3 := Int × Int × Int
def szD (s : S3) : D := .tup [.int s.1, .int s.2.1, .int s.2.2]
@[simp] theorem dIx_sz0 (s : S3) : dIx (szD s) (.int 0) = some (.int s.1) := rfl
@[simp] theorem dIx_sz1 (s : S3) : dIx (szD s) (.int 1) = some (.int s.2.1) := rfl
@[simp] theorem dIx_sz2 (s : S3) : dIx (szD s) (.int 2) = some (.int s.2.2) := rfl
@[simp] theorem dIx_mv0 (m : Mv) : dIx (mvD m) (.int 0) = some (.int m.1) := rfl
@[simp] theorem dIx_mv1 (m : Mv) : dIx (mvD m) (.int 1) = some (.int m.2.1) := rfl
@[simp] theorem dIx_mv2 (m : Mv) : dIx (mvD m) (.int 2) = some (.int m.2.2.1) := rfl
@[simp] theorem dIx_mv3 (m : Mv) : dIx (mvD m) (.int 3) = some (.int m.2.2.2) := rfl
structure MvOk (s : S3) (goals : Int) (m : Mv) : Prop where
  a : 0 ≤ m.1 ∧ m.1 < s.1
  b : 0 ≤ m.2.1 ∧ m.2.1 < s.2.1
  c : 0 ≤ m.2.2.1 ∧ m.2.2.1 < s.2.2
  d : 0 ≤ m.2.2.2 ∧ m.2.2.2 < goals
theorem mv_it (m : Mv) : itN 1 (mvD m) = true := rfl
theorem mv_al (m n : Mv) : alD (mvD m) (mvD n) = true := rfl
theorem mv_inj {m n : Mv} (h : mvD m = mvD n) : m = n := by
  obtain ⟨a, b, c, d⟩ := m
  obtain ⟨a', b', c', d'⟩ := n
  simp [mvD] at h
  obtain ⟨rfl, rfl, rfl, rfl⟩ := h
  rfl
theorem eqD_mv (m n : Mv) : eqD (mvD m) (mvD n) = decide (m = n) := by
  by_cases h : m = n
  · subst h; rw [decide_eq_true rfl]; exact eqD_refl_it (mv_it m)
  · rw [decide_eq_false h]
    cases e : eqD (mvD m) (mvD n) with
    | false => rfl
    | true => exact absurd (mv_inj ((eqD_it (mv_it m) (mv_it n)).mp e)) h
theorem lvl_list {n : Nat} {ds : List D} (h : ∀ d ∈ ds, lvl n d = true) : lvl (n + 1) (.lst ds) = true := by
  show ds.all (lvl n) = true
  rw [List.all_eq_true]; exact h
theorem notIn_mv (m : Mv) (row : List Mv) : dNotIn (mvD m) (.lst (row.map mvD)) = some (.bl (!decide (m ∈ row))) := by
  unfold dNotIn dInB
  simp only []
  rw [if_pos ⟨rfl, lvl_mono 2 60 _ (by decide) (lvl_list fun d hd => by obtain ⟨x, _, rfl⟩ := List.mem_map.mp hd; rfl)⟩]
  simp only [Option.map_some]
  congr 3
  rw [List.any_map]
  by_cases h : m ∈ row
  · rw [decide_eq_true h, List.any_eq_true]
    exact ⟨m, h, by simp [eqD_mv]⟩
  · rw [decide_eq_false h, List.any_eq_false]
    intro x hx
    simp [eqD_mv]
    intro e
    subst e
    exact h hx
theorem srtOk_mv (row : List Mv) : srtOk (row.map mvD) = true := by
  unfold srtOk
  simp only [Bool.and_eq_true, Bool.or_eq_true, List.all_eq_true, List.mem_map]
  refine ⟨⟨?_, ?_⟩, .inl ?_⟩
  · rintro x ⟨m, _, rfl⟩; rfl
  · rintro x ⟨m, _, rfl⟩ y ⟨n, _, rfl⟩; rfl
  · rintro x ⟨m, _, rfl⟩; rfl
theorem fSorted_lst {ds : List D} (h1 : ds.length ≤ 1000000) (h2 : srtOk ds = true) : fSorted [.lst ds] = some (.lst (srtD ds)) := by
  show (if ds.length ≤ lim ∧ (ds.length < 2 ∨ srtOk ds = true) then _ else _) = _
  rw [if_pos ⟨h1, .inr h2⟩]
/-- the moves of a row, sorted -/
theorem sort_mv (row : List Mv) (nd : row.Nodup) (hl : row.length ≤ 1000000) : ∃ row' : List Mv, fSorted [.lst (row.map mvD)] = some (.lst (row'.map mvD)) ∧ row'.Perm row ∧ row'.Pairwise fun x y => ltD (mvD x) (mvD y) = true := by
  obtain ⟨row', p, e⟩ := map_perm (srtD_perm (row.map mvD))
  have ndm : (row.map mvD).Nodup := by
    refine List.nodup_iff_pairwise_ne.mpr (List.pairwise_map.mpr ?_)
    exact (List.nodup_iff_pairwise_ne.mp nd).imp fun h e => h (mv_inj e)
  refine ⟨row', ?_, p, ?_⟩
  · rw [fSorted_lst (by rw [List.length_map]; exact hl) (srtOk_mv row), e]
  · have := srtD_strict (n := 1) (ds := row.map mvD) (fun d hd => by obtain ⟨m, _, rfl⟩ := List.mem_map.mp hd; rfl) (fun x hx y hy => by obtain ⟨m, _, rfl⟩ := List.mem_map.mp hx; obtain ⟨n, _, rfl⟩ := List.mem_map.mp hy; rfl) ndm
    rw [e] at this
    exact List.pairwise_map.mp this
structure RowOk (s : S3) (goals : Int) (row : List Mv) : Prop where
  mv : ∀ m ∈ row, MvOk s goals m
  asc : row.Pairwise fun x y => ltD (mvD x) (mvD y) = true
theorem RowOk.nodup {s : S3} {goals : Int} {row : List Mv} (r : RowOk s goals row) : row.Nodup :=
  List.nodup_iff_pairwise_ne.mpr (r.asc.imp fun h e => by subst e; rw [ltD_irrefl] at h; cases h)
structure SzOk (s : S3) : Prop where
  a : 1 ≤ s.1 ∧ s.1 ≤ 4
  b : 1 ≤ s.2.1 ∧ s.2.1 ≤ 4
  c : 1 ≤ s.2.2 ∧ s.2.2 ≤ 4
theorem notIn_row {n1 n2 n3 n4 : Int} {row : List Mv} : dNotIn (.tup [.int n1, .int n2, .int n3, .int n4]) (.lst (row.map mvD)) = some (.bl (!decide ((n1, n2, n3, n4) ∈ row))) := notIn_mv (n1, n2, n3, n4) row
structure RowIn (s : S3) (goals : Int) (k : Nat) (mk : List D → List D → Env) (e : Env) : Prop where
  ex : ∃ (h' : List D) (row : List Mv), GoodH h' ∧ e = mk h' (row.map mvD) ∧ row.length ≤ k ∧ row.Nodup ∧ ∀ m ∈ row, MvOk s goals m
theorem row_ok {h : List D} (g : GoodH h) {s : S3} (hs : SzOk s) {many goals : Int} (hm : 0 ≤ many ∧ many ≤ 100) (hg : 0 < goals ∧ goals ≤ 100) :
    ∃ d h', r__law_row h [szD s, .int many, .int goals] = .ok d h' ∧ GoodH h' ∧ ∃ row : List Mv, d = rowD row ∧ row.length ≤ 100 ∧ RowOk s goals row := by
  obtain ⟨s1, s2, s3⟩ := s
  have a1 := hs.a
  have a2 := hs.b
  have a3 := hs.c
  simp only at a1 a2 a3
  rw [r__law_row_df]
  refine runI_ex rfl (show wE (m__law_row [.io h, .fz (szD (s1, s2, s3)), .fz (.int many), .fz (.int goals), .dead, .dead, .dead]) _ from ?_)
  unfold m__law_row
  refine w_mid (fun e => e = [.io h, .fz (szD (s1, s2, s3)), .fz (.int many), .fz (.int goals), .ol [], .dead, .dead]) (by simp) ?_
  rintro e rfl
  refine w_mid (RowIn (s1, s2, s3) goals 100 fun h r => [.io h, .fz (szD (s1, s2, s3)), .fz (.int many), .fz (.int goals), .ol r, .dead, .dead]) ?_ ?_
  · simp [peek, peekS]
    refine ⟨by omega, for_rng0 (fun k e => RowIn (s1, s2, s3) goals k (fun h r => [.io h, .fz (szD (s1, s2, s3)), .fz (.int many), .fz (.int goals), .ol r, .dead, .dead]) e) (fun k e hk I => ?_) (fun e I => ?_) ⟨h, [], g, rfl, by simp, by simp, by simp⟩⟩
    · obtain ⟨h', row, g', he, hl, nd, hr⟩ := I
      subst he
      refine ⟨_, rfl, ?_⟩
      simp [peek, peekS]
      refine draw_step g' (by omega) (by omega) fun n1 h1 g1 b1 c1 => ?_
      refine draw_step g1 (by omega) (by omega) fun n2 h2 g2 b2 c2 => ?_
      refine draw_step g2 (by omega) (by omega) fun n3 h3 g3 b3 c3 => ?_
      refine draw_step g3 (by omega) (by omega) fun n4 h4 g4 b4 c4 => ?_
      rw [notIn_row]
      simp
      by_cases hin : (n1, n2, n3, n4) ∈ row
      · simp [hin]
        exact ⟨h4, row, g4, rfl, by omega, nd, hr⟩
      · simp [hin]
        refine ⟨by omega, h4, row ++ [(n1, n2, n3, n4)], g4, by simp [mvD], by simp; omega, ?_, ?_⟩
        · rw [List.nodup_append]
          exact ⟨nd, by simp, fun a ha b hb => by simp at hb; subst hb; exact fun e => hin (e ▸ ha)⟩
        · intro m hm
          rcases List.mem_append.mp hm with hm | hm
          · exact hr m hm
          · simp at hm; subst hm; exact ⟨⟨b1, c1⟩, ⟨b2, c2⟩, ⟨b3, c3⟩, ⟨b4, c4⟩⟩
    · obtain ⟨h', row, g', he, hl, nd, hr⟩ := I
      exact ⟨rfl, h', row, g', he, by omega, nd, hr⟩
  · rintro e ⟨h', row, g', rfl, hl, nd, hr⟩
    obtain ⟨row', e1, p, asc⟩ := sort_mv row nd (by omega)
    have hl' : row'.length ≤ 100 := by rw [p.length_eq]; exact hl
    simp [peek, peekS, e1, fTuple]
    exact ⟨g', row', rfl, hl', ⟨fun m hm => hr m (p.mem_iff.mp hm), asc⟩⟩
end Mi

set_option Elab.async false
set_option linter.all false
set_option maxRecDepth 100000
set_option maxHeartbeats 1000000
namespace Mi
open PySem PySem.Spec PyProof.Rows L2

@[simp] theorem w_mCompP {i : Nat} {vs : List Nat} {b : Bd} {t : MT} {m : ME} {env : Env} {Q : List D → Env → Prop} : wE (mCompP i vs b t m env) Q = (match env[i]? with
    | some (.ol ds) => ds.length ≤ lim ∧ wE (compGo vs b t m ds (killAll vs (env.set i .dead))) fun r e1 => Q r (e1.set i (.ol ds))
    | _ => False) := by
  unfold mCompP
  cases env[i]? with
  | none => rfl
  | some s =>
    cases s with
    | ol ds =>
      simp only []
      by_cases h : ds.length ≤ lim
      · rw [if_pos h, w_bind]
        simp only [h, true_and]
        cases compGo vs b t m ds (killAll vs (env.set i .dead)) <;> rfl
      · rw [if_neg h, w_bad, eq_false h, false_and]
    | _ => rfl
def clD (c : List Int) : D := .tup (c.map .int)
structure ClOk (m : Int) (c : List Int) : Prop where
  asc : c.Pairwise (· < ·)
  rng : ∀ x ∈ c, 0 ≤ x ∧ x < m
theorem ClOk.len {m : Int} {c : List Int} (h : ClOk m c) (h4 : m ≤ 1000) : c.length ≤ 1000 := by
  have key : ∀ (c : List Int) (lo : Int), c.Pairwise (· < ·) → (∀ x ∈ c, lo ≤ x ∧ x < m) → (c.length : Int) ≤ m - lo ∨ c = [] := by
    intro c
    induction c with
    | nil => intro _ _ _; exact .inr rfl
    | cons a c ih =>
      intro lo hp hr
      have ha := hr a List.mem_cons_self
      rcases ih (a + 1) hp.tail fun x hx => ⟨by have := List.rel_of_pairwise_cons hp hx; omega, (hr x (List.mem_cons_of_mem _ hx)).2⟩ with h | h
      · left; rw [List.length_cons]; push_cast; omega
      · left; subst h; simp; omega
  rcases key c 0 h.asc h.rng with q | q
  · omega
  · subst q; simp
/-- an office's parts -/
structure Pt where
  sz : S3
  rows : List (List Mv)
  cls : List (List Int)
def ptD (p : Pt) : D := .tup [szD p.sz, .tup (p.rows.map rowD), .tup (p.cls.map clD)]
structure RowsOk (s : S3) (goals : Int) (rows : List (List Mv)) : Prop where
  row : ∀ r ∈ rows, r.length ≤ 200 ∧ RowOk s goals r
structure PtOk (p : Pt) : Prop where
  sz : SzOk p.sz
  n : 1 ≤ p.rows.length ∧ p.rows.length ≤ 20
  e : p.cls.length = p.rows.length
  rows : RowsOk p.sz p.rows.length p.rows
  cl : ∀ c ∈ p.cls, ClOk p.sz.2.2 c
structure PIn (s : S3) (n : Int) (k : Nat) (mk : List D → List D → List D → Env) (e : Env) : Prop where
  ex : ∃ (h : List D) (rows : List (List Mv)) (cls : List (List Int)), GoodH h ∧ e = mk h (rows.map rowD) (cls.map clD) ∧ rows.length = k ∧ cls.length = k ∧ RowsOk s n rows ∧ ∀ c ∈ cls, ClOk s.2.2 c
structure HIn (mk : List D → Env) (e : Env) : Prop where
  ex : ∃ h, GoodH h ∧ e = mk h
structure BIn (mk : Bool → List D → Env) (e : Env) : Prop where
  ex : ∃ b h, GoodH h ∧ e = mk b h
structure AIn (lo hi : Int) (k : Nat) (acc : List D) (mk : List D → Env) (e : Env) : Prop where
  ex : ∃ h c, GoodH h ∧ e = mk h ∧ acc = List.map D.int c ∧ c.length = k ∧ ∀ x ∈ c, lo ≤ x ∧ x ≤ hi
structure ClIn (k : Nat) (acc : List D) (mk : List D → Env) (e : Env) : Prop where
  ex : ∃ h c, GoodH h ∧ e = mk h ∧ acc = c.map .int ∧ ClOk k c
theorem fSz (s : S3) : fTuple [.lst [.int s.1, .int s.2.1, .int s.2.2]] = some (szD s) := rfl
theorem parts_okZ {h : List D} (g : GoodH h) {most size moves : Int} (hm : 1 ≤ most ∧ most ≤ 20) (hs : 1 ≤ size ∧ size ≤ 4) (hv : 0 ≤ moves ∧ moves ≤ 20) :
    ∃ d h', r__law_parts h [.int most, .int size, .int moves] = .ok d h' ∧ GoodH h' ∧ ∃ p, d = ptD p ∧ PtOk p ∧ (p.sz.1 ≤ size ∧ p.sz.2.1 ≤ size ∧ p.sz.2.2 ≤ size) := by
  rw [r__law_parts_df]
  refine runI_ex rfl (show wE (m__law_parts [.io h, .fz (.int most), .fz (.int size), .fz (.int moves), .dead, .dead, .dead, .dead, .dead, .dead, .dead, .dead, .dead, .dead, .dead]) _ from ?_)
  unfold m__law_parts
  refine w_mid (fun e => ∃ s : S3, (SzOk s ∧ s.1 ≤ size ∧ s.2.1 ≤ size ∧ s.2.2 ≤ size) ∧ HIn (fun h => [.io h, .fz (.int most), .fz (.int size), .fz (.int moves), .fz (szD s), .dead, .dead, .dead, .dead, .dead, .dead, .dead, .dead, .dead, .dead]) e) ?_ ?_
  · simp [peek, peekS, killAll]
    refine comp_rng0 (fun k acc e => AIn 1 size k acc (fun h => [.io h, .fz (.int most), .fz (.int size), .fz (.int moves), .dead, .dead, .dead, .dead, .dead, .dead, .dead, .dead, .dead, .dead, .dead]) e) (fun k acc e hk I => ?_) (fun acc e I => ?_) ⟨h, [], g, rfl, rfl, rfl, by simp⟩
    · obtain ⟨h, c, g, rfl, rfl, hl, hc⟩ := I
      refine ⟨_, rfl, ?_⟩
      simp [peek, peekS]
      refine draw_step g (by omega) (by omega) fun n1 h1 g1 b1 c1 => ?_
      simp [killAll]
      refine ⟨h1, c ++ [1 + n1], g1, rfl, by simp, by simp [hl], fun x hx => ?_⟩
      rcases List.mem_append.mp hx with hx | hx
      · exact hc x hx
      · have : x = 1 + n1 := by simpa using hx
        omega
    · obtain ⟨h, c, g, rfl, rfl, hl, hc⟩ := I
      obtain ⟨a, b, d, rfl⟩ : ∃ a b d, c = [a, b, d] := by
        match c, hl with
        | [a, b, d], _ => exact ⟨a, b, d, rfl⟩
      simp [fTuple]
      have ha := hc a (by simp)
      have hb := hc b (by simp)
      have hd := hc d (by simp)
      exact ⟨a, b, d, ⟨⟨⟨ha.1, Int.le_trans ha.2 hs.2⟩, ⟨hb.1, Int.le_trans hb.2 hs.2⟩, ⟨hd.1, Int.le_trans hd.2 hs.2⟩⟩, ha.2, hb.2, hd.2⟩, h, g, rfl⟩
  rintro e ⟨s, ⟨hsz, hle⟩, h, g, rfl⟩
  have a1 := hsz.a
  have a2 := hsz.b
  have a3 := hsz.c
  refine w_mid (fun e => ∃ n : Int, (1 ≤ n ∧ n ≤ 20) ∧ HIn (fun h => [.io h, .fz (.int most), .fz (.int size), .fz (.int moves), .fz (szD s), .fz (.int n), .dead, .dead, .dead, .dead, .dead, .dead, .dead, .dead, .dead]) e) ?_ ?_
  · simp [peek, peekS]
    refine draw_step g (by omega) (by omega) fun n1 h1 g1 b1 c1 => ?_
    simp
    exact ⟨1 + n1, by omega, h1, g1, rfl⟩
  rintro e ⟨n, hn, h, g, rfl⟩
  refine w_mid (BIn (fun sv h => [.io h, .fz (.int most), .fz (.int size), .fz (.int moves), .fz (szD s), .fz (.int n), .fz (.bl sv), .dead, .dead, .dead, .dead, .dead, .dead, .dead, .dead])) ?_ ?_
  · simp [peek, peekS]
    refine draw_step g (by omega) (by omega) fun n1 h1 g1 b1 c1 => ?_
    simp
    exact ⟨_, h1, g1, rfl⟩
  rintro e ⟨sv, h, g, rfl⟩
  refine w_mid (fun e => e = [.io h, .fz (.int most), .fz (.int size), .fz (.int moves), .fz (szD s), .fz (.int n), .fz (.bl sv), .ol [], .dead, .dead, .dead, .dead, .dead, .dead, .dead]) (by simp) ?_
  rintro e rfl
  refine w_mid (fun e => e = [.io h, .fz (.int most), .fz (.int size), .fz (.int moves), .fz (szD s), .fz (.int n), .fz (.bl sv), .ol [], .ol [], .dead, .dead, .dead, .dead, .dead, .dead]) (by simp) ?_
  rintro e rfl
  refine w_mid (PIn s n n.toNat fun h r7 r8 => [.io h, .fz (.int most), .fz (.int size), .fz (.int moves), .fz (szD s), .fz (.int n), .fz (.bl sv), .ol r7, .ol r8, .dead, .dead, .dead, .dead, .dead, .dead]) ?_ ?_
  · simp [peek, peekS]
    refine ⟨by omega, for_rng0 (fun k e => PIn s n k (fun h r7 r8 => [.io h, .fz (.int most), .fz (.int size), .fz (.int moves), .fz (szD s), .fz (.int n), .fz (.bl sv), .ol r7, .ol r8, .dead, .dead, .dead, .dead, .dead, .dead]) e) (fun k e hk I => ?_) (fun e I => ⟨rfl, I⟩) ⟨h, [], [], g, rfl, rfl, rfl, ⟨by simp⟩, by simp⟩⟩
    obtain ⟨h, rows, cls, g, he, hl1, hl2, hrows, hcls⟩ := I
    subst he
    refine ⟨_, rfl, ?_⟩
    rw [w_mKill]
    refine w_mid (RowIn s n 100 fun h r => [.io h, .fz (.int most), .fz (.int size), .fz (.int moves), .fz (szD s), .fz (.int n), .fz (.bl sv), .ol (rows.map rowD), .ol (cls.map clD), .fz (.int (k : Int)), .ol r, .dead, .dead, .dead, .dead]) ?_ ?_
    · simp [peek, peekS]
      refine draw_step g (by omega) (by omega) fun n1 h1 g1 b1 c1 => ?_
      refine runI_step (row_ok g1 hsz (many := n1) (goals := n) (by omega) (by omega)) fun d h2 ⟨g2, row, e2, l2, o2⟩ => ?_
      subst e2
      simp [rowD, fList]
      exact ⟨h2, row, g2, by simp, l2, o2.nodup, o2.mv⟩
    rintro e ⟨h, row, g, rfl, hrl, hrn, hrm⟩
    refine w_mid (RowIn s n (100 + s.1.toNat) fun h r => [.io h, .fz (.int most), .fz (.int size), .fz (.int moves), .fz (szD s), .fz (.int n), .fz (.bl sv), .ol (rows.map rowD), .ol (cls.map clD), .fz (.int (k : Int)), .ol r, .dead, .dead, .dead, .dead]) ?_ ?_
    · simp [peek, peekS]
      refine ⟨by omega, for_rng0 (fun j e => RowIn s n (100 + j) (fun h r => [.io h, .fz (.int most), .fz (.int size), .fz (.int moves), .fz (szD s), .fz (.int n), .fz (.bl sv), .ol (rows.map rowD), .ol (cls.map clD), .fz (.int (k : Int)), .ol r, .dead, .dead, .dead, .dead]) e) (fun j e hj I => ?_) (fun e I => ⟨rfl, I⟩) ?_⟩
      · obtain ⟨h, row, g, rfl, hrl, hrn, hrm⟩ := I
        refine ⟨_, rfl, ?_⟩
        simp [peek, peekS, killAll]
        have same : RowIn s n (100 + (j + 1)) (fun h r => [.io h, .fz (.int most), .fz (.int size), .fz (.int moves), .fz (szD s), .fz (.int n), .fz (.bl sv), .ol (rows.map rowD), .ol (cls.map clD), .fz (.int (k : Int)), .ol r, .dead, .dead, .dead, .dead]) [.io h, .fz (.int most), .fz (.int size), .fz (.int moves), .fz (szD s), .fz (.int n), .fz (.bl sv), .ol (rows.map rowD), .ol (cls.map clD), .fz (.int (k : Int)), .ol (row.map mvD), .dead, .dead, .dead, .dead] := ⟨h, row, g, rfl, by omega, hrn, hrm⟩
        split
        · refine ⟨by omega, comp_map (fun m : Mv => decide (m.1 = (j : Int))) mvD (fun m hm => ⟨_, rfl, ?_⟩) ?_⟩
          · simp [peek, peekS, killAll]
          · by_cases hnew : row.filter (fun m : Mv => decide (m.1 = (j : Int))) = []
            · rw [hnew]
              simp [peek, peekS]
              refine draw_step g (by omega) (by omega) fun n2 h2 g2 b2 c2 => ?_
              refine draw_step g2 (by omega) (by omega) fun n3 h3 g3 b3 c3 => ?_
              refine draw_step g3 (by omega) (by omega) fun n4 h4 g4 b4 c4 => ?_
              refine ⟨by omega, h4, row ++ [((j : Int), n2, n3, n4)], g4, by simp [mvD], by simp; omega, ?_, ?_⟩
              · rw [List.nodup_append]
                refine ⟨hrn, by simp, fun a ha b hb => ?_⟩
                have hb : b = ((j : Int), n2, n3, n4) := by simpa using hb
                subst hb
                intro e
                subst e
                have : ((j : Int), n2, n3, n4) ∈ row.filter (fun m : Mv => decide (m.1 = (j : Int))) := List.mem_filter.mpr ⟨ha, by simp⟩
                rw [hnew] at this
                cases this
              · intro m hm
                rcases List.mem_append.mp hm with hm | hm
                · exact hrm m hm
                · have hm : m = ((j : Int), n2, n3, n4) := by simpa using hm
                  subst hm
                  exact ⟨⟨by show (0 : Int) ≤ j; omega, by show (j : Int) < s.1; omega⟩, ⟨b2, c2⟩, ⟨b3, c3⟩, ⟨b4, c4⟩⟩
            · rw [if_neg (by simpa using hnew)]
              simp [killAll]
              exact same
        · exact same
      · exact ⟨h, row, g, rfl, by omega, hrn, hrm⟩
    rintro e ⟨h, row, g, rfl, hrl, hrn, hrm⟩
    obtain ⟨row', e1, p, asc⟩ := sort_mv row hrn (by omega)
    have hl' : row'.length ≤ 200 := by rw [p.length_eq]; omega
    refine w_mid (fun e => e = [.io h, .fz (.int most), .fz (.int size), .fz (.int moves), .fz (szD s), .fz (.int n), .fz (.bl sv), .ol ((rows ++ [row']).map rowD), .ol (cls.map clD), .fz (.int (k : Int)), .ol (row.map mvD), .dead, .dead, .dead, .dead]) ?_ ?_
    · simp [peek, peekS, e1, fTuple]
      exact ⟨by omega, rfl⟩
    rintro e rfl
    simp [peek, peekS]
    refine ⟨by omega, by omega, comp_rng0 (fun k' acc e => ClIn k' acc (fun h => [.io h, .fz (.int most), .fz (.int size), .fz (.int moves), .fz (szD s), .fz (.int n), .fz (.bl sv), .ol ((rows ++ [row']).map rowD), .ol (cls.map clD), .fz (.int (k : Int)), .ol (row.map mvD), .dead, .dead, .dead, .dead]) e) (fun k' acc e hk' I => ?_) (fun acc e I => ?_) ?_⟩
    · obtain ⟨h, c, g, rfl, rfl, ok⟩ := I
      refine ⟨_, rfl, ?_⟩
      simp [peek, peekS]
      refine draw_step g (by omega) (by omega) fun n1 h1 g1 b1 c1 => ?_
      simp [killAll]
      split
      · refine ⟨h1, c ++ [(k' : Int)], g1, rfl, by simp, ?_, fun x hx => ?_⟩
        · rw [List.pairwise_append]
          refine ⟨ok.asc, by simp, fun a ha b hb => ?_⟩
          have hb : b = (k' : Int) := by simpa using hb
          have := (ok.rng a ha).2
          omega
        · rcases List.mem_append.mp hx with hx | hx
          · have := ok.rng x hx; push_cast; omega
          · have hx : x = (k' : Int) := by simpa using hx
            push_cast; omega
      · exact ⟨h1, c, g1, rfl, rfl, ok.asc, fun x hx => by have := ok.rng x hx; push_cast; omega⟩
    · obtain ⟨h, c, g, rfl, rfl, ok⟩ := I
      simp [fTuple, killAll]
      refine ⟨by omega, h, rows ++ [row'], cls ++ [c], g, by simp [clD], by simp [hl1], by simp [hl2], ⟨fun r hr => ?_⟩, fun x hx => ?_⟩
      · rcases List.mem_append.mp hr with hr | hr
        · exact hrows.row r hr
        · have hr : r = row' := by simpa using hr
          subst hr
          exact ⟨hl', ⟨fun m hm => hrm m (p.mem_iff.mp hm), asc⟩⟩
      · rcases List.mem_append.mp hx with hx | hx
        · exact hcls x hx
        · have hx : x = c := by simpa using hx
          subst hx
          rw [show ((s.2.2.toNat : Nat) : Int) = s.2.2 by omega] at ok
          exact ok
    · exact ⟨h, [], g, by simp [killAll], rfl, ⟨by simp, by simp⟩⟩
  · rintro e ⟨h, rows, cls, g, rfl, hl1, hl2, hrows, hcls⟩
    simp [peek, peekS, fTuple]
    exact ⟨g, ⟨s, rows, cls⟩, rfl, ⟨hsz, by simp; omega, by simp; omega, by rw [hl1]; rw [show ((n.toNat : Nat) : Int) = n by omega]; exact hrows, hcls⟩, hle⟩
theorem parts_ok {h : List D} (g : GoodH h) {most size moves : Int} (hm : 1 ≤ most ∧ most ≤ 20) (hs : 1 ≤ size ∧ size ≤ 4) (hv : 0 ≤ moves ∧ moves ≤ 20) :
    ∃ d h', r__law_parts h [.int most, .int size, .int moves] = .ok d h' ∧ GoodH h' ∧ ∃ p, d = ptD p ∧ PtOk p := by
  obtain ⟨d, h', e, g', p, hd, hp, _⟩ := parts_okZ g hm hs hv
  exact ⟨d, h', e, g', p, hd, hp⟩
end Mi

set_option Elab.async false
set_option linter.all false
set_option maxRecDepth 100000
set_option maxHeartbeats 1000000
namespace Mi
open PySem PySem.Spec PyProof.Rows L2

/-! ## drawn days -/
structure StOk (s t : S3) : Prop where
  a : 0 ≤ t.1 ∧ t.1 < s.1
  b : 0 ≤ t.2.1 ∧ t.2.1 < s.2.1
  c : 0 ≤ t.2.2 ∧ t.2.2 < s.2.2
structure StsOk (s : S3) (l : List S3) : Prop where
  all : ∀ t ∈ l, StOk s t
theorem StsOk.app {s : S3} {l r : List S3} (h : StsOk s l) (g : StsOk s r) : StsOk s (l ++ r) := ⟨fun t ht => (List.mem_append.mp ht).elim (h.all t) (g.all t)⟩
theorem dAdd_lst {a b : List D} (h : a.length + b.length ≤ 1000000) : dAdd (.lst a) (.lst b) = some (.lst (a ++ b)) := by
  show (if _ ≤ lim then _ else _) = _
  exact if_pos h
theorem dAdd_tup {a b : List D} (h : a.length + b.length ≤ 1000000) : dAdd (.tup a) (.tup b) = some (.tup (a ++ b)) := by
  show (if _ ≤ lim then _ else _) = _
  exact if_pos h
def dayD (steps : List S3) (m : Int) : D := .tup [.tup (steps.map szD), .int m]
structure DayOk (s : S3) (steps : List S3) (m : Int) : Prop where
  st : StsOk s steps
  m : 0 ≤ m ∧ m < s.2.2
@[simp] theorem dIx_pt0 (p : Pt) : dIx (ptD p) (.int 0) = some (szD p.sz) := rfl
@[simp] theorem dIx_pt1 (p : Pt) : dIx (ptD p) (.int 1) = some (.tup (p.rows.map rowD)) := rfl
@[simp] theorem dIx_pt2 (p : Pt) : dIx (ptD p) (.int 2) = some (.tup (p.cls.map clD)) := rfl
@[simp] theorem dIx_day0 (st : List S3) (m : Int) : dIx (dayD st m) (.int 0) = some (.tup (st.map szD)) := rfl
@[simp] theorem dIx_day1 (st : List S3) (m : Int) : dIx (dayD st m) (.int 1) = some (.int m) := rfl
@[simp] theorem b_tup_sz (bs : Bds) (s : S3) (env : Env) : bTup 3 bs (szD s) env = bs [.int s.1, .int s.2.1, .int s.2.2] env := rfl
end Mi

set_option Elab.async false
set_option linter.all false
set_option maxRecDepth 100000
set_option maxHeartbeats 1000000
namespace Mi
open PySem PySem.Spec PyProof.Rows L2

/-! ## drawn days -/
structure SIn (s : S3) (lo hi : Nat) (mk : D → Env) (e : Env) : Prop where
  ex : ∃ l : List S3, e = mk (.lst (l.map szD)) ∧ StsOk s l ∧ lo ≤ l.length ∧ l.length ≤ hi
theorem steps_of_2 {p : Pt} (hp : PtOk p) (hb : p.sz.1 ≤ 2 ∧ p.sz.2.1 ≤ 2 ∧ p.sz.2.2 ≤ 2) : ∃ d, r__law_steps_of [ptD p] = .ok d ∧ ∃ l : List S3, d = .lst (l.map szD) ∧ StsOk p.sz l ∧ 1 ≤ l.length ∧ l.length ≤ 8 := by
    have a1 := hp.sz.a
    have a2 := hp.sz.b
    have a3 := hp.sz.c
    obtain ⟨⟨s1, s2, s3⟩, rows, cls⟩ := p
    simp only at a1 a2 a3 hb
    rw [r__law_steps_of_df]
    refine runP_ex rfl (show wE (m__law_steps_of [.fz (ptD _), .dead, .dead, .dead, .dead, .dead, .dead, .dead]) _ from ?_)
    unfold m__law_steps_of
    generalize hP : (⟨(s1, s2, s3), rows, cls⟩ : Pt) = P
    refine w_mid (fun e => e = [.fz (ptD P), .fz (.int s1), .fz (.int s2), .fz (.int s3), .dead, .dead, .dead, .dead]) ?_ ?_
    · subst hP
      simp [peek, peekS]
    rintro e rfl
    refine w_mid (fun e => e = [.fz (ptD P), .fz (.int s1), .fz (.int s2), .fz (.int s3), .fz (.lst []), .dead, .dead, .dead]) (by simp) ?_
    rintro e rfl
    refine w_mid (SIn (s1, s2, s3) 1 8 fun d => [.fz (ptD P), .fz (.int s1), .fz (.int s2), .fz (.int s3), .fz d, .dead, .dead, .dead]) ?_ ?_
    · simp [peek, peekS]
      refine ⟨by omega, for_rng0 (fun k e => SIn (s1, s2, s3) k (4 * k) (fun d => [.fz (ptD P), .fz (.int s1), .fz (.int s2), .fz (.int s3), .fz d, .dead, .dead, .dead]) e) (fun k e hk I => ?_) (fun e I => ⟨rfl, ?_⟩) ⟨[], rfl, ⟨by simp⟩, by simp, by simp⟩⟩
      · obtain ⟨l, rfl, hl, h1, h2⟩ := I
        refine ⟨_, rfl, ?_⟩
        simp [peek, peekS]
        refine ⟨by omega, for_rng0 (fun j e => SIn (s1, s2, s3) (k + j) (4 * k + 2 * j) (fun d => [.fz (ptD P), .fz (.int s1), .fz (.int s2), .fz (.int s3), .fz d, .fz (.int (k : Int)), .dead, .dead]) e) (fun j e hj I => ?_) (fun e I => ?_) ⟨l, rfl, hl, by omega, by omega⟩⟩
        · obtain ⟨l, rfl, hl, h1, h2⟩ := I
          refine ⟨_, rfl, ?_⟩
          simp [peek, peekS]
          refine ⟨by omega, by omega, ?_⟩
          rw [rng0]
          refine comp_all (fun i : Nat => szD ((k : Int), (j : Int), (i : Int))) (fun i hi => ⟨_, rfl, ?_⟩) ?_
          · simp [peek, peekS, killAll]; rfl
          · simp [peek, peekS, killAll]
            rw [dAdd_lst (by simp; omega)]
            refine ⟨l ++ (List.range s3.toNat).map fun i : Nat => ((k : Int), (j : Int), (i : Int)), by simp [Function.comp_def], hl.app ⟨fun t ht => ?_⟩, by simp; omega, by simp; omega⟩
            obtain ⟨i, hi, rfl⟩ := List.mem_map.mp ht
            have := List.mem_range.mp hi
            exact ⟨by simp; omega, by simp; omega, by simp; omega⟩
        · obtain ⟨l, rfl, hl, h1, h2⟩ := I
          simp [killAll]
          exact ⟨l, rfl, hl, by omega, by omega⟩
      · obtain ⟨l, rfl, hl, h1, h2⟩ := I
        exact ⟨l, rfl, hl, by omega, by omega⟩
    rintro e ⟨l, rfl, hl, h1, h2⟩
    simp [peek, peekS]
    subst hP
    exact ⟨l, rfl, hl, h1, h2⟩
theorem steps_of_3 {p : Pt} (hp : PtOk p) (hb : p.sz.1 ≤ 3 ∧ p.sz.2.1 ≤ 3 ∧ p.sz.2.2 ≤ 3) : ∃ d, r__law_steps_of [ptD p] = .ok d ∧ ∃ l : List S3, d = .lst (l.map szD) ∧ StsOk p.sz l ∧ 1 ≤ l.length ∧ l.length ≤ 27 := by
    have a1 := hp.sz.a
    have a2 := hp.sz.b
    have a3 := hp.sz.c
    obtain ⟨⟨s1, s2, s3⟩, rows, cls⟩ := p
    simp only at a1 a2 a3 hb
    rw [r__law_steps_of_df]
    refine runP_ex rfl (show wE (m__law_steps_of [.fz (ptD _), .dead, .dead, .dead, .dead, .dead, .dead, .dead]) _ from ?_)
    unfold m__law_steps_of
    generalize hP : (⟨(s1, s2, s3), rows, cls⟩ : Pt) = P
    refine w_mid (fun e => e = [.fz (ptD P), .fz (.int s1), .fz (.int s2), .fz (.int s3), .dead, .dead, .dead, .dead]) ?_ ?_
    · subst hP
      simp [peek, peekS]
    rintro e rfl
    refine w_mid (fun e => e = [.fz (ptD P), .fz (.int s1), .fz (.int s2), .fz (.int s3), .fz (.lst []), .dead, .dead, .dead]) (by simp) ?_
    rintro e rfl
    refine w_mid (SIn (s1, s2, s3) 1 27 fun d => [.fz (ptD P), .fz (.int s1), .fz (.int s2), .fz (.int s3), .fz d, .dead, .dead, .dead]) ?_ ?_
    · simp [peek, peekS]
      refine ⟨by omega, for_rng0 (fun k e => SIn (s1, s2, s3) k (9 * k) (fun d => [.fz (ptD P), .fz (.int s1), .fz (.int s2), .fz (.int s3), .fz d, .dead, .dead, .dead]) e) (fun k e hk I => ?_) (fun e I => ⟨rfl, ?_⟩) ⟨[], rfl, ⟨by simp⟩, by simp, by simp⟩⟩
      · obtain ⟨l, rfl, hl, h1, h2⟩ := I
        refine ⟨_, rfl, ?_⟩
        simp [peek, peekS]
        refine ⟨by omega, for_rng0 (fun j e => SIn (s1, s2, s3) (k + j) (9 * k + 3 * j) (fun d => [.fz (ptD P), .fz (.int s1), .fz (.int s2), .fz (.int s3), .fz d, .fz (.int (k : Int)), .dead, .dead]) e) (fun j e hj I => ?_) (fun e I => ?_) ⟨l, rfl, hl, by omega, by omega⟩⟩
        · obtain ⟨l, rfl, hl, h1, h2⟩ := I
          refine ⟨_, rfl, ?_⟩
          simp [peek, peekS]
          refine ⟨by omega, by omega, ?_⟩
          rw [rng0]
          refine comp_all (fun i : Nat => szD ((k : Int), (j : Int), (i : Int))) (fun i hi => ⟨_, rfl, ?_⟩) ?_
          · simp [peek, peekS, killAll]; rfl
          · simp [peek, peekS, killAll]
            rw [dAdd_lst (by simp; omega)]
            refine ⟨l ++ (List.range s3.toNat).map fun i : Nat => ((k : Int), (j : Int), (i : Int)), by simp [Function.comp_def], hl.app ⟨fun t ht => ?_⟩, by simp; omega, by simp; omega⟩
            obtain ⟨i, hi, rfl⟩ := List.mem_map.mp ht
            have := List.mem_range.mp hi
            exact ⟨by simp; omega, by simp; omega, by simp; omega⟩
        · obtain ⟨l, rfl, hl, h1, h2⟩ := I
          simp [killAll]
          exact ⟨l, rfl, hl, by omega, by omega⟩
      · obtain ⟨l, rfl, hl, h1, h2⟩ := I
        exact ⟨l, rfl, hl, by omega, by omega⟩
    rintro e ⟨l, rfl, hl, h1, h2⟩
    simp [peek, peekS]
    subst hP
    exact ⟨l, rfl, hl, h1, h2⟩
theorem steps_of_4 {p : Pt} (hp : PtOk p) (hb : p.sz.1 ≤ 4 ∧ p.sz.2.1 ≤ 4 ∧ p.sz.2.2 ≤ 4) : ∃ d, r__law_steps_of [ptD p] = .ok d ∧ ∃ l : List S3, d = .lst (l.map szD) ∧ StsOk p.sz l ∧ 1 ≤ l.length ∧ l.length ≤ 64 := by
    have a1 := hp.sz.a
    have a2 := hp.sz.b
    have a3 := hp.sz.c
    obtain ⟨⟨s1, s2, s3⟩, rows, cls⟩ := p
    simp only at a1 a2 a3 hb
    rw [r__law_steps_of_df]
    refine runP_ex rfl (show wE (m__law_steps_of [.fz (ptD _), .dead, .dead, .dead, .dead, .dead, .dead, .dead]) _ from ?_)
    unfold m__law_steps_of
    generalize hP : (⟨(s1, s2, s3), rows, cls⟩ : Pt) = P
    refine w_mid (fun e => e = [.fz (ptD P), .fz (.int s1), .fz (.int s2), .fz (.int s3), .dead, .dead, .dead, .dead]) ?_ ?_
    · subst hP
      simp [peek, peekS]
    rintro e rfl
    refine w_mid (fun e => e = [.fz (ptD P), .fz (.int s1), .fz (.int s2), .fz (.int s3), .fz (.lst []), .dead, .dead, .dead]) (by simp) ?_
    rintro e rfl
    refine w_mid (SIn (s1, s2, s3) 1 64 fun d => [.fz (ptD P), .fz (.int s1), .fz (.int s2), .fz (.int s3), .fz d, .dead, .dead, .dead]) ?_ ?_
    · simp [peek, peekS]
      refine ⟨by omega, for_rng0 (fun k e => SIn (s1, s2, s3) k (16 * k) (fun d => [.fz (ptD P), .fz (.int s1), .fz (.int s2), .fz (.int s3), .fz d, .dead, .dead, .dead]) e) (fun k e hk I => ?_) (fun e I => ⟨rfl, ?_⟩) ⟨[], rfl, ⟨by simp⟩, by simp, by simp⟩⟩
      · obtain ⟨l, rfl, hl, h1, h2⟩ := I
        refine ⟨_, rfl, ?_⟩
        simp [peek, peekS]
        refine ⟨by omega, for_rng0 (fun j e => SIn (s1, s2, s3) (k + j) (16 * k + 4 * j) (fun d => [.fz (ptD P), .fz (.int s1), .fz (.int s2), .fz (.int s3), .fz d, .fz (.int (k : Int)), .dead, .dead]) e) (fun j e hj I => ?_) (fun e I => ?_) ⟨l, rfl, hl, by omega, by omega⟩⟩
        · obtain ⟨l, rfl, hl, h1, h2⟩ := I
          refine ⟨_, rfl, ?_⟩
          simp [peek, peekS]
          refine ⟨by omega, by omega, ?_⟩
          rw [rng0]
          refine comp_all (fun i : Nat => szD ((k : Int), (j : Int), (i : Int))) (fun i hi => ⟨_, rfl, ?_⟩) ?_
          · simp [peek, peekS, killAll]; rfl
          · simp [peek, peekS, killAll]
            rw [dAdd_lst (by simp; omega)]
            refine ⟨l ++ (List.range s3.toNat).map fun i : Nat => ((k : Int), (j : Int), (i : Int)), by simp [Function.comp_def], hl.app ⟨fun t ht => ?_⟩, by simp; omega, by simp; omega⟩
            obtain ⟨i, hi, rfl⟩ := List.mem_map.mp ht
            have := List.mem_range.mp hi
            exact ⟨by simp; omega, by simp; omega, by simp; omega⟩
        · obtain ⟨l, rfl, hl, h1, h2⟩ := I
          simp [killAll]
          exact ⟨l, rfl, hl, by omega, by omega⟩
      · obtain ⟨l, rfl, hl, h1, h2⟩ := I
        exact ⟨l, rfl, hl, by omega, by omega⟩
    rintro e ⟨l, rfl, hl, h1, h2⟩
    simp [peek, peekS]
    subst hP
    exact ⟨l, rfl, hl, h1, h2⟩
theorem steps_of_z {z zz zzz : Nat} (hz : (z = 2 ∧ zz = 4 ∧ zzz = 8) ∨ (z = 3 ∧ zz = 9 ∧ zzz = 27) ∨ (z = 4 ∧ zz = 16 ∧ zzz = 64)) {p : Pt} (hp : PtOk p) (hb : p.sz.1 ≤ z ∧ p.sz.2.1 ≤ z ∧ p.sz.2.2 ≤ z) : ∃ d, r__law_steps_of [ptD p] = .ok d ∧ ∃ l : List S3, d = .lst (l.map szD) ∧ StsOk p.sz l ∧ 1 ≤ l.length ∧ l.length ≤ zzz := by
  rcases hz with ⟨rfl, rfl, rfl⟩ | ⟨rfl, rfl, rfl⟩ | ⟨rfl, rfl, rfl⟩
  · exact steps_of_2 hp hb
  · exact steps_of_3 hp hb
  · exact steps_of_4 hp hb
theorem steps_of_ok {p : Pt} (hp : PtOk p) : ∃ d, r__law_steps_of [ptD p] = .ok d ∧ ∃ l : List S3, d = .lst (l.map szD) ∧ StsOk p.sz l ∧ 1 ≤ l.length ∧ l.length ≤ 64 :=
  steps_of_z (z := 4) (zz := 16) (zzz := 64) (.inr (.inr ⟨rfl, rfl, rfl⟩)) hp ⟨hp.sz.a.2, hp.sz.b.2, hp.sz.c.2⟩
structure DIn (s : S3) (k : Nat) (acc : List D) (mk : List D → Env) (e : Env) : Prop where
  ex : ∃ h l, GoodH h ∧ e = mk h ∧ acc = List.map szD l ∧ l.length = k ∧ StsOk s l
theorem any_day_ok {h : List D} (g : GoodH h) {p : Pt} (hp : PtOk p) {many : Int} (hm : 0 ≤ many ∧ many ≤ 1000) :
    ∃ d h', r__law_any_day h [ptD p, .int many] = .ok d h' ∧ GoodH h' ∧ ∃ l m, d = dayD l m ∧ DayOk p.sz l m ∧ l.length = many.toNat := by
  have a3 := hp.sz.c
  obtain ⟨d0, e0, all, rfl, hall, hl1, hl2⟩ := steps_of_ok hp
  rw [r__law_any_day_df]
  refine runI_ex rfl (show wE (m__law_any_day [.io h, .fz (ptD p), .fz (.int many), .dead, .dead]) _ from ?_)
  unfold m__law_any_day
  refine w_mid (fun e => e = [.io h, .fz (ptD p), .fz (.int many), .fz (.lst (all.map szD)), .dead]) ?_ ?_
  · simp [peek, peekS, e0]
  rintro e rfl
  simp [peek, peekS, killAll]
  refine ⟨by omega, by omega, comp_rng0 (fun k acc e => DIn p.sz k acc (fun h => [.io h, .fz (ptD p), .fz (.int many), .fz (.lst (all.map szD)), .dead]) e) (fun k acc e hk I => ?_) (fun acc e I => ?_) ⟨h, [], g, rfl, rfl, rfl, ⟨by simp⟩⟩⟩
  · obtain ⟨h, l, g, rfl, rfl, hl, hok⟩ := I
    refine ⟨_, rfl, ?_⟩
    simp [peek, peekS]
    refine draw_step g (by omega) (by omega) fun n1 h1 g1 b1 c1 => ?_
    have hn : n1.toNat < all.length := by omega
    simp [killAll]
    rw [atI_of n1.toNat (by omega), List.getElem?_map, List.getElem?_eq_getElem hn]
    refine ⟨h1, l ++ [all[n1.toNat]], g1, rfl, by simp, by simp [hl], hok.app ⟨fun t ht => ?_⟩⟩
    have : t = all[n1.toNat] := by simpa using ht
    rw [this]
    exact hall.all _ (List.getElem_mem hn)
  · obtain ⟨h, l, g, rfl, rfl, hl, hok⟩ := I
    simp [fTuple, peek, peekS]
    refine draw_step g (by omega) (by omega) fun n1 h1 g1 b1 c1 => ?_
    exact ⟨g1, l, n1, rfl, ⟨hok, b1, c1⟩, by omega⟩
end Mi

set_option Elab.async false
set_option linter.all false
set_option maxRecDepth 100000
set_option maxHeartbeats 1000000
namespace Mi
open PySem PySem.Spec PyProof.Rows L2

/-! ## what checks -/
/-- a loop that changes nothing -/
theorem for_same {α : Type} {b : Bd} {body : MS} {Q : Fl → Env → Prop} {env : Env} {g : α → D} {as : List α} (h : ∀ a ∈ as, ∃ e1, b (g a) env = some e1 ∧ wE (body e1) fun f e2 => f = .nx ∧ e2 = env) (q : Q .nx env) : wE (mForGo b body (as.map g) env) Q := by
  refine for_go (fun rest e => e = env ∧ ∃ r : List α, rest = r.map g ∧ ∀ a ∈ r, a ∈ as) (fun d r e ⟨he, l, hl, hm⟩ => ?_) (fun e ⟨he, _⟩ => by rw [he]; exact q) ⟨rfl, as, rfl, fun _ h => h⟩
  subst he
  cases l with
  | nil => cases hl
  | cons a l =>
    injection hl with h1 h2
    subst h1
    obtain ⟨e1, g1, g2⟩ := h a (hm a List.mem_cons_self)
    refine ⟨e1, g1, g2.imp fun f e2 ⟨hf, he⟩ => ?_⟩
    subst hf
    exact ⟨he, l, h2, fun x hx => hm x (List.mem_cons_of_mem _ hx)⟩
theorem blsOf_map {α : Type} (f : α → Bool) : ∀ l : List α, blsOf (l.map fun a => .bl (f a)) = some (l.map f)
  | [] => rfl
  | a :: l => by simp only [List.map_cons, blsOf, blsOf_map f l, Option.map_some]
theorem fAll_map {α : Type} (f : α → Bool) (l : List α) : fAll [.lst (l.map fun a => .bl (f a))] = some (.bl (l.all f)) := by
  simp only [fAll, blsOf_map, Option.map_some]
  congr 2
  rw [List.all_map]; rfl
theorem fAny_map {α : Type} (f : α → Bool) (l : List α) : fAny [.lst (l.map fun a => .bl (f a))] = some (.bl (l.any f)) := by
  simp only [fAny, blsOf_map, Option.map_some]
  congr 2
  rw [List.any_map]; rfl
@[simp] theorem ty_tup_tup (ds : List D) : fIsTy [.tup ds, .ty "tuple"] = some (.bl true) := rfl
@[simp] theorem ty_tup_sz (s : S3) : fIsTy [szD s, .ty "tuple"] = some (.bl true) := rfl
@[simp] theorem ty_tup_mv (s : Mv) : fIsTy [mvD s, .ty "tuple"] = some (.bl true) := rfl
@[simp] theorem ty_tup_row (s : List Mv) : fIsTy [rowD s, .ty "tuple"] = some (.bl true) := rfl
@[simp] theorem ty_tup_cl (s : List Int) : fIsTy [clD s, .ty "tuple"] = some (.bl true) := rfl
@[simp] theorem ty_tup_day (l : List S3) (m : Int) : fIsTy [dayD l m, .ty "tuple"] = some (.bl true) := rfl
@[simp] theorem len_sz (s : S3) : fLen [szD s] = some (.int 3) := rfl
@[simp] theorem len_mv (s : Mv) : fLen [mvD s] = some (.int 4) := rfl
@[simp] theorem len_row (s : List Mv) : fLen [rowD s] = some (.int s.length) := by unfold rowD; rw [fLen_tup, List.length_map]
@[simp] theorem len_cl (s : List Int) : fLen [clD s] = some (.int s.length) := by unfold clD; rw [fLen_tup, List.length_map]
@[simp] theorem len_day (l : List S3) (m : Int) : fLen [dayD l m] = some (.int 2) := rfl
@[simp] theorem okD_int (i : Int) : okD (.int i) = true := rfl
@[simp] theorem within_int (i a b : Int) : r_is_within [.int i, .int a, .int b] = .ok (.bl (decide (a ≤ i) && decide (i ≤ b))) := r_is_within_eq rfl
theorem ascending_eq {ds : List D} (hl : ds.length ≤ 1000000) (f : Nat → Bool) (h : ∀ (i : Nat) (x y : D), ds[i]? = some x → ds[i + 1]? = some y → dGe x y = some (.bl (f i))) :
    r_are_ascending [.tup ds] = .ok (.bl ((List.range (ds.length - 1)).all fun i => !f i)) := by
  rw [r_are_ascending_df]
  refine runP_ok rfl (show wE (m_are_ascending [.fz (.tup ds), .dead]) _ from ?_)
  unfold m_are_ascending
  simp [peek, peekS]
  refine ⟨by omega, ?_⟩
  refine for_rng (fun k e => e = [.fz (.tup ds), .dead] ∧ ∀ i < k, f i = false) (fun k e hk ⟨he, hf⟩ => ?_) (fun e ⟨he, hf⟩ => ?_) ⟨rfl, by omega⟩
  · subst he
    refine ⟨_, rfl, ?_⟩
    simp [peek, peekS]
    have h1 : k < ds.length := by omega
    have h2 : k + 1 < ds.length := by omega
    rw [atI_of k (by omega), atI_of (k + 1) (by push_cast; omega), List.getElem?_eq_getElem h1, List.getElem?_eq_getElem h2]
    simp
    rw [h k _ _ (List.getElem?_eq_getElem h1) (List.getElem?_eq_getElem h2)]
    simp
    cases e : f k with
    | false =>
      simp [killAll]
      intro i hi
      rcases Nat.lt_succ_iff_lt_or_eq.mp hi with hi | hi
      · exact hf i hi
      · rw [hi]; exact e
    | true =>
      simp
      exact ⟨k, by omega, e⟩
  · subst he
    simp
    exact hf
theorem ascending_it {n : Nat} (hn : n ≤ 40) {ds : List D} (hl : ds.length ≤ 1000000) (hi : ∀ d ∈ ds, itN n d = true) (ha : ∀ x ∈ ds, ∀ y ∈ ds, alD x y = true) (hp : ds.Pairwise fun x y => ltD x y = true) : r_are_ascending [.tup ds] = .ok (.bl true) := by
  rw [ascending_eq hl (fun _ => false) fun i x y hx hy => ?_]
  · congr 2
    rw [List.all_eq_true]; exact fun _ _ => rfl
  · have mx := List.mem_of_getElem? hx
    have my := List.mem_of_getElem? hy
    rw [dGe_it hn (hi x mx) (hi y my) (ha x mx y my)]
    have : ltD x y = true := by
      obtain ⟨h1, rfl⟩ := List.getElem?_eq_some_iff.mp hx
      obtain ⟨h2, rfl⟩ := List.getElem?_eq_some_iff.mp hy
      exact List.pairwise_iff_getElem.mp hp i (i + 1) h1 h2 (by omega)
    rw [this]; rfl
theorem asc_row {s : S3} {goals : Int} {row : List Mv} (hl : row.length ≤ 1000) (r : RowOk s goals row) : r_are_ascending [rowD row] = .ok (.bl true) :=
  ascending_it (n := 1) (by decide) (by rw [List.length_map]; omega) (fun d hd => by obtain ⟨m, _, rfl⟩ := List.mem_map.mp hd; rfl) (fun x hx y hy => by obtain ⟨m, _, rfl⟩ := List.mem_map.mp hx; obtain ⟨n, _, rfl⟩ := List.mem_map.mp hy; rfl) (List.pairwise_map.mpr r.asc)
theorem asc_cl {m : Int} {c : List Int} (hl : c.length ≤ 1000) (r : ClOk m c) : r_are_ascending [clD c] = .ok (.bl true) :=
  ascending_it (n := 0) (by decide) (by rw [List.length_map]; omega) (fun d hd => by obtain ⟨m, _, rfl⟩ := List.mem_map.mp hd; rfl) (fun x hx y hy => by obtain ⟨m, _, rfl⟩ := List.mem_map.mp hx; obtain ⟨n, _, rfl⟩ := List.mem_map.mp hy; rfl) (List.pairwise_map.mpr (r.asc.imp fun h => by rw [lt_int]; exact decide_eq_true h))
theorem is_move_ok {s : S3} {goals : Int} {m : Mv} (h : MvOk s goals m) : r_is_move [szD s, .int goals, mvD m] = .ok (.bl true) := by
  have a := h.a
  have b := h.b
  have c := h.c
  have d := h.d
  rw [r_is_move_df]
  refine runP_ok rfl (show wE (m_is_move [.fz (szD s), .fz (.int goals), .fz (mvD m), .dead, .dead, .dead]) _ from ?_)
  unfold m_is_move
  refine w_mid (fun e => e = [.fz (szD s), .fz (.int goals), .fz (mvD m), .dead, .dead, .dead]) (by simp [peek, peekS]) ?_
  rintro e rfl
  refine w_mid (fun e => e = [.fz (szD s), .fz (.int goals), .fz (mvD m), .fz (.int s.1), .fz (.int s.2.1), .fz (.int s.2.2)]) (by simp [peek, peekS]) ?_
  rintro e rfl
  refine w_mid (fun e => e = [.fz (szD s), .fz (.int goals), .fz (mvD m), .fz (.int s.1), .fz (.int s.2.1), .fz (.int s.2.2)]) ?_ ?_
  · simp [peek, peekS]
    omega
  rintro e rfl
  simp [peek, peekS]
  omega
theorem are_moves_ok {s : S3} {rows : List (List Mv)} (hn : 1 ≤ rows.length ∧ rows.length ≤ 20) (h : RowsOk s rows.length rows) : r_are_moves [szD s, .tup (rows.map rowD)] = .ok (.bl true) := by
  rw [r_are_moves_df]
  refine runP_ok rfl (show wE (m_are_moves [.fz (szD s), .fz (.tup (rows.map rowD)), .dead, .dead]) _ from ?_)
  unfold m_are_moves
  refine w_mid (fun e => e = [.fz (szD s), .fz (.tup (rows.map rowD)), .dead, .dead]) ?_ ?_
  · simp [peek, peekS]
    omega
  rintro e rfl
  refine w_mid (fun e => e = [.fz (szD s), .fz (.tup (rows.map rowD)), .dead, .dead]) ?_ (by rintro e rfl; simp)
  simp [peek, peekS]
  refine for_same (fun row hrow => ?_) ⟨rfl, rfl⟩
  obtain ⟨hl, ok⟩ := h.row row hrow
  refine ⟨_, rfl, ?_⟩
  rw [w_mKill]
  refine w_mid (fun e => e = [.fz (szD s), .fz (.tup (rows.map rowD)), .fz (rowD row), .dead]) ?_ ?_
  · simp [peek, peekS]
    rw [rowD]
    simp
    refine ⟨by omega, comp_all (fun _ => .bl true) (fun m hm => ⟨_, rfl, ?_⟩) ?_⟩
    · simp [peek, peekS, is_move_ok (ok.mv m hm), killAll]
    · rw [fAll_map (fun _ => true)]
      simp [killAll]
  rintro e rfl
  simp [peek, peekS, asc_row (by omega) ok, killAll]
theorem are_closings_ok {s : S3} {n : Int} {cls : List (List Int)} (hs : SzOk s) (hn : (cls.length : Int) = n) (hl : cls.length ≤ 1000) (h : ∀ c ∈ cls, ClOk s.2.2 c) : r_are_closings [szD s, .int n, .tup (cls.map clD)] = .ok (.bl true) := by
  have a3 := hs.c
  rw [r_are_closings_df]
  refine runP_ok rfl (show wE (m_are_closings [.fz (szD s), .fz (.int n), .fz (.tup (cls.map clD)), .dead, .dead]) _ from ?_)
  unfold m_are_closings
  refine w_mid (fun e => e = [.fz (szD s), .fz (.int n), .fz (.tup (cls.map clD)), .dead, .dead]) ?_ ?_
  · simp [peek, peekS, hn]
  rintro e rfl
  refine w_mid (fun e => e = [.fz (szD s), .fz (.int n), .fz (.tup (cls.map clD)), .dead, .dead]) ?_ (by rintro e rfl; simp)
  simp [peek, peekS]
  refine for_same (fun c hc => ?_) ⟨rfl, rfl⟩
  have ok := h c hc
  have hcl := ok.len (by omega)
  refine ⟨_, rfl, ?_⟩
  rw [w_mKill]
  refine w_mid (fun e => e = [.fz (szD s), .fz (.int n), .fz (.tup (cls.map clD)), .fz (clD c), .dead]) ?_ ?_
  · simp [peek, peekS]
    rw [clD]
    simp
    refine ⟨by omega, comp_all (fun _ => .bl true) (fun m hm => ⟨_, rfl, ?_⟩) ?_⟩
    · have := ok.rng m hm
      simp [peek, peekS, killAll]
      omega
    · rw [fAll_map (fun _ => true)]
      simp [killAll]
  rintro e rfl
  simp [peek, peekS, asc_cl hcl ok, killAll]
theorem triple_sz (s : S3) : r_is_triple [szD s] = .ok (.bl true) := r_is_triple_eq rfl
theorem sz_map (s : S3) : szD s = .tup ([s.1, s.2.1, s.2.2].map .int) := rfl
theorem are_sizes_ok {s : S3} (h : SzOk s) : r_are_sizes [szD s] = .ok (.bl true) := by
  have a1 := h.a
  have a2 := h.b
  have a3 := h.c
  rw [r_are_sizes_df]
  refine runP_ok rfl (show wE (m_are_sizes [.fz (szD s), .dead]) _ from ?_)
  unfold m_are_sizes
  simp [peek, peekS, triple_sz]
  rw [sz_map]
  simp only [sM_tup]
  refine ⟨by simp, comp_all (fun _ => .bl true) (fun m hm => ⟨_, rfl, ?_⟩) ?_⟩
  · have : 1 ≤ m ∧ m ≤ 4 := by
      simp at hm
      rcases hm with rfl | rfl | rfl <;> assumption
    simp [peek, peekS, killAll]
    omega
  · rw [fAll_map (fun _ => true)]
    simp
/-- the office of its parts -/
def offD (p : Pt) : D := .obj "Office" kNames [szD p.sz, .tup (p.rows.map rowD), .tup (p.cls.map clD), .lst (p.rows.map fun r => keptD (keptOf r))]
theorem listOf_ok {α : Type} {f : D → Option α} {g : α → D} : ∀ {l : List α}, (∀ a ∈ l, f (g a) = some a) → listOf f (l.map g) = some l
  | [], _ => rfl
  | a :: l, h => by
    rw [List.map_cons]
    unfold listOf
    rw [h a List.mem_cons_self, listOf_ok fun b hb => h b (List.mem_cons_of_mem _ hb)]
theorem rowsOf_ok {rows : List (List Mv)} (h1 : rows.length ≤ 1000000) (h2 : ∀ r ∈ rows, r.length ≤ 1000000) : rowsOf (.tup (rows.map rowD)) = some rows := by
  unfold rowsOf
  simp only []
  rw [if_pos (by rw [List.length_map]; exact h1)]
  refine listOf_ok fun r hr => ?_
  unfold rowD rowOf
  simp only []
  rw [if_pos (by rw [List.length_map]; exact h2 r hr)]
  exact listOf_ok fun m _ => rfl
theorem initT_no {t : MT} {r : MS} {k : Env → OR} {env : Env} (h : wE (t env) fun b e => b = false ∧ e = env) : initT t r k env = k env := by
  obtain ⟨b, e, h1, rfl, rfl⟩ := wE_eq h
  unfold initT
  rw [h1]
theorem office_ok {p : Pt} (hp : PtOk p) : i_Office [szD p.sz, .tup (p.rows.map rowD), .tup (p.cls.map clD)] = .ok [szD p.sz, .tup (p.rows.map rowD), .tup (p.cls.map clD), .lst (p.rows.map fun r => keptD (keptOf r))] := by
  unfold i_Office fInit
  rw [if_neg (by simp)]
  rw [show envC 4 [szD p.sz, .tup (p.rows.map rowD), .tup (p.cls.map clD)] = [.dead, .fz (szD p.sz), .fz (.tup (p.rows.map rowD)), .fz (.tup (p.cls.map clD))] from rfl]
  rw [initT_no (by simp [peek, peekS, are_sizes_ok hp.sz])]
  rw [initT_no (by simp [peek, peekS, are_moves_ok hp.n hp.rows])]
  have hn := hp.n
  rw [initT_no (by simp [peek, peekS, are_closings_ok hp.sz (n := p.rows.length) (by rw [hp.e]) (by rw [hp.e]; omega) hp.cl])]
  unfold fKeep
  simp only []
  rw [rowsOf_ok (by omega) fun r hr => by have := (hp.rows.row r hr).1; omega]
theorem made_ok {p : Pt} (hp : PtOk p) : r__law_made [ptD p] = .ok (offD p) := by
  rw [r__law_made_df]
  refine runP_ok rfl (show wE (m__law_made [.fz (ptD p)]) _ from ?_)
  unfold m__law_made
  simp [peek, peekS, office_ok hp]
  rfl
end Mi

set_option Elab.async false
set_option linter.all false
set_option maxRecDepth 100000
set_option maxHeartbeats 2000000
namespace Mi
open PySem PySem.Spec PyProof.Rows L2

@[simp] theorem fld_sizes (p : Pt) : dFld cs_off "sizes" (offD p) = some (szD p.sz) := rfl
@[simp] theorem fld_moves (p : Pt) : dFld cs_off "moves" (offD p) = some (.tup (p.rows.map rowD)) := rfl
@[simp] theorem fld_closings (p : Pt) : dFld cs_off "closings" (offD p) = some (.tup (p.cls.map clD)) := rfl
@[simp] theorem fld_kept (p : Pt) : dFld cs_off "kept_goals" (offD p) = some (.lst (p.rows.map fun r => keptD (keptOf r))) := rfl
theorem dNe_same {n : Nat} {d : D} (hn : n ≤ 60) (h : itN n d = true) : dNe d d = some (.bl false) := by
  rw [dNe_it hn h h, eqD_refl_it h]; rfl
theorem cut_take {xs : List D} {k : Nat} (h : k ≤ xs.length) : cutD xs none (some (k : Int)) = xs.take k := by
  unfold cutD
  have : HT.sIx xs.length 0 none = 0 := rfl
  rw [this]
  have h2 : HT.sIx xs.length xs.length (some (k : Int)) = k := by
    simp [HT.sIx]
    rw [if_neg (by omega)]
    omega
  rw [h2]
  simp
theorem cut_drop {xs : List D} {k : Nat} (h : k ≤ xs.length) : cutD xs (some (k : Int)) none = xs.drop k := by
  unfold cutD
  have : HT.sIx xs.length xs.length none = xs.length := rfl
  rw [this]
  have h2 : HT.sIx xs.length 0 (some (k : Int)) = k := by
    simp [HT.sIx]
    rw [if_neg (by omega)]
    omega
  rw [h2]
  exact List.take_of_length_le (by simp)
@[simp] theorem fList_sz (s : S3) : fList [szD s] = some (.lst [.int s.1, .int s.2.1, .int s.2.2]) := rfl
end Mi

set_option Elab.async false
set_option linter.all false
set_option maxRecDepth 100000
set_option maxHeartbeats 1000000
namespace Mi
open PySem PySem.Spec PyProof.Rows L2

/-! ## days judged, good ones -/
def ntD (t : S3) : D := .tup [.int t.1, .int t.2.1]
def bdD (l : List S3) (m : Int) : D := .tup [.tup (l.map fun t => .int t.2.2), .int m]
@[simp] theorem sl_sz2 (t : S3) : dSl none (some 2) (szD t) = some (ntD t) := rfl
@[simp] theorem dIx_nt0 (t : S3) : dIx (ntD t) (.int 0) = some (.int t.1) := rfl
@[simp] theorem dIx_nt1 (t : S3) : dIx (ntD t) (.int 1) = some (.int t.2.1) := rfl
@[simp] theorem dIx_bd0 (l : List S3) (m : Int) : dIx (bdD l m) (.int 0) = some (.tup (l.map fun t => .int t.2.2)) := rfl
@[simp] theorem dIx_bd1 (l : List S3) (m : Int) : dIx (bdD l m) (.int 1) = some (.int m) := rfl
@[simp] theorem pair_nt (t : S3) : r_is_pair [ntD t] = .ok (.bl true) := r_is_pair_eq rfl
@[simp] theorem pair_day (l : List S3) (m : Int) : r_is_pair [dayD l m] = .ok (.bl true) := by
  rw [r_is_pair_df]
  refine runP_ok rfl (show wE (m_is_pair [.fz (dayD l m)]) _ from ?_)
  simp [m_is_pair, peek, peekS]
theorem is_mark_eq (p : Pt) {x : D} (h : okD x = true) : r_is_mark [offD p, x] = .ok (.bl (inD x 0 (p.sz.2.2 - 1))) := by
  rw [r_is_mark_df]
  refine runP_ok rfl (show wE (m_is_mark [.fz (offD p), .fz x]) _ from ?_)
  simp [m_is_mark, peek, peekS, r_is_within_eq h]
theorem mark_ok (p : Pt) {m : Int} (h : 0 ≤ m ∧ m < p.sz.2.2) : r_is_mark [offD p, .int m] = .ok (.bl true) := by
  rw [is_mark_eq p rfl]
  simp only [inD, PR.ok.injEq, D.bl.injEq, Bool.and_eq_true, decide_eq_true_eq]
  omega
theorem is_note_ok (p : Pt) {t : S3} (h : StOk p.sz t) : r_is_note [offD p, ntD t] = .ok (.bl true) := by
  have a := h.a
  have b := h.b
  rw [r_is_note_df]
  refine runP_ok rfl (show wE (m_is_note [.fz (offD p), .fz (ntD t)]) _ from ?_)
  simp [m_is_note, peek, peekS]
  omega
theorem is_step_ok (p : Pt) {t : S3} (h : StOk p.sz t) : r_is_step [offD p, szD t] = .ok (.bl true) := by
  have c := h.c
  rw [r_is_step_df]
  refine runP_ok rfl (show wE (m_is_step [.fz (offD p), .fz (szD t)]) _ from ?_)
  simp [m_is_step, peek, peekS, triple_sz, is_note_ok p h, mark_ok p c]
theorem are_steps_ok (p : Pt) {l : List S3} (hl : l.length ≤ 1000000) (h : StsOk p.sz l) : r_are_steps [offD p, .tup (l.map szD)] = .ok (.bl true) := by
  rw [r_are_steps_df]
  refine runP_ok rfl (show wE (m_are_steps [.fz (offD p), .fz (.tup (l.map szD)), .dead]) _ from ?_)
  simp [m_are_steps, peek, peekS]
  refine ⟨by omega, comp_all (fun _ => .bl true) (fun t ht => ⟨_, rfl, ?_⟩) ?_⟩
  · simp [peek, peekS, is_step_ok p (h.all t ht), killAll]
  · rw [fAll_map (fun _ => true)]
    simp
theorem is_day_ok (p : Pt) {l : List S3} {m : Int} (hl : l.length ≤ 1000000) (h : DayOk p.sz l m) : r_is_day [offD p, dayD l m] = .ok (.bl true) := by
  have a := h.m
  rw [r_is_day_df]
  refine runP_ok rfl (show wE (m_is_day [.fz (offD p), .fz (dayD l m)]) _ from ?_)
  simp [m_is_day, peek, peekS, are_steps_ok p hl h.st, mark_ok p a]
theorem it_nts (l : List S3) : itN 2 (.tup (l.map ntD)) = true := by
  rw [itN_tup, List.all_eq_true]
  intro d hd
  obtain ⟨t, _, rfl⟩ := List.mem_map.mp hd
  rfl
theorem it_szs (l : List S3) : itN 2 (.tup (l.map szD)) = true := by
  rw [itN_tup, List.all_eq_true]
  intro d hd
  obtain ⟨t, _, rfl⟩ := List.mem_map.mp hd
  rfl
theorem it_day (l : List S3) (m : Int) : itN 3 (dayD l m) = true := by
  show [D.tup (l.map szD), D.int m].all (itN 2) = true
  rw [List.all_cons, it_szs]; rfl
theorem it_bd (l : List S3) (m : Int) : itN 3 (bdD l m) = true := by
  show [D.tup (l.map fun t => D.int t.2.2), D.int m].all (itN 2) = true
  rw [List.all_cons, show itN 2 (D.tup (l.map fun t => D.int t.2.2)) = true from ?_]
  · rfl
  · rw [itN_tup, List.all_eq_true]
    intro d hd
    obtain ⟨t, _, rfl⟩ := List.mem_map.mp hd
    rfl
@[simp] theorem ty_tup_bd (l : List S3) (m : Int) : fIsTy [bdD l m, .ty "tuple"] = some (.bl true) := rfl
@[simp] theorem b_tup_sz3 (bs : Bds) (s : S3) (env : Env) : bTup 3 bs (szD s) env = bs [.int s.1, .int s.2.1, .int s.2.2] env := rfl
end Mi

set_option Elab.async false
set_option linter.all false
set_option maxRecDepth 100000
set_option maxHeartbeats 2000000
namespace Mi
open PySem PySem.Spec PyProof.Rows L2

@[simp] theorem b_tup_day (bs : Bds) (l : List S3) (m : Int) (env : Env) : bTup 2 bs (dayD l m) env = bs [.tup (l.map szD), .int m] env := rfl
/-! ## days judged, whatever is asked -/
def isNoteD (p : Pt) (a b : D) : Bool := inD a 0 (p.sz.1 - 1) && inD b 0 (p.sz.2.1 - 1)
def isStepD (p : Pt) : D → Bool
  | .tup [a, b, c] => isNoteD p a b && inD c 0 (p.sz.2.2 - 1)
  | _ => false
def isDayD (p : Pt) : D → Bool
  | .tup [.tup ds, m] => ds.all (isStepD p) && inD m 0 (p.sz.2.2 - 1)
  | _ => false
theorem is_note_eq (p : Pt) {a b : D} (ha : okD a = true) (hb : okD b = true) : r_is_note [offD p, .tup [a, b]] = .ok (.bl (isNoteD p a b)) := by
  rw [r_is_note_df]
  refine runP_ok rfl (show wE (m_is_note [.fz (offD p), .fz (.tup [a, b])]) _ from ?_)
  have h2 : okD (.tup [a, b]) = true := by simp [okD, okL, ha, hb]
  simp [m_is_note, peek, peekS, r_is_pair_eq h2, isTn, r_is_within_eq ha, r_is_within_eq hb, isNoteD, atI, ixN]
  cases inD a 0 (p.sz.1 - 1) <;> simp
theorem is_step_eq (p : Pt) {x : D} (h : okD x = true) : r_is_step [offD p, x] = .ok (.bl (isStepD p x)) := by
  rw [r_is_step_df]
  refine runP_ok rfl (show wE (m_is_step [.fz (offD p), .fz x]) _ from ?_)
  simp [m_is_step, peek, peekS, r_is_triple_eq h]
  cases x with
  | tup ds =>
    rcases ds with _ | ⟨a, _ | ⟨b, _ | ⟨c, _ | ⟨d, r⟩⟩⟩⟩
    · simp [isTn, isStepD]
    · simp [isTn, isStepD]
    · simp [isTn, isStepD]
    · have e2 : dSl none (some 2) (.tup [a, b, c]) = some (.tup [a, b]) := rfl
      have : okD a = true ∧ okD b = true ∧ okD c = true := by simpa [okD, okL] using h
      simp [isTn, isStepD, e2, is_note_eq p this.1 this.2.1, is_mark_eq p this.2.2, atI, ixN]
      cases isNoteD p a b <;> simp
    · simp [isTn, isStepD]
  | _ => simp [isTn, isStepD]
theorem comp_allD {vs : List Nat} {b : Bd} {m : ME} {Q : List D → Env → Prop} {env : Env} (f : D → D) {ds : List D} (h : ∀ a ∈ ds, ∃ e1, b a env = some e1 ∧ wE (m e1) fun y e3 => y = f a ∧ killAll vs e3 = env)
    (q : Q (ds.map f) env) : wE (compGo vs b mYes m ds env) Q := by
  have := comp_all (vs := vs) (b := b) (m := m) (Q := Q) (env := env) (g := id) f (as := ds) h q
  rwa [List.map_id] at this
theorem are_steps_eq (p : Pt) {x : D} (h : okD x = true) : r_are_steps [offD p, x] = .ok (.bl (match x with | .tup ds => ds.all (isStepD p) | _ => false)) := by
  rw [r_are_steps_df]
  refine runP_ok rfl (show wE (m_are_steps [.fz (offD p), .fz x, .dead]) _ from ?_)
  simp [m_are_steps, peek, peekS, ty_tuple h]
  cases x with
  | tup ds =>
    simp [isT]
    obtain ⟨hl, hk⟩ := okD_tup.mp h
    refine ⟨hl, comp_allD (fun d => .bl (isStepD p d)) (fun d hd => ⟨_, rfl, ?_⟩) ?_⟩
    · simp [peek, peekS, is_step_eq p (okL_mem hk d hd), killAll]
    · rw [fAll_map (isStepD p)]
      simp
  | _ => simp [isT]
theorem is_day_eq (p : Pt) {x : D} (h : okD x = true) : r_is_day [offD p, x] = .ok (.bl (isDayD p x)) := by
  rw [r_is_day_df]
  refine runP_ok rfl (show wE (m_is_day [.fz (offD p), .fz x]) _ from ?_)
  simp [m_is_day, peek, peekS, r_is_pair_eq h]
  cases x with
  | tup xs =>
    rcases xs with _ | ⟨a, _ | ⟨m, _ | ⟨d, r⟩⟩⟩
    · simp [isTn, isDayD]
    · simp [isTn, isDayD]
    · have : okD a = true ∧ okD m = true := by simpa [okD, okL] using h
      have e := are_steps_eq p this.1
      cases a with
      | tup ds =>
        simp at e
        simp [isTn, isDayD, e, is_mark_eq p this.2, atI, ixN]
        split
        · rename_i q; exact fun _ => q
        · rename_i q; exact fun z => absurd z q
      | _ => (have e : r_are_steps [offD p, _] = .ok (.bl false) := e); simp [isTn, isDayD, e, atI, ixN]
    · simp [isTn, isDayD]
  | _ => simp [isTn, isDayD]
/-- a day that is right -/
theorem isDay_inv {p : Pt} {x : D} (h : isDayD p x = true) : ∃ l m, x = dayD l m ∧ DayOk p.sz l m := by
  have num : ∀ (d : D) (n : Int), inD d 0 (n - 1) = true → ∃ i : Int, d = .int i ∧ 0 ≤ i ∧ i < n := fun d n hd => by
    cases d with
    | int i => exact ⟨i, rfl, by simp [inD] at hd; omega⟩
    | _ => simp [inD] at hd
  unfold isDayD at h
  split at h
  · rename_i ds m
    rw [Bool.and_eq_true] at h
    obtain ⟨mi, rfl, hm⟩ := num m _ h.2
    have key : ∀ ds : List D, ds.all (isStepD p) = true → ∃ l, ds = l.map szD ∧ StsOk p.sz l := by
      intro ds
      induction ds with
      | nil => exact fun _ => ⟨[], rfl, ⟨by simp⟩⟩
      | cons d ds ih =>
        intro hd
        rw [List.all_cons, Bool.and_eq_true] at hd
        obtain ⟨l, rfl, hl⟩ := ih hd.2
        have h1 := hd.1
        unfold isStepD at h1
        split at h1
        · rename_i a b c
          rw [Bool.and_eq_true, isNoteD, Bool.and_eq_true] at h1
          obtain ⟨ai, rfl, ha⟩ := num a _ h1.1.1
          obtain ⟨bi, rfl, hb⟩ := num b _ h1.1.2
          obtain ⟨ci, rfl, hc⟩ := num c _ h1.2
          refine ⟨(ai, bi, ci) :: l, rfl, ⟨fun t ht => ?_⟩⟩
          rcases List.mem_cons.mp ht with rfl | ht
          · exact ⟨ha, hb, hc⟩
          · exact hl.all t ht
        · cases h1
    obtain ⟨l, rfl, hl⟩ := key ds h.1
    exact ⟨l, mi, rfl, hl, hm⟩
  · cases h
theorem okD_szs (l : List S3) : okL (l.map szD) = true := by
  induction l with
  | nil => rfl
  | cons t l ih => rw [List.map_cons]; unfold okL; rw [ih]; rfl
theorem okD_steps {l : List S3} (h : l.length ≤ 1000000) : okD (.tup (l.map szD)) = true := okD_tup.mpr ⟨by rw [List.length_map]; exact h, okD_szs l⟩
theorem okD_day {l : List S3} (h : l.length ≤ 1000000) (m : Int) : okD (dayD l m) = true := by
  refine okD_tup.mpr ⟨by simp, ?_⟩
  simp [okL, okD_steps h]
@[simp] theorem okD_off (p : Pt) : okD (offD p) = true := by
  show decide (("Office" : Str) = "Office") = true
  exact decide_eq_true rfl
theorem okL_app : ∀ {a b : List D}, okL a = true → okL b = true → okL (a ++ b) = true
  | [], _, _, h => h
  | x :: a, b, h, g => by
    unfold okL at h
    rw [Bool.and_eq_true] at h
    rw [List.cons_append]
    unfold okL
    rw [h.1, okL_app h.2 g]; rfl
theorem ok_at {ds : List D} {n : Int} (h : okL ds = true) (h0 : 0 ≤ n) (h1 : n < ds.length) : ∃ x, atI ds n = some x ∧ okD x = true := by
  have hn : n.toNat < ds.length := by omega
  refine ⟨ds[n.toNat], ?_, okL_mem h _ (List.getElem_mem hn)⟩
  rw [atI_of n.toNat (by omega), List.getElem?_eq_getElem hn]
theorem cut_takeA (xs : List D) (k : Nat) : cutD xs none (some (k : Int)) = xs.take k := by
  rcases Nat.lt_or_ge xs.length k with q | q
  · unfold cutD
    have : HT.sIx xs.length 0 none = 0 := rfl
    rw [this]
    have h2 : HT.sIx xs.length xs.length (some (k : Int)) = xs.length := by
      simp [HT.sIx]
      rw [if_neg (by omega)]
      omega
    rw [h2]
    simp
    rw [List.take_of_length_le (by omega)]
  · exact cut_take q
@[simp] theorem okD_lst (ds : List D) : okD (.lst ds) = okL ds := rfl
@[simp] theorem okD_bl (b : Bool) : okD (.bl b) = true := rfl
@[simp] theorem okD_non : okD .non = true := rfl
@[simp] theorem okD_str (s : Str) : okD (.str s) = true := rfl
@[simp] theorem okD_dic (ks ws : List D) : okD (.dic false ks ws) = true := rfl
@[simp] theorem okL_nil : okL [] = true := rfl
@[simp] theorem okL_cons (d : D) (ds : List D) : okL (d :: ds) = (okD d && okL ds) := rfl
@[simp] theorem okD_tupB (ds : List D) : okD (.tup ds) = (decide (ds.length ≤ 1000000) && okL ds) := rfl
structure BeIn (mk : D → Env) (e : Env) : Prop where
  ex : ∃ ds, e = mk (.lst ds) ∧ okL ds = true ∧ 0 < ds.length ∧ ds.length ≤ 60
structure BhIn (N : Nat) (mk : List D → D → Env) (e : Env) : Prop where
  ex : ∃ h ds, GoodH h ∧ e = mk h (.lst ds) ∧ okL ds = true ∧ 0 < ds.length ∧ ds.length ≤ N
/-! ### displays of odd things -/
def Er (mk : List D → Env) (m : ME) : Prop := ∀ h, GoodH h → wE (m (mk h)) fun d e => okD d = true ∧ HIn mk e
def ErL (mk : List D → Env) (ms : List ME) (n : Nat) : Prop := ∀ h, GoodH h → wE (mL ms (mk h)) fun ds e => (okL ds = true ∧ ds.length = n) ∧ HIn mk e
section
variable {mk : List D → Env} {m : ME} {ms : List ME} {n i : Nat} {d : D}
theorem er_var (h : ∀ x, (mk x)[i]? = some (.fz d)) (hd : okD d = true) : Er mk (mVar i) := fun x g => by
  rw [w_mVar, h x]
  exact ⟨hd, x, g, rfl⟩
theorem er_k (hd : okD d = true) : Er mk (mK d) := fun x g => ⟨hd, x, g, rfl⟩
theorem er_d0 : Er mk mD0 := fun x g => ⟨rfl, x, g, rfl⟩
theorem el_nil : ErL mk [] 0 := fun x g => ⟨⟨rfl, rfl⟩, x, g, rfl⟩
theorem el_cons (h : Er mk m) (hs : ErL mk ms n) : ErL mk (m :: ms) (n + 1) := fun x g => by
  rw [w_mL_cons]
  refine (h x g).imp fun d e ⟨hd, x1, g1, he⟩ => ?_
  subst he
  refine (hs x1 g1).imp fun ds e ⟨⟨h1, h2⟩, h3⟩ => ?_
  exact ⟨⟨by rw [okL_cons, hd, h1]; rfl, by rw [List.length_cons, h2]⟩, h3⟩
theorem er_tup (hs : ErL mk ms n) (hn : n ≤ 1000000) : Er mk (mTup (mL ms)) := fun x g => by
  rw [w_mTup]
  refine (hs x g).imp fun ds e ⟨⟨h1, h2⟩, h3⟩ => ?_
  exact ⟨by rw [h2]; exact hn, okD_tup.mpr ⟨by rw [h2]; exact hn, h1⟩, h3⟩
theorem er_lst (hs : ErL mk ms n) (hn : n ≤ 1000000) : Er mk (mLstF (mL ms)) := fun x g => by
  rw [w_mLstF]
  refine (hs x g).imp fun ds e ⟨⟨h1, h2⟩, h3⟩ => ?_
  exact ⟨by rw [h2]; exact hn, h1, h3⟩
theorem er_draw {k : Int} {o : ME} (h0 : ∀ x, (mk x)[0]? = some (.io x)) (hset : ∀ x y, (mk x).set 0 (.io y) = mk y) (ho : ∀ x, o (mk x) = .ok (.int k, mk x)) (h1 : 0 < k) (h2 : k < 1073741824) : Er mk (mCallI r__law_draw 0 (mL [o])) := fun x g => by
  have e0 : peek (mk x) 0 = some (.lst x) := by unfold peek; rw [h0 x]; rfl
  rw [w_mCallI]
  refine ⟨by rw [e0]; rfl, ?_⟩
  rw [w_mL_cons, ho x]
  simp only [w_ok, w_mL_nil, h0 x, slM_io]
  refine draw_step g h1 h2 fun n1 h1 g1 b1 c1 => ?_
  rw [hset]
  exact ⟨rfl, h1, g1, rfl⟩
/-- y = [..] -/
theorem er_asg {R : Env → Prop} (hs : ErL mk ms n) (hn : n ≤ 1000000) (h : ∀ x ds, GoodH x → okL ds = true → ds.length = n → R ((mk x).set i (.fz (.lst ds)))) {x : List D} (g : GoodH x) : wE (mAsg i (mLstF (mL ms)) (mk x)) fun f e => f = .nx ∧ R e := by
  rw [w_mAsg, w_mLstF]
  refine (hs x g).imp fun ds e ⟨⟨h1, h2⟩, h3, g3, he⟩ => ?_
  subst he
  exact ⟨by rw [h2]; exact hn, rfl, h h3 ds g3 h1 h2⟩
/-- y = y + [..] -/
theorem er_add {R : Env → Prop} {ds0 : List D} (hi : ∀ x, (mk x)[i]? = some (.fz (.lst ds0))) (h0 : okL ds0 = true) (hl : ds0.length + n ≤ 1000000) (hs : ErL mk ms n) (h : ∀ x ds, GoodH x → okL ds = true → ds.length = ds0.length + n → R ((mk x).set i (.fz (.lst ds)))) {x : List D} (g : GoodH x) :
    wE (mAsg i (mBin dAdd (.v i) (.m (mLstF (mL ms)))) (mk x)) fun f e => f = .nx ∧ R e := by
  have pk : ∀ x, peek (mk x) i = some (.lst ds0) := fun x => by unfold peek; rw [hi x]; rfl
  rw [w_mAsg, w_mBin]
  simp only [oW_v, oW_m, w_mLstF]
  refine ⟨by rw [pk]; rfl, ?_⟩
  refine (hs x g).imp fun ds e ⟨⟨h1, h2⟩, h3, g3, he⟩ => ?_
  subst he
  refine ⟨by rw [h2]; show _ ≤ 1000000; omega, ?_⟩
  simp only [get_v, pk, get_m, oM_some]
  rw [dAdd_lst (by omega)]
  exact ⟨by simp, h h3 _ g3 (okL_app h0 h1) (by rw [List.length_append, h2])⟩
end
theorem er_szi {mk : List D → Env} {p : Pt} (h : ∀ x, (mk x)[1]? = some (.fz (ptD p))) {k : Int} {i : Int} (hk : dIx (szD p.sz) (.int k) = some (.int i)) : Er mk (mBin dIx (.m (mBin dIx (.v 1) (.c (.int 0)))) (.c (.int k))) := fun x g => by
  have pk : peek (mk x) 1 = some (ptD p) := by unfold peek; rw [h x]; rfl
  simp [pk, hk]
  exact ⟨x, g, rfl⟩
theorem er_neg {mk : List D → Env} {i : Int} : Er mk (mUn dNeg (.c (.int i))) := fun x g => by
  simp [dNeg]
  exact ⟨x, g, rfl⟩
end Mi

set_option Elab.async false
set_option linter.all false
set_option maxRecDepth 100000
set_option maxHeartbeats 1000000
namespace Mi
open PySem PySem.Spec PyProof.Rows L2

/-! ## dicts -/
def dcM (d : D) (k : Bool → List D → List D → Prop) : Prop := match d with
  | .dic t ks ws => k t ks ws
  | _ => False
@[simp] theorem dcM_dic (t : Bool) (ks ws : List D) (k : Bool → List D → List D → Prop) : dcM (.dic t ks ws) k = k t ks ws := rfl
def odM (s : Option Sl) (k : Bool → List D → List D → Prop) : Prop := match s with
  | some (.od t ks ws) => k t ks ws
  | _ => False
@[simp] theorem odM_od (t : Bool) (ks ws : List D) (k : Bool → List D → List D → Prop) : odM (some (.od t ks ws)) k = k t ks ws := rfl
@[simp] theorem dcM_kept (g : KG) (k : Bool → List D → List D → Prop) : dcM (keptD g) k = k true (g.map fun e => kD e.1) (g.map fun e => .lst (e.2.map .int)) := rfl
@[simp] theorem w_mGet2 (o k : Opd) (m : ME) {env : Env} {Q : D → Env → Prop} : wE (mGet2 o k m env) Q = oW o env fun x e1 => oM (o.get x e1) fun d1 => dcM d1 fun _ _ _ => oW k e1 fun y e2 => wE (m e2) fun z e3 => oM (o.get x e3) fun d => oM (k.get y e3) fun dk => dcM d fun t ks ws => oM (dicGet t ks ws dk) fun r => Q (r.getD z) e3 := by
  unfold mGet2 oW
  rw [w_bind]
  congr 1; funext x e1
  simp only []
  cases o.get x e1 with
  | none => rfl
  | some d1 =>
    cases d1 with
    | dic t1 ks1 ws1 =>
      simp only [oM_some, dcM_dic, w_bind]
      congr 1; funext y e2; congr 1; funext z e3
      cases o.get x e3 with
      | none => rfl
      | some d =>
        cases k.get y e3 with
        | none => cases d <;> rfl
        | some dk =>
          cases d with
          | dic t ks ws =>
            simp only [oM_some, dcM_dic]
            cases dicGet t ks ws dk with
            | none => rfl
            | some r => cases r <;> rfl
          | _ => rfl
    | _ => rfl
@[simp] theorem w_mPut (i : Nat) (k m : ME) {env : Env} {Q : Fl → Env → Prop} : wE (mPut i k m env) Q = wE (m env) fun d e1 => ((peek e1 i).isSome = true ∧ wE (k e1) fun x e2 => odM e2[i]? fun t ks ws => ws.length < lim ∧ oM (dicPut t ks ws x d) fun p => Q .nx (e2.set i (.od t p.1 p.2))) := by
  unfold mPut
  rw [w_bind]
  congr 1; funext d e1
  simp only []
  cases peek e1 i with
  | none => simp
  | some y =>
    simp only [Option.isNone_some, Bool.false_eq_true, if_false, Option.isSome_some, true_and]
    rw [w_bind]
    congr 1; funext x e2
    simp only []
    cases e2[i]? with
    | none => rfl
    | some s =>
      cases s with
      | od t ks ws =>
        simp only [odM_od]
        by_cases h : ws.length < lim
        · rw [if_pos h]
          simp only [h, true_and]
          cases dicPut t ks ws x d <;> rfl
        · rw [if_neg h, w_bad, eq_false h, false_and]
      | _ => rfl
theorem keysOf_int : ∀ l : List Int, keysOf (l.map .int) = some (l.map .inl)
  | [] => rfl
  | a :: l => by simp only [List.map_cons, keysOf, keyOf, keysOf_int l]
theorem replK_len {κ : Type} [DecidableEq κ] : ∀ (kk : List κ) (ws : List D) (k : κ) (d : D), (replK kk ws k d).length = ws.length
  | [], ws, _, _ => by cases ws <;> rfl
  | a :: kk, [], _, _ => rfl
  | a :: kk, w :: ws, k, d => by unfold replK; rw [List.length_cons, List.length_cons, replK_len kk ws k d]
/-- a set of ints, as a dict -/
theorem put_int (l : List Int) (ws : List D) (g : Int) (d : D) : dicPut false (l.map .int) ws (.int g) d = some (if g ∈ l then (l.map .int, replK (l.map .inl) ws (.inl g : Key) d) else ((l ++ [g]).map .int, ws ++ [d])) := by
  unfold dicPut
  simp only [keysOf_int, keyOf]
  congr 1
  have : hasK (l.map .inl) (.inl g : Key) = decide (g ∈ l) := by
    unfold hasK
    rw [List.any_map]
    by_cases h : g ∈ l
    · rw [decide_eq_true h, List.any_eq_true]
      exact ⟨g, h, by simp⟩
    · rw [decide_eq_false h, List.any_eq_false]
      intro x hx
      simp
      intro e
      subst e
      exact h hx
  rw [this]
  by_cases h : g ∈ l
  · rw [if_pos h, if_pos (decide_eq_true h)]
  · rw [if_neg h, if_neg (by simpa using h)]; simp
/-! ## what is kept of a row -/
def stepOf (m : Mv) : S3 := (m.1, m.2.1, m.2.2.1)
def goalOf (m : Mv) : Int := m.2.2.2
def lookG : KG → K3 → Option (List Int)
  | [], _ => none
  | e :: r, k => if e.1 = k then some e.2 else lookG r k
theorem lookG_ins (k k' : K3) (x : Int) : ∀ g : KG, lookG (kIns g k x) k' = if k = k' then some ((lookG g k).getD [] ++ [x]) else lookG g k'
  | [] => by
    unfold kIns lookG lookG
    by_cases h : k = k'
    · rw [if_pos h, if_pos h]; rfl
    · rw [if_neg h, if_neg h]
  | e :: r => by
    unfold kIns
    by_cases h : e.1 = k
    · rw [if_pos h]
      by_cases h2 : k = k'
      · simp [lookG, h, h2]
      · simp [lookG, h, h2]
    · rw [if_neg h]
      unfold lookG
      rw [lookG_ins k k' x r, if_neg h]
      by_cases h2 : e.1 = k'
      · rw [if_pos h2, if_pos h2, if_neg (fun z => h (h2.trans z.symm))]
      · rw [if_neg h2, if_neg h2]
def goalsAt (row : List Mv) (t : S3) : List Int := (row.filter fun m => decide (stepOf m = t)).map goalOf
theorem lookG_kept (t : S3) (row : List Mv) : (lookG (keptOf row) t).getD [] = goalsAt row t := by
  have key : ∀ (row : List Mv) (acc : KG), (lookG (row.foldl (fun acc m => kIns acc (m.1, m.2.1, m.2.2.1) m.2.2.2) acc) t).getD [] = (lookG acc t).getD [] ++ goalsAt row t := by
    intro row
    induction row with
    | nil => intro acc; simp [goalsAt]
    | cons m row ih =>
      intro acc
      rw [List.foldl_cons, ih, lookG_ins, show (m.1, m.2.1, m.2.2.1) = stepOf m from rfl]
      unfold goalsAt
      by_cases h : stepOf m = t
      · rw [if_pos h, List.filter_cons_of_pos (by simpa using h)]
        subst h
        simp [goalOf]
      · rw [if_neg h, List.filter_cons_of_neg (by simpa using h)]
  have := key row []
  unfold keptOf
  rw [this]
  rfl
theorem get_kept (t : S3) (g : KG) : dicGet true (g.map fun e => kD e.1) (g.map fun e => .lst (e.2.map .int)) (szD t) = some ((lookG g t).map fun l => .lst (l.map .int)) := by
  unfold dicGet
  simp only [tkeys_kD]
  show some (findK (g.map fun e => kK e.1) _ (kK t)) = _
  congr 1
  induction g with
  | nil => rfl
  | cons e r ih =>
    simp only [List.map_cons, findK, lookG]
    by_cases h : e.1 = t
    · rw [if_pos h, if_pos (by rw [h])]; rfl
    · rw [if_neg h, if_neg (fun z => h (kK_inj z))]; exact ih
theorem get_keptD (t : S3) (row : List Mv) : ∃ r, dicGet true ((keptOf row).map fun e => kD e.1) ((keptOf row).map fun e => .lst (e.2.map .int)) (szD t) = some r ∧ r.getD (.lst []) = .lst ((goalsAt row t).map .int) := by
  refine ⟨_, get_kept t _, ?_⟩
  rw [← lookG_kept]
  cases lookG (keptOf row) t <;> rfl
/-! ## sets of standings -/
def rowAt (p : Pt) (st : Int) : List Mv := (p.rows[st.toNat]?).getD []
def clAt (p : Pt) (st : Int) : List Int := (p.cls[st.toNat]?).getD []
def reach (p : Pt) (sts : List Int) (t : S3) : List Int := ((List.range p.rows.length).map Int.ofNat).filter fun g => sts.any fun st => decide (g ∈ goalsAt (rowAt p st) t)
structure StdOk (p : Pt) (sts : List Int) : Prop where
  all : ∀ st ∈ sts, 0 ≤ st ∧ st < p.rows.length
  asc : sts.Pairwise (· < ·)
theorem reach_mem {p : Pt} (hp : PtOk p) {sts : List Int} (t : S3) {g : Int} : g ∈ reach p sts t ↔ ∃ st ∈ sts, g ∈ goalsAt (rowAt p st) t := by
  unfold reach
  rw [List.mem_filter, List.any_eq_true]
  constructor
  · rintro ⟨_, st, h1, h2⟩
    exact ⟨st, h1, by simpa using h2⟩
  · rintro ⟨st, h1, h2⟩
    refine ⟨?_, st, h1, by simpa using h2⟩
    obtain ⟨m, hm, rfl⟩ := List.mem_map.mp h2
    have hm := (List.mem_filter.mp hm).1
    unfold rowAt at hm
    cases e : p.rows[st.toNat]? with
    | none => rw [e] at hm; cases hm
    | some row =>
      rw [e] at hm
      have := ((hp.rows.row row (List.mem_of_getElem? e)).2.mv m hm).d
      exact List.mem_map.mpr ⟨(goalOf m).toNat, List.mem_range.mpr (by unfold goalOf; omega), by unfold goalOf; simp; omega⟩
theorem rng_asc (n : Nat) : ((List.range n).map Int.ofNat).Pairwise (· < ·) := by
  rw [List.pairwise_map]
  exact List.pairwise_lt_range.imp fun h => by simpa using h
theorem reach_ok {p : Pt} (hp : PtOk p) (sts : List Int) (t : S3) : StdOk p (reach p sts t) := by
  refine ⟨fun g hg => ?_, (rng_asc _).filter _⟩
  have := (List.mem_filter.mp hg).1
  obtain ⟨i, hi, rfl⟩ := List.mem_map.mp this
  have := List.mem_range.mp hi
  simp; omega
theorem asc_len : ∀ (c : List Int) (lo m : Int), c.Pairwise (· < ·) → (∀ x ∈ c, lo ≤ x ∧ x < m) → (c.length : Int) ≤ m - lo ∨ c = []
  | [], _, _, _, _ => .inr rfl
  | a :: c, lo, m, hp, hr => by
    have ha := hr a List.mem_cons_self
    rcases asc_len c (a + 1) m hp.tail fun x hx => ⟨by have := List.rel_of_pairwise_cons hp hx; omega, (hr x (List.mem_cons_of_mem _ hx)).2⟩ with h | h
    · left; rw [List.length_cons]; push_cast; omega
    · left; subst h; simp; omega
theorem StdOk.len {p : Pt} (hp : PtOk p) {sts : List Int} (h : StdOk p sts) : sts.length ≤ 20 := by
  have hn := hp.n
  rcases asc_len sts 0 _ h.asc h.all with q | q
  · omega
  · subst q; simp
theorem asc_nodup {l : List Int} (h : l.Pairwise (· < ·)) : l.Nodup := List.nodup_iff_pairwise_ne.mpr (h.imp fun h e => by omega)
/-- sorted, a row without doubles is what is ascending with the same members -/
theorem srtI_same {l r : List Int} (hl : l.Nodup) (hr : r.Pairwise (· < ·)) (h : ∀ g, g ∈ l ↔ g ∈ r) : srtI l = r :=
  (srtI_eq ((List.perm_ext_iff_of_nodup (asc_nodup hr) hl).mpr fun g => (h g).symm) (hr.imp fun h => by omega)).symm
theorem sort_int {l : List Int} (hl : l.length ≤ 1000000) (nd : l.Nodup) : fSorted [.lst (l.map .int)] = some (.lst ((srtI l).map .int)) := by
  rw [fSorted_lst (by rw [List.length_map]; exact hl)]
  · congr 2
    obtain ⟨l', p, e⟩ := map_perm (srtD_perm (l.map D.int))
    have nd' : (l.map D.int).Nodup := List.nodup_iff_pairwise_ne.mpr (List.pairwise_map.mpr ((List.nodup_iff_pairwise_ne.mp nd).imp fun h e => h (by injection e)))
    have s := srtD_strict (n := 0) (ds := l.map D.int) (fun d hd => by obtain ⟨m, _, rfl⟩ := List.mem_map.mp hd; rfl) (fun x hx y hy => by obtain ⟨m, _, rfl⟩ := List.mem_map.mp hx; obtain ⟨n, _, rfl⟩ := List.mem_map.mp hy; rfl) nd'
    rw [e] at s ⊢
    rw [srtI_eq p ((List.pairwise_map.mp s).imp fun h => by rw [lt_int] at h; have := of_decide_eq_true h; omega)]
  · unfold srtOk
    simp only [Bool.and_eq_true, Bool.or_eq_true, List.all_eq_true, List.mem_map]
    refine ⟨⟨?_, ?_⟩, .inr ?_⟩
    · rintro x ⟨m, _, rfl⟩; rfl
    · rintro x ⟨m, _, rfl⟩ y ⟨n, _, rfl⟩; rfl
    · rintro x ⟨m, _, rfl⟩; rfl
theorem intsOf_map : ∀ l : List Int, intsOf (l.map .int) = some l
  | [] => rfl
  | a :: l => by simp only [List.map_cons, intsOf, intsOf_map l, Option.map_some]
theorem sort_dict {l : List Int} {ws : List D} (hl : l.length < 64) : fSorted [.dic false (l.map .int) ws] = some (.lst ((srtI l).map .int)) := by
  unfold fSorted
  simp only [intsOf_map]
  rw [if_pos hl]
theorem any_int (g : Int) (l : List Int) : ((l.map D.int).any fun z => eqD z (.int g)) = decide (g ∈ l) := by
  rw [List.any_map]
  by_cases h : g ∈ l
  · rw [decide_eq_true h, List.any_eq_true]
    exact ⟨g, h, eqD_refl_it (n := 0) rfl⟩
  · rw [decide_eq_false h, List.any_eq_false]
    intro x hx e
    have := (eqD_it (n := 0) (x := .int x) (y := .int g) rfl rfl).mp e
    injection this with this
    subst this
    exact h hx
theorem lvl_ints (l : List Int) : (l.map D.int).all (lvl 59) = true := by
  rw [List.all_eq_true]
  intro d hd
  obtain ⟨x, _, rfl⟩ := List.mem_map.mp hd
  rfl
theorem notIn_int (g : Int) (l : List Int) : dNotIn (.int g) (.lst (l.map .int)) = some (.bl (!decide (g ∈ l))) := by
  unfold dNotIn dInB
  simp only []
  rw [if_pos ⟨rfl, lvl_ints l⟩, any_int]; rfl
theorem in_cl (g : Int) (l : List Int) : dIn (.int g) (clD l) = some (.bl (decide (g ∈ l))) := by
  unfold dIn dInB clD
  simp only []
  rw [if_pos ⟨rfl, lvl_ints l⟩, any_int]; rfl
theorem eqD_sz (a b : S3) : eqD (szD a) (szD b) = decide (a = b) := by
  by_cases h : a = b
  · subst h; rw [decide_eq_true rfl]; exact eqD_refl_it (n := 1) rfl
  · rw [decide_eq_false h]
    cases e : eqD (szD a) (szD b) with
    | false => rfl
    | true =>
      have := (eqD_it (n := 1) (x := szD a) (y := szD b) rfl rfl).mp e
      obtain ⟨a1, a2, a3⟩ := a
      obtain ⟨b1, b2, b3⟩ := b
      simp [szD] at this
      obtain ⟨rfl, rfl, rfl⟩ := this
      exact absurd rfl h
@[simp] theorem dEq_sz (a b : S3) : dEq (szD a) (szD b) = some (.bl (decide (a = b))) := by
  rw [dEq_it (n := 1) (by decide) rfl rfl, eqD_sz]
@[simp] theorem dNe_sz (a b : S3) : dNe (szD a) (szD b) = some (.bl (!decide (a = b))) := by
  rw [dNe_it (n := 1) (by decide) rfl rfl, eqD_sz]
@[simp] theorem sl_mv3 (m : Mv) : dSl none (some 3) (mvD m) = some (szD (stepOf m)) := rfl
theorem ix_rows {p : Pt} {st : Int} (h : 0 ≤ st ∧ st < p.rows.length) : atI (p.rows.map rowD) st = some (rowD (rowAt p st)) := by
  rw [atI_of st.toNat (by omega), List.getElem?_map]
  unfold rowAt
  rw [List.getElem?_eq_getElem (by omega)]; rfl
theorem ix_cls {p : Pt} (hp : PtOk p) {st : Int} (h : 0 ≤ st ∧ st < p.rows.length) : atI (p.cls.map clD) st = some (clD (clAt p st)) := by
  have he := hp.e
  rw [atI_of st.toNat (by omega), List.getElem?_map]
  unfold clAt
  rw [List.getElem?_eq_getElem (by omega)]; rfl
theorem ix_kept {p : Pt} {st : Int} (h : 0 ≤ st ∧ st < p.rows.length) : atI (p.rows.map fun r => keptD (keptOf r)) st = some (keptD (keptOf (rowAt p st))) := by
  rw [atI_of st.toNat (by omega), List.getElem?_map]
  unfold rowAt
  rw [List.getElem?_eq_getElem (by omega)]; rfl
theorem rowAt_mem {p : Pt} {st : Int} (h : 0 ≤ st ∧ st < p.rows.length) : rowAt p st ∈ p.rows := by
  unfold rowAt
  rw [List.getElem?_eq_getElem (by omega)]
  exact List.getElem_mem _
theorem clAt_mem {p : Pt} (hp : PtOk p) {st : Int} (h : 0 ≤ st ∧ st < p.rows.length) : clAt p st ∈ p.cls := by
  have he := hp.e
  unfold clAt
  rw [List.getElem?_eq_getElem (by omega)]
  exact List.getElem_mem _
def stD (sts : List Int) : D := .tup (sts.map .int)
/-! ### the law's own steps of sets -/
structure LB (p : Pt) (l : List Int) (mem : Int → Prop) : Prop where
  nd : l.Nodup
  mem : ∀ g, g ∈ l ↔ mem g
  lt : ∀ g ∈ l, 0 ≤ g ∧ g < p.rows.length
theorem nodup_len {l : List Int} {n : Nat} (nd : l.Nodup) (h : ∀ g ∈ l, 0 ≤ g ∧ g < n) : l.length ≤ n := by
  have p : (srtI l).Perm l := List.mergeSort_perm l _
  have s : (srtI l).Pairwise (· ≤ ·) := by
    have := List.pairwise_mergeSort (le := fun a b : Int => decide (a ≤ b)) (fun a b c h g => by simp at *; omega) (fun a b => by simp; omega) l
    exact this.imp fun h => by simpa using h
  have nd2 : (srtI l).Nodup := p.nodup_iff.mpr nd
  have s2 : (srtI l).Pairwise (· < ·) := by
    have := s.and (List.nodup_iff_pairwise_ne.mp nd2)
    exact this.imp fun ⟨a, b⟩ => by omega
  rw [← p.length_eq]
  rcases asc_len _ 0 n s2 (fun x hx => h x (p.mem_iff.mp hx)) with q | q
  · omega
  · rw [q]; simp
theorem goals_lt {p : Pt} (hp : PtOk p) {st : Int} (h : 0 ≤ st ∧ st < p.rows.length) {t : S3} {g : Int} (hg : g ∈ goalsAt (rowAt p st) t) : 0 ≤ g ∧ g < p.rows.length := by
  obtain ⟨m, hm, rfl⟩ := List.mem_map.mp hg
  exact ((hp.rows.row _ (rowAt_mem h)).2.mv m (List.mem_filter.mp hm).1).d
/-- what holds within the loop over the standings -/
structure GoIn (p : Pt) (t : S3) (done : List Int) (l : List Int) : Prop where
  nd : l.Nodup
  mem : ∀ g, g ∈ l ↔ ∃ st ∈ done, g ∈ goalsAt (rowAt p st) t
  lt : ∀ g ∈ l, 0 ≤ g ∧ g < p.rows.length
theorem GoIn.sorted {p : Pt} (hp : PtOk p) {t : S3} {sts l : List Int} (h : GoIn p t sts l) : srtI l = reach p sts t :=
  srtI_same h.nd (reach_ok hp sts t).asc fun g => by rw [h.mem, reach_mem hp]
/-- within the loop over a row's moves -/
structure RoIn (l0 : List Int) (gs : List Int) (l : List Int) : Prop where
  nd : l.Nodup
  mem : ∀ g, g ∈ l ↔ g ∈ l0 ∨ g ∈ gs
theorem RoIn.add {l0 gs l : List Int} (h : RoIn l0 gs l) {g : Int} (hg : g ∉ l) : RoIn l0 (gs ++ [g]) (l ++ [g]) := by
  refine ⟨?_, fun x => ?_⟩
  · rw [List.nodup_append]
    exact ⟨h.nd, by simp, fun a ha b hb => by simp at hb; subst hb; exact fun e => hg (e ▸ ha)⟩
  · rw [List.mem_append, h.mem, List.mem_append, or_assoc]
theorem RoIn.same {l0 gs l : List Int} (h : RoIn l0 gs l) {g : Int} (hg : g ∈ l) : RoIn l0 (gs ++ [g]) l := by
  refine ⟨h.nd, fun x => ?_⟩
  rw [h.mem, List.mem_append, ← or_assoc]
  constructor
  · exact .inl
  · rintro (q | q)
    · exact q
    · have : x = g := by simpa using q
      subst this
      exact (h.mem x).mp hg
theorem RoIn.done {p : Pt} (hp : PtOk p) {t : S3} {done : List Int} {st : Int} {l0 l : List Int} (h0 : GoIn p t done l0) (hs : 0 ≤ st ∧ st < p.rows.length) (h : RoIn l0 (goalsAt (rowAt p st) t) l) : GoIn p t (done ++ [st]) l := by
  refine ⟨h.nd, fun g => ?_, fun g hg => ?_⟩
  · rw [h.mem, h0.mem]
    constructor
    · rintro (⟨a, b, c⟩ | c)
      · exact ⟨a, by simp [b], c⟩
      · exact ⟨st, by simp, c⟩
    · rintro ⟨a, b, c⟩
      rcases List.mem_append.mp b with b | b
      · exact .inl ⟨a, b, c⟩
      · have : a = st := by simpa using b
        subst this
        exact .inr c
  · rcases (h.mem g).mp hg with q | q
    · exact h0.lt g q
    · exact goals_lt hp hs q
/-- a loop with what is done so far -/
theorem for_acc {α : Type} {b : Bd} {body : MS} {Q : Fl → Env → Prop} {g : α → D} {as : List α} (I : List α → Env → Prop) (step : ∀ done a env, a ∈ as → I done env → ∃ e1, b (g a) env = some e1 ∧ wE (body e1) fun f e2 => f = .nx ∧ I (done ++ [a]) e2) (fin : ∀ env, I as env → Q .nx env)
    {env : Env} (h : I [] env) : wE (mForGo b body (as.map g) env) Q := by
  refine for_go (fun rest e => ∃ done r, as = done ++ r ∧ rest = r.map g ∧ I done e) (fun d r e ⟨done, l, ha, hl, hI⟩ => ?_) (fun e ⟨done, l, ha, hl, hI⟩ => ?_) ⟨[], as, rfl, rfl, h⟩
  · cases l with
    | nil => cases hl
    | cons a l =>
      injection hl with h1 h2
      subst h1
      obtain ⟨e1, g1, g2⟩ := step done a e (by rw [ha]; simp) hI
      refine ⟨e1, g1, g2.imp fun f e2 ⟨hf, hI2⟩ => ?_⟩
      subst hf
      exact ⟨done ++ [a], l, by rw [ha]; simp, h2, hI2⟩
  · cases l with
    | nil => rw [List.append_nil] at ha; subst ha; exact fin e hI
    | cons a l => cases hl
end Mi

set_option Elab.async false
set_option linter.all false
set_option maxRecDepth 100000
set_option maxHeartbeats 1000000
namespace Mi
open PySem PySem.Spec PyProof.Rows L2

/-! ## true days -/
structure DcIn (P : List Int → Prop) (mk : List D → List D → Env) (e : Env) : Prop where
  ex : ∃ (l : List Int) (ws : List D), e = mk (l.map .int) ws ∧ ws.length ≤ l.length ∧ P l
structure RoL (n : Nat) (l0 gs l : List Int) : Prop where
  r : RoIn l0 gs l
  lt : ∀ g ∈ l, 0 ≤ g ∧ g < n
theorem goals_of_ok {p : Pt} (hp : PtOk p) {sts : List Int} (hs : StdOk p sts) (t : S3) : r_goals_of [offD p, stD sts, szD t] = .ok (stD (reach p sts t)) := by
  have hn := hp.n
  have hsl := hs.len hp
  rw [r_goals_of_df]
  refine runP_ok rfl (show wE (m_goals_of [.fz (offD p), .fz (stD sts), .fz (szD t), .dead, .dead, .dead]) _ from ?_)
  unfold m_goals_of
  refine w_mid (fun e => e = [.fz (offD p), .fz (stD sts), .fz (szD t), .od false [] [], .dead, .dead]) (by simp) ?_
  rintro e rfl
  refine w_mid (DcIn (GoIn p t sts) fun ks ws => [.fz (offD p), .fz (stD sts), .fz (szD t), .od false ks ws, .dead, .dead]) ?_ ?_
  · rw [stD]
    simp
    refine for_acc (fun done e => DcIn (GoIn p t done) (fun ks ws => [.fz (offD p), .fz (.tup (sts.map .int)), .fz (szD t), .od false ks ws, .dead, .dead]) e) (fun done st e hst I => ?_) (fun e I => ⟨rfl, I⟩) ⟨[], [], rfl, by simp, by simp, by simp, by simp⟩
    obtain ⟨l, ws, rfl, hw, G⟩ := I
    have hst := hs.all st hst
    refine ⟨_, rfl, ?_⟩
    obtain ⟨r, e1, e2⟩ := get_keptD t (rowAt p st)
    simp [peek, peekS, ix_kept hst, e1, e2]
    refine for_acc (fun gs e => DcIn (RoL p.rows.length l gs) (fun ks ws => [.fz (offD p), .fz (.tup (sts.map .int)), .fz (szD t), .od false ks ws, .fz (.int st), .dead]) e) (fun gs g e hg I => ?_) (fun e I => ?_) ⟨l, ws, rfl, hw, ⟨G.nd, by simp⟩, G.lt⟩
    · obtain ⟨l', ws', rfl, hw', R, hlt⟩ := I
      have hl' : l'.length ≤ 20 := Nat.le_trans (nodup_len R.nd hlt) hn.2
      have hg' := goals_lt hp hst hg
      refine ⟨_, rfl, ?_⟩
      simp [peek, peekS, put_int, killAll]
      refine ⟨by omega, ?_⟩
      by_cases h : g ∈ l'
      · rw [if_pos h]
        exact ⟨l', _, rfl, by rw [replK_len]; exact hw', R.same h, hlt⟩
      · rw [if_neg h]
        refine ⟨l' ++ [g], ws' ++ [.bl true], by simp, by simp; omega, R.add h, fun x hx => ?_⟩
        rcases List.mem_append.mp hx with hx | hx
        · exact hlt x hx
        · have : x = g := by simpa using hx
          rw [this]; exact hg'
    · obtain ⟨l', ws', rfl, hw', R, hlt⟩ := I
      simp [killAll]
      exact ⟨l', ws', rfl, hw', R.done hp G hst⟩
  rintro e ⟨l, ws, rfl, hw, G⟩
  have hl : l.length ≤ 20 := Nat.le_trans (nodup_len G.nd G.lt) hn.2
  simp [peek, peekS, sort_dict (ws := ws) (show l.length < 64 by omega), fTuple, G.sorted hp]
  rfl
/-- the standings behind steps -/
def reachAll (p : Pt) (steps : List S3) : List Int := steps.foldl (reach p) [0]
theorem std0 {p : Pt} (hp : PtOk p) : StdOk p [0] := ⟨fun st h => by
  have hn := hp.n
  have : st = 0 := by simpa using h
  omega, by simp⟩
theorem reachAll_ok {p : Pt} (hp : PtOk p) (steps : List S3) : StdOk p (reachAll p steps) := by
  have key : ∀ (steps : List S3) (s0 : List Int), StdOk p s0 → StdOk p (steps.foldl (reach p) s0) := by
    intro steps
    induction steps with
    | nil => exact fun _ h => h
    | cons t steps ih => exact fun s0 h => ih _ (reach_ok hp s0 t)
  exact key steps [0] (std0 hp)
theorem reachAll_snoc (p : Pt) (steps : List S3) (t : S3) : reachAll p (steps ++ [t]) = reach p (reachAll p steps) t := by
  unfold reachAll
  rw [List.foldl_append]; rfl
theorem standings_behind_ok {p : Pt} (hp : PtOk p) (steps : List S3) : r_standings_behind [offD p, .tup (steps.map szD)] = .ok (stD (reachAll p steps)) := by
  rw [r_standings_behind_df]
  refine runP_ok rfl (show wE (m_standings_behind [.fz (offD p), .fz (.tup (steps.map szD)), .dead, .dead]) _ from ?_)
  unfold m_standings_behind
  refine w_mid (fun e => e = [.fz (offD p), .fz (.tup (steps.map szD)), .fz (stD [0]), .dead]) (by simp; rfl) ?_
  rintro e rfl
  refine w_mid (fun e => e = [.fz (offD p), .fz (.tup (steps.map szD)), .fz (stD (reachAll p steps)), .dead]) ?_ (by rintro e rfl; simp)
  simp
  refine for_acc (fun done e => e = [.fz (offD p), .fz (.tup (steps.map szD)), .fz (stD (reachAll p done)), .dead]) (fun done t e ht I => ?_) (fun e I => ⟨rfl, I⟩) rfl
  subst I
  refine ⟨_, rfl, ?_⟩
  simp [peek, peekS, goals_of_ok hp (reachAll_ok hp done) t, killAll, reachAll_snoc]
def shutsP (p : Pt) (sts : List Int) (m : Int) : Bool := sts.any fun st => decide (m ∈ clAt p st)
theorem shuts_with_ok {p : Pt} (hp : PtOk p) {sts : List Int} (hs : StdOk p sts) (m : Int) : r_shuts_with [offD p, stD sts, .int m] = .ok (.bl (shutsP p sts m)) := by
  have hl := hs.len hp
  rw [r_shuts_with_df]
  refine runP_ok rfl (show wE (m_shuts_with [.fz (offD p), .fz (stD sts), .fz (.int m), .dead]) _ from ?_)
  unfold m_shuts_with
  rw [stD]
  simp
  refine ⟨by omega, comp_all (fun st => .bl (decide (m ∈ clAt p st))) (fun st hst => ⟨_, rfl, ?_⟩) ?_⟩
  · simp [peek, peekS, ix_cls hp (hs.all st hst), in_cl, killAll]
  · rw [fAny_map]
    simp [shutsP]
def trueP (p : Pt) (l : List S3) (m : Int) : Bool := shutsP p (reachAll p l) m
theorem day_true_ok {p : Pt} (hp : PtOk p) (l : List S3) (m : Int) : r_day_true [offD p, dayD l m] = .ok (.bl (trueP p l m)) := by
  rw [r_day_true_df]
  refine runP_ok rfl (show wE (m_day_true [.fz (offD p), .fz (dayD l m)]) _ from ?_)
  unfold m_day_true
  simp [peek, peekS, standings_behind_ok hp, shuts_with_ok hp (reachAll_ok hp l), trueP]
end Mi

set_option Elab.async false
set_option linter.all false
set_option maxRecDepth 100000
set_option maxHeartbeats 1000000
namespace Mi
open PySem PySem.Spec PyProof.Rows L2

/-! ## the law's own standings, its walks -/
structure LiIn (P : List Int → Prop) (mk : List D → Env) (e : Env) : Prop where
  ex : ∃ l : List Int, e = mk (l.map .int) ∧ P l
theorem law_behind_ok {p : Pt} (hp : PtOk p) {sts : List Int} (hs : StdOk p sts) (t : S3) : r__law_behind [ptD p, stD sts, szD t] = .ok (stD (reach p sts t)) := by
  have hn := hp.n
  have hsl := hs.len hp
  rw [r__law_behind_df]
  refine runP_ok rfl (show wE (m__law_behind [.fz (ptD p), .fz (stD sts), .fz (szD t), .dead, .dead, .dead]) _ from ?_)
  unfold m__law_behind
  refine w_mid (fun e => e = [.fz (ptD p), .fz (stD sts), .fz (szD t), .ol [], .dead, .dead]) (by simp) ?_
  rintro e rfl
  refine w_mid (LiIn (GoIn p t sts) fun ks => [.fz (ptD p), .fz (stD sts), .fz (szD t), .ol ks, .dead, .dead]) ?_ ?_
  · rw [stD]
    simp
    refine for_acc (fun done e => LiIn (GoIn p t done) (fun ks => [.fz (ptD p), .fz (.tup (sts.map .int)), .fz (szD t), .ol ks, .dead, .dead]) e) (fun done st e hst I => ?_) (fun e I => ⟨rfl, I⟩) ⟨[], rfl, by simp, by simp, by simp⟩
    obtain ⟨l, rfl, G⟩ := I
    have hst := hs.all st hst
    refine ⟨_, rfl, ?_⟩
    simp [peek, peekS, ix_rows hst]
    rw [rowD]
    simp only [sM_tup]
    refine for_acc (fun ms e => LiIn (RoL p.rows.length l (goalsAt ms t)) (fun ks => [.fz (ptD p), .fz (.tup (sts.map .int)), .fz (szD t), .ol ks, .fz (.int st), .dead]) e) (fun ms m e hm I => ?_) (fun e I => ?_) ⟨l, rfl, ⟨G.nd, by simp [goalsAt]⟩, G.lt⟩
    · obtain ⟨l', rfl, R, hlt⟩ := I
      have hl' : l'.length ≤ 20 := Nat.le_trans (nodup_len R.nd hlt) hn.2
      refine ⟨_, rfl, ?_⟩
      simp [peek, peekS, notIn_int, killAll]
      by_cases h : stepOf m = t
      · have hg : goalOf m ∈ goalsAt (rowAt p st) t := List.mem_map.mpr ⟨m, List.mem_filter.mpr ⟨hm, by simpa using h⟩, rfl⟩
        have hg' := goals_lt hp hst hg
        have e1 : goalsAt (ms ++ [m]) t = goalsAt ms t ++ [goalOf m] := by
          unfold goalsAt
          rw [List.filter_append, List.filter_cons_of_pos (by simpa using h)]; simp
        rw [e1, if_pos h]
        by_cases h2 : goalOf m ∈ l'
        · simp only [show m.2.2.2 ∈ l' from h2, if_true, not_true_eq_false, if_false]
          exact ⟨l', rfl, R.same h2, hlt⟩
        · simp only [show ¬ m.2.2.2 ∈ l' from h2, if_false, not_false_eq_true, if_true]
          refine ⟨by omega, l' ++ [goalOf m], by simp [goalOf], R.add h2, fun x hx => ?_⟩
          rcases List.mem_append.mp hx with hx | hx
          · exact hlt x hx
          · have : x = goalOf m := by simpa using hx
            rw [this]; exact hg'
      · have e1 : goalsAt (ms ++ [m]) t = goalsAt ms t := by
          unfold goalsAt
          rw [List.filter_append, List.filter_cons_of_neg (by simpa using h)]; simp
        rw [e1, if_neg h]
        exact ⟨l', rfl, R, hlt⟩
    · obtain ⟨l', rfl, R, hlt⟩ := I
      simp [killAll]
      exact ⟨l', rfl, R.done hp G hst⟩
  rintro e ⟨l, rfl, G⟩
  have hl : l.length ≤ 20 := Nat.le_trans (nodup_len G.nd G.lt) hn.2
  simp [peek, peekS, sort_int (show l.length ≤ 1000000 by omega) G.nd, fTuple, G.sorted hp]
  rfl
theorem law_is_true_ok {p : Pt} (hp : PtOk p) (l : List S3) (m : Int) : r__law_is_true [ptD p, dayD l m] = .ok (.bl (trueP p l m)) := by
  have hso := reachAll_ok hp l
  have hsl := hso.len hp
  rw [r__law_is_true_df]
  refine runP_ok rfl (show wE (m__law_is_true [.fz (ptD p), .fz (dayD l m), .dead, .dead, .dead]) _ from ?_)
  unfold m__law_is_true
  refine w_mid (fun e => e = [.fz (ptD p), .fz (dayD l m), .fz (stD [0]), .dead, .dead]) (by simp; rfl) ?_
  rintro e rfl
  refine w_mid (fun e => e = [.fz (ptD p), .fz (dayD l m), .fz (stD (reachAll p l)), .dead, .dead]) ?_ ?_
  · simp [peek, peekS]
    refine for_acc (fun done e => e = [.fz (ptD p), .fz (dayD l m), .fz (stD (reachAll p done)), .dead, .dead]) (fun done t e ht I => ?_) (fun e I => ⟨rfl, I⟩) rfl
    subst I
    refine ⟨_, rfl, ?_⟩
    simp [peek, peekS, law_behind_ok hp (reachAll_ok hp done) t, killAll, reachAll_snoc]
  rintro e rfl
  rw [stD]
  simp [peek, peekS]
  refine ⟨by omega, comp_map (fun st => decide (m ∈ clAt p st)) .int (fun st hst => ⟨_, rfl, ?_⟩) ?_⟩
  · simp [peek, peekS, ix_cls hp (hso.all st hst), in_cl, killAll]
  · simp [trueP, shutsP]
    rw [Bool.eq_iff_iff]
    simp
theorem ix_row {row : List Mv} {n : Int} (h : 0 ≤ n ∧ n < row.length) : ∃ m ∈ row, dIx (rowD row) (.int n) = some (mvD m) := by
  have hn : n.toNat < row.length := by omega
  refine ⟨row[n.toNat], List.getElem_mem hn, ?_⟩
  rw [rowD, dIx_tup, atI_of n.toNat (by omega), List.getElem?_map, List.getElem?_eq_getElem hn]; rfl
theorem ix_cl {c : List Int} {n : Int} (h : 0 ≤ n ∧ n < c.length) : ∃ x ∈ c, dIx (clD c) (.int n) = some (.int x) := by
  have hn : n.toNat < c.length := by omega
  refine ⟨c[n.toNat], List.getElem_mem hn, ?_⟩
  rw [clD, dIx_tup, atI_of n.toNat (by omega), List.getElem?_map, List.getElem?_eq_getElem hn]; rfl
structure WIn (p : Pt) (k : Nat) (mk : List D → D → D → Env) (e : Env) : Prop where
  ex : ∃ (h : List D) (st : Int) (l : List S3), GoodH h ∧ e = mk h (.int st) (.tup (l.map szD)) ∧ (0 ≤ st ∧ st < p.rows.length) ∧ StsOk p.sz l ∧ l.length ≤ k
structure EIn (p : Pt) (k : Nat) (mk : List D → D → D → D → Env) (e : Env) : Prop where
  ex : ∃ (h : List D) (st : Int) (l : List S3) (c : List Int), GoodH h ∧ e = mk h (.int st) (.tup (l.map szD)) (clD c) ∧ StsOk p.sz l ∧ l.length ≤ k ∧ (0 < c.length ∧ c.length ≤ 1000) ∧ ∀ x ∈ c, 0 ≤ x ∧ x < p.sz.2.2
theorem stepOf_ok {s : S3} {g : Int} {m : Mv} (h : MvOk s g m) : StOk s (stepOf m) := ⟨h.a, h.b, h.c⟩
theorem walk_ok {h : List D} (g : GoodH h) {p : Pt} (hp : PtOk p) {many : Int} (hm : 0 ≤ many ∧ many ≤ 1000) :
    ∃ d h', r__law_walk h [ptD p, .int many] = .ok d h' ∧ GoodH h' ∧ ∃ l m, d = dayD l m ∧ DayOk p.sz l m ∧ l.length ≤ many.toNat := by
  have hn := hp.n
  have a3 := hp.sz.c
  rw [r__law_walk_df]
  refine runI_ex rfl (show wE (m__law_walk [.io h, .fz (ptD p), .fz (.int many), .dead, .dead, .dead, .dead, .dead]) _ from ?_)
  unfold m__law_walk
  refine w_mid (fun e => e = [.io h, .fz (ptD p), .fz (.int many), .fz (.int 0), .dead, .dead, .dead, .dead]) (by simp) ?_
  rintro e rfl
  refine w_mid (fun e => e = [.io h, .fz (ptD p), .fz (.int many), .fz (.int 0), .fz (.tup []), .dead, .dead, .dead]) (by simp) ?_
  rintro e rfl
  refine w_mid (WIn p many.toNat fun h st l => [.io h, .fz (ptD p), .fz (.int many), .fz st, .fz l, .dead, .dead, .dead]) ?_ ?_
  · simp [peek, peekS]
    refine ⟨by omega, for_rng0 (fun k e => WIn p k (fun h st l => [.io h, .fz (ptD p), .fz (.int many), .fz st, .fz l, .dead, .dead, .dead]) e) (fun k e hk I => ?_) (fun e I => ⟨rfl, I⟩) ⟨h, 0, [], g, rfl, by omega, ⟨by simp⟩, by simp⟩⟩
    obtain ⟨h, st, l, g, rfl, hst, hl, hlen⟩ := I
    refine ⟨_, rfl, ?_⟩
    simp [peek, peekS, ix_rows hst, killAll]
    have hrl := (hp.rows.row _ (rowAt_mem hst)).1
    by_cases hpos : 0 < (rowAt p st).length
    · rw [if_pos (by simpa using hpos)]
      refine draw_step g (by omega) (by omega) fun n1 h1 g1 b1 c1 => ?_
      obtain ⟨m, hm, e1⟩ := ix_row (row := rowAt p st) (n := n1) (by omega)
      have ok := (hp.rows.row _ (rowAt_mem hst)).2.mv m hm
      simp [e1]
      rw [dAdd_tup (by simp; omega)]
      simp
      refine ⟨h1, goalOf m, l ++ [stepOf m], g1, by simp [goalOf], ok.d, hl.app ⟨fun t ht => ?_⟩, by simp; omega⟩
      have : t = stepOf m := by simpa using ht
      rw [this]
      exact stepOf_ok ok
    · rw [if_neg (by simpa using hpos)]
      exact ⟨h, st, l, g, rfl, hst, hl, by omega⟩
  rintro e ⟨h, st, l, g, rfl, hst, hl, hlen⟩
  have hcl := hp.cl _ (clAt_mem hp hst)
  refine w_mid (EIn p many.toNat fun h st l c => [.io h, .fz (ptD p), .fz (.int many), .fz st, .fz l, .dead, .fz c, .dead]) ?_ ?_
  · simp [peek, peekS, ix_cls hp hst]
    split
    · exact ⟨h, st, l, clAt p st, g, rfl, hl, hlen, ⟨by omega, hcl.len (by omega)⟩, hcl.rng⟩
    · exact ⟨h, st, l, [0], g, rfl, hl, hlen, by simp, by simp; omega⟩
  rintro e ⟨h, st, l, c, g, rfl, hl, hlen, hc, hr⟩
  simp [peek, peekS]
  refine draw_step g (by omega) (by omega) fun n1 h1 g1 b1 c1 => ?_
  obtain ⟨x, hx, e1⟩ := ix_cl (c := c) (n := n1) (by omega)
  simp [e1]
  exact ⟨g1, l, x, rfl, ⟨hl, hr x hx⟩, hlen⟩
structure CIn (p : Pt) (mk : List D → D → List D → Env) (e : Env) : Prop where
  ex : ∃ (h : List D) (st : Int) (t : S3), GoodH h ∧ e = mk h (.int st) [.int t.1, .int t.2.1, .int t.2.2] ∧ StOk p.sz t
theorem changed_ok {h : List D} (g : GoodH h) {p : Pt} (hp : PtOk p) {l : List S3} {m : Int} (hd : DayOk p.sz l m) (hl : l.length ≤ 1000) :
    ∃ d h', r__law_changed h [ptD p, dayD l m] = .ok d h' ∧ GoodH h' ∧ ∃ l' m', d = dayD l' m' ∧ DayOk p.sz l' m' ∧ l'.length = l.length := by
  have a1 := hp.sz.a
  have a2 := hp.sz.b
  have a3 := hp.sz.c
  rw [r__law_changed_df]
  refine runI_ex rfl (show wE (m__law_changed [.io h, .fz (ptD p), .fz (dayD l m), .dead, .dead, .dead, .dead, .dead]) _ from ?_)
  unfold m__law_changed
  refine w_mid (fun e => e = [.io h, .fz (ptD p), .fz (dayD l m), .fz (.tup (l.map szD)), .fz (.int m), .dead, .dead, .dead]) (by simp) ?_
  rintro e rfl
  have early : ∀ h, GoodH h → irM (r__law_draw h [.int p.sz.2.2]) fun z xs' => GoodH xs' ∧ ∃ l' m', D.tup [.tup (l.map szD), z] = dayD l' m' ∧ DayOk p.sz l' m' ∧ l'.length = l.length := fun h g =>
    draw_step g (by omega) (by omega) fun n1 h1 g1 b1 c1 => ⟨g1, l, n1, rfl, ⟨hd.st, b1, c1⟩, rfl⟩
  refine w_mid2 (fun e => l ≠ [] ∧ HIn (fun h => [.io h, .fz (ptD p), .fz (dayD l m), .fz (.tup (l.map szD)), .fz (.int m), .dead, .dead, .dead]) e) ?_ ?_
  · simp [peek, peekS]
    split
    · exact early h g
    · rename_i hne
      refine draw_step g (by omega) (by omega) fun n1 h1 g1 b1 c1 => ?_
      simp
      split
      · exact early h1 g1
      · exact ⟨hne, h1, g1, rfl⟩
  rintro e ⟨hne, h, g, rfl⟩
  have hpos : 0 < l.length := by cases l with | nil => exact absurd rfl hne | cons _ _ => simp
  refine w_mid (fun e => ∃ at' : Int, (0 ≤ at' ∧ at' < l.length) ∧ HIn (fun h => [.io h, .fz (ptD p), .fz (dayD l m), .fz (.tup (l.map szD)), .fz (.int m), .fz (.int at'), .dead, .dead]) e) ?_ ?_
  · simp [peek, peekS]
    refine draw_step g (by omega) (by omega) fun n1 h1 g1 b1 c1 => ?_
    exact ⟨n1, ⟨b1, c1⟩, h1, g1, rfl⟩
  rintro e ⟨n, hn, h, g, rfl⟩
  obtain ⟨i, rfl⟩ : ∃ i : Nat, n = i := ⟨n.toNat, by omega⟩
  have hi : i < l.length := by omega
  have hti := hd.st.all _ (List.getElem_mem hi)
  have ix : atI (l.map szD) (i : Int) = some (szD l[i]) := by rw [atI_of i rfl, List.getElem?_map, List.getElem?_eq_getElem hi]; rfl
  refine w_mid (fun e => e = [.io h, .fz (ptD p), .fz (dayD l m), .fz (.tup (l.map szD)), .fz (.int m), .fz (.int (i : Int)), .ol [.int l[i].1, .int l[i].2.1, .int l[i].2.2], .dead]) (by simp [peek, peekS, ix]) ?_
  rintro e rfl
  refine w_mid (fun e => ∃ w : Int, (0 ≤ w ∧ w < 3) ∧ HIn (fun h => [.io h, .fz (ptD p), .fz (dayD l m), .fz (.tup (l.map szD)), .fz (.int m), .fz (.int (i : Int)), .ol [.int l[i].1, .int l[i].2.1, .int l[i].2.2], .fz (.int w)]) e) ?_ ?_
  · simp [peek, peekS]
    refine draw_step g (by omega) (by omega) fun n1 h1 g1 b1 c1 => ?_
    exact ⟨n1, ⟨b1, c1⟩, h1, g1, rfl⟩
  rintro e ⟨w, hw, h, g, rfl⟩
  refine w_mid (fun e => ∃ t, StOk p.sz t ∧ HIn (fun h => [.io h, .fz (ptD p), .fz (dayD l m), .fz (.tup (l.map szD)), .fz (.int m), .fz (.int (i : Int)), .ol [.int t.1, .int t.2.1, .int t.2.2], .fz (.int w)]) e) ?_ ?_
  · have a := hti.a
    have b := hti.b
    have c := hti.c
    have hcase : w = 0 ∨ w = 1 ∨ w = 2 := by omega
    rcases hcase with rfl | rfl | rfl
    · simp [peek, peekS, ixN]
      refine draw_step g (by omega) (by omega) fun n1 h1 g1 b1 c1 => ?_
      exact ⟨n1, l[i].2.1, l[i].2.2, ⟨⟨b1, c1⟩, b, c⟩, h1, g1, rfl⟩
    · simp [peek, peekS, ixN]
      refine draw_step g (by omega) (by omega) fun n1 h1 g1 b1 c1 => ?_
      exact ⟨l[i].1, n1, l[i].2.2, ⟨a, ⟨b1, c1⟩, c⟩, h1, g1, rfl⟩
    · simp [peek, peekS, ixN]
      refine draw_step g (by omega) (by omega) fun n1 h1 g1 b1 c1 => ?_
      exact ⟨l[i].1, l[i].2.1, n1, ⟨a, b, ⟨b1, c1⟩⟩, h1, g1, rfl⟩
  rintro e ⟨t, ht, h, g, rfl⟩
  have c1 : cutD (l.map szD) none (some (i : Int)) = (l.map szD).take i := cut_take (by simp; omega)
  have c2 : cutD (l.map szD) (some ((i : Int) + 1)) none = (l.map szD).drop (i + 1) := by
    rw [← cut_drop (by simp; omega)]; push_cast; rfl
  simp [peek, peekS, dSl, c1, c2, fTuple]
  rw [dAdd_tup (by simp; omega)]
  simp
  rw [dAdd_tup (by simp; omega)]
  simp
  refine ⟨g, l.take i ++ (t :: l.drop (i + 1)), m, by simp [dayD, szD], ⟨⟨fun x hx => ?_⟩, hd.m⟩, by simp; omega⟩
  rcases List.mem_append.mp hx with hx | hx
  · exact hd.st.all x (List.mem_of_mem_take hx)
  · rcases List.mem_cons.mp hx with hx | hx
    · rw [hx]; exact ht
    · exact hd.st.all x (List.mem_of_mem_drop hx)
end Mi

set_option Elab.async false
set_option linter.all false
set_option maxRecDepth 100000
set_option maxHeartbeats 2000000
namespace Mi
open PySem PySem.Spec PyProof.Rows L2

/-! ## lots -/
structure LtIn (k : Nat) (acc : List D) (mk : List D → Env) (e : Env) : Prop where
  ex : ∃ h c, GoodH h ∧ e = mk h ∧ acc = List.map D.int c ∧ ClOk k c
theorem lot_ok {h : List D} (g : GoodH h) {many : Int} (hm : 0 ≤ many ∧ many ≤ 1000) : ∃ d h', r__law_lot h [.int many] = .ok d h' ∧ GoodH h' ∧ ∃ c, d = clD c ∧ ClOk many c := by
  rw [r__law_lot_df]
  refine runI_ex rfl (show wE (m__law_lot [.io h, .fz (.int many), .dead, .dead]) _ from ?_)
  unfold m__law_lot
  refine w_mid (fun e => ∃ s : Int, (1 ≤ s ∧ s ≤ 3) ∧ HIn (fun h => [.io h, .fz (.int many), .fz (.int s), .dead]) e) ?_ ?_
  · simp [peek, peekS]
    refine draw_step g (by omega) (by omega) fun n1 h1 g1 b1 c1 => ?_
    simp
    exact ⟨1 + n1, by omega, h1, g1, rfl⟩
  rintro e ⟨s, hs, h, g, rfl⟩
  simp [peek, peekS, killAll]
  refine ⟨by omega, by omega, comp_rng0 (fun k acc e => LtIn k acc (fun h => [.io h, .fz (.int many), .fz (.int s), .dead]) e) (fun k acc e hk I => ?_) (fun acc e I => ?_) ⟨h, [], g, rfl, rfl, ⟨by simp, by simp⟩⟩⟩
  · obtain ⟨h, c, g, rfl, rfl, ok⟩ := I
    refine ⟨_, rfl, ?_⟩
    simp [peek, peekS]
    refine draw_step g (by omega) (by omega) fun n1 h1 g1 b1 c1 => ?_
    simp [killAll]
    split
    · refine ⟨h1, c ++ [(k : Int)], g1, rfl, by simp, ?_, fun x hx => ?_⟩
      · rw [List.pairwise_append]
        refine ⟨ok.asc, by simp, fun a ha b hb => ?_⟩
        have hb : b = (k : Int) := by simpa using hb
        have := (ok.rng a ha).2
        omega
      · rcases List.mem_append.mp hx with hx | hx
        · have := ok.rng x hx; push_cast; omega
        · have hx : x = (k : Int) := by simpa using hx
          push_cast; omega
    · exact ⟨h1, c, g1, rfl, rfl, ok.asc, fun x hx => by have := ok.rng x hx; push_cast; omega⟩
  · obtain ⟨h, c, g, rfl, rfl, ok⟩ := I
    simp [fTuple]
    refine ⟨g, c, rfl, ?_⟩
    rw [show ((many.toNat : Nat) : Int) = many by omega] at ok
    exact ok
theorem lot_below_ok {n : Int} {c : List Int} (hn : n ≤ 1000) (h : ClOk n c) : r_is_lot_below [clD c, .int n] = .ok (.bl true) := by
  have hl := h.len hn
  rw [r_is_lot_below_df]
  refine runP_ok rfl (show wE (m_is_lot_below [.fz (clD c), .fz (.int n), .dead]) _ from ?_)
  unfold m_is_lot_below
  refine w_mid (fun e => e = [.fz (clD c), .fz (.int n), .dead]) ?_ ?_
  · simp [peek, peekS]
    rw [clD]
    simp
    refine ⟨by omega, comp_all (fun _ => .bl true) (fun x hx => ⟨_, rfl, ?_⟩) ?_⟩
    · have := h.rng x hx
      simp [peek, peekS, killAll]
      omega
    · rw [fAll_map (fun _ => true)]
      simp
  rintro e rfl
  simp [peek, peekS, asc_cl hl h]
theorem check_day_ok (p : Pt) {l : List S3} {m : Int} (hl : l.length ≤ 1000000) (h : DayOk p.sz l m) : r_check_day [offD p, dayD l m] = .ok .non := by
  rw [r_check_day_df]
  refine runP_non rfl (show wE (m_check_day [.fz (offD p), .fz (dayD l m)]) _ from ?_)
  simp [m_check_day, peek, peekS, is_day_ok p hl h]
theorem check_lot_ok {l : List S3} {m : Int} {c : List Int} (hl : l.length ≤ 1000) (h : ClOk l.length c) : r_check_lot [dayD l m, clD c] = .ok .non := by
  rw [r_check_lot_df]
  refine runP_non rfl (show wE (m_check_lot [.fz (dayD l m), .fz (clD c)]) _ from ?_)
  simp [m_check_lot, peek, peekS, lot_below_ok (show ((l.length : Nat) : Int) ≤ 1000 by omega) h]
theorem board_of_ok {l : List S3} {m : Int} (hl : l.length ≤ 1000000) : r_board_of [dayD l m] = .ok (bdD l m) := by
  rw [r_board_of_df]
  refine runP_ok rfl (show wE (m_board_of [.fz (dayD l m), .dead]) _ from ?_)
  simp [m_board_of, peek, peekS]
  refine ⟨by omega, comp_all (fun t : S3 => .int t.2.2) (fun t ht => ⟨_, rfl, ?_⟩) ?_⟩
  · simp [peek, peekS, killAll]
  · simp [fTuple, peek, peekS, bdD]
theorem law_board_ok {l : List S3} {m : Int} (hl : l.length ≤ 1000000) : r__law_board [dayD l m] = .ok (bdD l m) := by
  rw [r__law_board_df]
  refine runP_ok rfl (show wE (m__law_board [.fz (dayD l m), .dead]) _ from ?_)
  simp [m__law_board, peek, peekS]
  refine ⟨by omega, comp_all (fun t : S3 => .int t.2.2) (fun t ht => ⟨_, rfl, ?_⟩) ?_⟩
  · simp [peek, peekS, killAll]
  · simp [fTuple, peek, peekS, bdD]
theorem bd_len {l l' : List S3} {m m' : Int} (h : eqD (bdD l m) (bdD l' m') = true) : l.length = l'.length := by
  have := (eqD_it (it_bd l m) (it_bd l' m')).mp h
  unfold bdD at this
  simp at this
  have h1 := congrArg List.length this.1
  simpa using h1
theorem dNe_bd (l l' : List S3) (m m' : Int) : dNe (bdD l m) (bdD l' m') = some (.bl (!eqD (bdD l m) (bdD l' m'))) := dNe_it (n := 3) (by decide) (it_bd l m) (it_bd l' m')
/-- the steps at the lot's places -/
def sameAt (l l' : List S3) (c : List Int) : Bool := c.all fun i => decide (l[i.toNat]? = l'[i.toNat]?)
def taleP (p : Pt) (l : List S3) (m : Int) (c : List Int) (l' : List S3) (m' : Int) : Bool := eqD (bdD l' m') (bdD l m) && sameAt l' l c && trueP p l' m'
theorem at_steps {l : List S3} {i : Int} (h : 0 ≤ i ∧ i < l.length) : ∃ t, l[i.toNat]? = some t ∧ atI (l.map szD) i = some (szD t) := by
  have hi : i.toNat < l.length := by omega
  refine ⟨l[i.toNat], List.getElem?_eq_getElem hi, ?_⟩
  rw [atI_of i.toNat (by omega), List.getElem?_map, List.getElem?_eq_getElem hi]; rfl
theorem is_tale_no {p : Pt} {l : List S3} {m : Int} {c : List Int} {x : D} (hl : l.length ≤ 1000) (hd : DayOk p.sz l m) (hc : ClOk l.length c) (hx : okD x = true) (hn : isDayD p x = false) : r_is_tale [offD p, dayD l m, clD c, x] = .ok (.bl false) := by
  rw [r_is_tale_df]
  refine runP_ok rfl (show wE (m_is_tale [.fz (offD p), .fz (dayD l m), .fz (clD c), .fz x, .dead]) _ from ?_)
  unfold m_is_tale
  refine w_mid (fun e => e = [.fz (offD p), .fz (dayD l m), .fz (clD c), .fz x, .dead]) (by simp [peek, peekS, check_day_ok p (show l.length ≤ 1000000 by omega) hd]) ?_
  rintro e rfl
  refine w_mid (fun e => e = [.fz (offD p), .fz (dayD l m), .fz (clD c), .fz x, .dead]) (by simp [peek, peekS, check_lot_ok hl hc]) ?_
  rintro e rfl
  refine w_mid2 (fun _ => False) ?_ fun _ h => h.elim
  have e1 := is_day_eq p hx
  rw [hn] at e1
  rw [w_mIf, w_mOr, w_mNot, w_mTst, w_mCall]
  simp only [w_mL_cons, w_mL_nil, w_mVar, List.getElem?_cons_zero, List.getElem?_cons_succ, oM_some, e1, prM_ok, bM_bl, Bool.not_false, if_true, w_mRet, w_mK, flM_rt]
theorem is_tale_yes {p : Pt} (hp : PtOk p) {l l' : List S3} {m m' : Int} {c : List Int} (hl : l.length ≤ 1000) (hd : DayOk p.sz l m) (hc : ClOk l.length c) (hl' : l'.length ≤ 1000000) (hd' : DayOk p.sz l' m') :
    r_is_tale [offD p, dayD l m, clD c, dayD l' m'] = .ok (.bl (taleP p l m c l' m')) := by
  have hcl := hc.len (by omega)
  rw [r_is_tale_df]
  refine runP_ok rfl (show wE (m_is_tale [.fz (offD p), .fz (dayD l m), .fz (clD c), .fz (dayD l' m'), .dead]) _ from ?_)
  unfold m_is_tale
  refine w_mid (fun e => e = [.fz (offD p), .fz (dayD l m), .fz (clD c), .fz (dayD l' m'), .dead]) (by simp [peek, peekS, check_day_ok p (show l.length ≤ 1000000 by omega) hd]) ?_
  rintro e rfl
  refine w_mid (fun e => e = [.fz (offD p), .fz (dayD l m), .fz (clD c), .fz (dayD l' m'), .dead]) (by simp [peek, peekS, check_lot_ok hl hc]) ?_
  rintro e rfl
  refine w_mid2 (fun e => eqD (bdD l' m') (bdD l m) = true ∧ e = [.fz (offD p), .fz (dayD l m), .fz (clD c), .fz (dayD l' m'), .dead]) ?_ ?_
  · simp [peek, peekS, is_day_ok p hl' hd', board_of_ok hl', board_of_ok (show l.length ≤ 1000000 by omega), dNe_bd]
    cases h : eqD (bdD l' m') (bdD l m) with
    | true => simp
    | false => simp [taleP, h]
  rintro e ⟨heq, rfl⟩
  have hlen := bd_len heq
  refine w_mid2 (fun e => sameAt l' l c = true ∧ e = [.fz (offD p), .fz (dayD l m), .fz (clD c), .fz (dayD l' m'), .dead]) ?_ ?_
  · rw [clD]
    simp [peek, peekS]
    refine ⟨by omega, comp_all (fun i : Int => .bl (!decide (l'[i.toNat]? = l[i.toNat]?))) (fun i hi => ⟨_, rfl, ?_⟩) ?_⟩
    · have hr := hc.rng i hi
      obtain ⟨t, h1, h2⟩ := at_steps (l := l) (i := i) (by omega)
      obtain ⟨t', h3, h4⟩ := at_steps (l := l') (i := i) (by omega)
      simp [peek, peekS, h2, h4, h1, h3, killAll]
    · rw [fAny_map (fun i : Int => !decide (l'[i.toNat]? = l[i.toNat]?))]
      have e1 : (c.any fun i : Int => !decide (l'[i.toNat]? = l[i.toNat]?)) = !sameAt l' l c := by
        unfold sameAt
        rw [List.not_all_eq_any_not]
      rw [e1]
      cases h : sameAt l' l c with
      | true => simp
      | false => simp [taleP, h]
  rintro e ⟨hs, rfl⟩
  simp [peek, peekS, day_true_ok hp, taleP, heq, hs]
end Mi

set_option Elab.async false
set_option linter.all false
set_option maxRecDepth 100000
set_option maxHeartbeats 1000000
namespace Mi
open PySem PySem.Spec PyProof.Rows L2

theorem snoc_ind {α : Type} {P : List α → Prop} (h0 : P []) (h1 : ∀ l a, P l → P (l ++ [a])) (l : List α) : P l := by
  have key : ∀ r : List α, P r.reverse := by
    intro r
    induction r with
    | nil => exact h0
    | cons a r ih => rw [List.reverse_cons]; exact h1 _ _ ih
  have := key l.reverse
  rwa [List.reverse_reverse] at this
/-! ## ways of standings, in plain words -/
def Goes (p : Pt) : Int → List S3 → Int → Prop
  | st, [], g => st = g
  | st, t :: l, g => ∃ h ∈ goalsAt (rowAt p st) t, Goes p h l g
theorem goes_fold {p : Pt} (hp : PtOk p) {g : Int} : ∀ (l : List S3) (sts : List Int), g ∈ l.foldl (reach p) sts ↔ ∃ st ∈ sts, Goes p st l g
  | [], sts => by simp [Goes]
  | t :: l, sts => by
    rw [List.foldl_cons, goes_fold hp l]
    constructor
    · rintro ⟨h, h1, h2⟩
      obtain ⟨st, h3, h4⟩ := (reach_mem hp t).mp h1
      exact ⟨st, h3, h, h4, h2⟩
    · rintro ⟨st, h3, h, h4, h2⟩
      exact ⟨h, (reach_mem hp t).mpr ⟨st, h3, h4⟩, h2⟩
theorem shuts_iff {p : Pt} {sts : List Int} {m : Int} : shutsP p sts m = true ↔ ∃ st ∈ sts, m ∈ clAt p st := by
  unfold shutsP
  rw [List.any_eq_true]
  simp
theorem true_iff {p : Pt} (hp : PtOk p) {l : List S3} {m : Int} : trueP p l m = true ↔ ∃ g, Goes p 0 l g ∧ m ∈ clAt p g := by
  unfold trueP
  rw [shuts_iff]
  unfold reachAll
  constructor
  · rintro ⟨g, h1, h2⟩
    obtain ⟨st, h3, h4⟩ := (goes_fold hp l [0]).mp h1
    have : st = 0 := by simpa using h3
    subst this
    exact ⟨g, h4, h2⟩
  · rintro ⟨g, h1, h2⟩
    exact ⟨g, (goes_fold hp l [0]).mpr ⟨0, by simp, h1⟩, h2⟩
theorem goes_app {p : Pt} {g : Int} : ∀ (a b : List S3) (st : Int), Goes p st (a ++ b) g ↔ ∃ h, Goes p st a h ∧ Goes p h b g
  | [], b, st => by simp [Goes]
  | t :: a, b, st => by
    simp only [List.cons_append, Goes]
    constructor
    · rintro ⟨x, h1, h2⟩
      obtain ⟨h, h3, h4⟩ := (goes_app a b x).mp h2
      exact ⟨h, ⟨x, h1, h3⟩, h4⟩
    · rintro ⟨h, ⟨x, h1, h3⟩, h4⟩
      exact ⟨x, h1, (goes_app a b x).mpr ⟨h, h3, h4⟩⟩
theorem goes_lt {p : Pt} (hp : PtOk p) {g : Int} : ∀ (l : List S3) (st : Int), 0 ≤ st ∧ st < p.rows.length → Goes p st l g → 0 ≤ g ∧ g < p.rows.length
  | [], st, h, e => by
    have e : st = g := e
    subst e; exact h
  | t :: l, st, h, ⟨x, h1, h2⟩ => goes_lt hp l x (goals_lt hp h h1) h2
/-- standings as a list -/
def rg (p : Pt) : List Int := (List.range p.rows.length).map Int.ofNat
theorem mem_rg {p : Pt} {st : Int} : st ∈ rg p ↔ 0 ≤ st ∧ st < p.rows.length := by
  unfold rg
  rw [List.mem_map]
  constructor
  · rintro ⟨i, hi, rfl⟩
    have := List.mem_range.mp hi
    constructor
    · exact Int.natCast_nonneg i
    · exact Int.ofNat_lt.mpr this
  · rintro ⟨a, b⟩
    exact ⟨st.toNat, List.mem_range.mpr (by omega), by simp; omega⟩
theorem rg_asc (p : Pt) : (rg p).Pairwise (· < ·) := rng_asc _
theorem rg_len (p : Pt) : (rg p).length = p.rows.length := by simp [rg]
theorem rg_nodup (p : Pt) : (rg p).Nodup := asc_nodup (rg_asc p)
def shutSet (p : Pt) (m : Int) : List Int := (rg p).filter fun st => decide (m ∈ clAt p st)
def prevS (p : Pt) (s : List S3) (ls : List Int) : List Int := (rg p).filter fun st => s.any fun t => (goalsAt (rowAt p st) t).any fun g => decide (g ∈ ls)
def backs (p : Pt) (m : Int) : List (List S3) → List Int
  | [] => shutSet p m
  | s :: r => prevS p s (backs p m r)
def Fits : List S3 → List (List S3) → Prop
  | [], [] => True
  | t :: l, s :: r => t ∈ s ∧ Fits l r
  | _, _ => False
theorem Fits.len : ∀ {l : List S3} {r : List (List S3)}, Fits l r → l.length = r.length
  | [], [], _ => rfl
  | t :: l, s :: r, h => by simp [Fits.len h.2]
theorem backs_mem {p : Pt} (hp : PtOk p) {m : Int} : ∀ (lets : List (List S3)) (st : Int), st ∈ backs p m lets ↔ (0 ≤ st ∧ st < p.rows.length) ∧ ∃ l g, Fits l lets ∧ Goes p st l g ∧ m ∈ clAt p g
  | [], st => by
    unfold backs shutSet
    rw [List.mem_filter, mem_rg, decide_eq_true_eq]
    constructor
    · rintro ⟨a, b⟩; exact ⟨a, [], st, trivial, rfl, b⟩
    · rintro ⟨a, l, g, h1, h2, h3⟩
      cases l with
      | nil => have h2 : st = g := h2; subst h2; exact ⟨a, h3⟩
      | cons t l => exact h1.elim
  | s :: r, st => by
    unfold backs prevS
    rw [List.mem_filter, mem_rg, List.any_eq_true]
    constructor
    · rintro ⟨a, t, ht, h1⟩
      obtain ⟨x, hx, h2⟩ := List.any_eq_true.mp h1
      obtain ⟨_, l, g, h3, h4, h5⟩ := (backs_mem hp r x).mp (of_decide_eq_true h2)
      exact ⟨a, t :: l, g, ⟨ht, h3⟩, ⟨x, hx, h4⟩, h5⟩
    · rintro ⟨a, l, g, h1, h2, h3⟩
      cases l with
      | nil => exact h1.elim
      | cons t l =>
        obtain ⟨x, hx, h4⟩ := h2
        refine ⟨a, t, h1.1, List.any_eq_true.mpr ⟨x, hx, decide_eq_true ((backs_mem hp r x).mpr ⟨goals_lt hp a hx, l, g, h1.2, h4, h3⟩)⟩⟩
def canB (p : Pt) (m : Int) (lets : List (List S3)) : Bool := decide (0 ∈ backs p m lets)
theorem canB_iff {p : Pt} (hp : PtOk p) {m : Int} {lets : List (List S3)} : canB p m lets = true ↔ ∃ l, Fits l lets ∧ trueP p l m = true := by
  unfold canB
  rw [decide_eq_true_eq, backs_mem hp]
  have hn := hp.n
  constructor
  · rintro ⟨_, l, g, h1, h2, h3⟩
    exact ⟨l, h1, (true_iff hp).mpr ⟨g, h2, h3⟩⟩
  · rintro ⟨l, h1, h2⟩
    obtain ⟨g, h3, h4⟩ := (true_iff hp).mp h2
    exact ⟨by omega, l, g, h1, h3, h4⟩
theorem backs_asc (p : Pt) (m : Int) (lets : List (List S3)) : (backs p m lets).Pairwise (· < ·) := by
  cases lets with
  | nil => exact (rg_asc p).filter _
  | cons s r => exact (rg_asc p).filter _
/-- the layers, from each place on -/
def backL (p : Pt) (m : Int) : List (List S3) → List (List Int)
  | [] => [backs p m []]
  | s :: r => backs p m (s :: r) :: backL p m r
theorem backL_len (p : Pt) (m : Int) : ∀ lets : List (List S3), (backL p m lets).length = lets.length + 1
  | [] => rfl
  | s :: r => by unfold backL; rw [List.length_cons, backL_len p m r, List.length_cons]
theorem backL_get (p : Pt) (m : Int) : ∀ (lets : List (List S3)) (i : Nat), i ≤ lets.length → (backL p m lets)[i]? = some (backs p m (lets.drop i))
  | [], i, h => by
    have : i = 0 := by simpa using h
    subst this; rfl
  | s :: r, 0, _ => rfl
  | s :: r, i + 1, h => by
    unfold backL
    rw [List.getElem?_cons_succ, backL_get p m r i (by simpa using h), List.drop_succ_cons]
/-! ## all steps -/
def upto (n : Int) : List Int := (List.range n.toNat).map Int.ofNat
theorem mem_upto {n x : Int} : x ∈ upto n ↔ 0 ≤ x ∧ x < n := by
  unfold upto
  rw [List.mem_map]
  constructor
  · rintro ⟨i, hi, rfl⟩
    have := List.mem_range.mp hi
    simp; omega
  · rintro ⟨a, b⟩
    exact ⟨x.toNat, List.mem_range.mpr (by omega), by simp; omega⟩
theorem upto_asc (n : Int) : (upto n).Pairwise (· < ·) := rng_asc _
theorem upto_len (n : Int) : (upto n).length = n.toNat := by simp [upto]
theorem rng_upto (n : Int) : rngD 0 n.toNat = (upto n).map .int := by
  rw [rng0]; simp [upto, Function.comp_def]
def allSt (s : S3) : List S3 := (upto s.1).flatMap fun a => (upto s.2.1).flatMap fun b => (upto s.2.2).map fun c => (a, b, c)
theorem mem_allSt {s t : S3} : t ∈ allSt s ↔ StOk s t := by
  unfold allSt
  simp only [List.mem_flatMap, List.mem_map, mem_upto]
  constructor
  · rintro ⟨a, ha, b, hb, c, hc, rfl⟩
    exact ⟨ha, hb, hc⟩
  · rintro ⟨a, b, c⟩
    exact ⟨t.1, a, t.2.1, b, t.2.2, c, rfl⟩
def stepsW (s : S3) (m : Int) : List S3 := (allSt s).filter fun t => decide (t.2.2 = m)
theorem mem_stepsW {s t : S3} {m : Int} : t ∈ stepsW s m ↔ StOk s t ∧ t.2.2 = m := by
  unfold stepsW
  rw [List.mem_filter, mem_allSt, decide_eq_true_eq]
theorem allSt_len (s : S3) : (allSt s).length = s.1.toNat * (s.2.1.toNat * s.2.2.toNat) := by
  unfold allSt
  have h2 : ∀ (l : List Int) (f : Int → List S3) (k : Nat), (∀ x, (f x).length = k) → (l.flatMap f).length = l.length * k := by
    intro l f k h
    induction l with
    | nil => simp
    | cons a l ih => rw [List.flatMap_cons, List.length_append, ih, h, List.length_cons, Nat.succ_mul, Nat.add_comm]
  rw [h2 _ _ (s.2.1.toNat * s.2.2.toNat) fun a => ?_, upto_len]
  rw [h2 _ _ s.2.2.toNat fun b => ?_, upto_len]
  rw [List.length_map, upto_len]
theorem allSt_le {s : S3} (h : SzOk s) : (allSt s).length ≤ 64 := by
  rw [allSt_len]
  have a := h.a
  have b := h.b
  have c := h.c
  have h1 : s.1.toNat ≤ 4 := by omega
  have h2 : s.2.1.toNat ≤ 4 := by omega
  have h3 : s.2.2.toNat ≤ 4 := by omega
  calc s.1.toNat * (s.2.1.toNat * s.2.2.toNat) ≤ 4 * (4 * 4) := Nat.mul_le_mul h1 (Nat.mul_le_mul h2 h3)
    _ = 64 := rfl
/-! ## all true days of a board, as they are listed -/
abbrev Rw' := List S3 × List Int
def stepR (p : Pt) (mk : Int) (r : Rw') : List Rw' := ((stepsW p.sz mk).filter fun o => decide (reach p r.2 o ≠ [])).map fun o => (r.1 ++ [o], reach p r.2 o)
def rowsB (p : Pt) (marks : List Int) : List Rw' := marks.foldl (fun rs mk => rs.flatMap (stepR p mk)) [([], [0])]
def everyB (p : Pt) (marks : List Int) (m : Int) : List (List S3) := ((rowsB p marks).filter fun r => shutsP p r.2 m).map (·.1)
theorem rowsB_snoc (p : Pt) (marks : List Int) (mk : Int) : rowsB p (marks ++ [mk]) = (rowsB p marks).flatMap (stepR p mk) := by
  unfold rowsB
  rw [List.foldl_append]; rfl
/-- the rows are just the steps with these marks that lead somewhere -/
theorem mem_rowsB {p : Pt} (hp : PtOk p) : ∀ (marks : List Int) (r : Rw'), r ∈ rowsB p marks ↔ (∀ t ∈ r.1, StOk p.sz t) ∧ r.1.map (fun t => t.2.2) = marks ∧ r.2 = reachAll p r.1 ∧ r.2 ≠ [] := by
  intro marks
  refine snoc_ind (P := fun marks => ∀ r : Rw', r ∈ rowsB p marks ↔ (∀ t ∈ r.1, StOk p.sz t) ∧ r.1.map (fun t => t.2.2) = marks ∧ r.2 = reachAll p r.1 ∧ r.2 ≠ []) ?_ ?_ marks
  · intro r
    obtain ⟨l, sd⟩ := r
    constructor
    · intro h
      have h : (l, sd) = ([], [0]) := by simpa [rowsB] using h
      cases h
      exact ⟨by simp, rfl, rfl, by simp⟩
    · rintro ⟨_, h2, h3, _⟩
      have h2 : l = [] := by simpa using h2
      subst h2
      have h3 : sd = [0] := h3
      subst h3
      simp [rowsB]
  · intro marks mk ih r
    rw [rowsB_snoc, List.mem_flatMap]
    constructor
    · rintro ⟨r0, h0, h1⟩
      obtain ⟨a1, a2, a3, a4⟩ := (ih r0).mp h0
      obtain ⟨o, ho, rfl⟩ := List.mem_map.mp h1
      obtain ⟨ho1, ho2⟩ := List.mem_filter.mp ho
      obtain ⟨ho3, ho4⟩ := mem_stepsW.mp ho1
      refine ⟨fun t ht => ?_, by simp [a2, ho4], ?_, of_decide_eq_true ho2⟩
      · rcases List.mem_append.mp ht with ht | ht
        · exact a1 t ht
        · have : t = o := by simpa using ht
          rw [this]; exact ho3
      · show reach p r0.2 o = _
        rw [a3, reachAll_snoc]
    · obtain ⟨l, sd⟩ := r
      rintro ⟨a1, a2, a3, a4⟩
      simp only at a1 a2 a3 a4
      have hne : l ≠ [] := by rintro rfl; simp at a2
      obtain ⟨l0, o, rfl⟩ : ∃ l0 o, l = l0 ++ [o] := ⟨l.dropLast, l.getLast hne, (List.dropLast_concat_getLast hne).symm⟩
      rw [List.map_append] at a2
      have a2' := List.append_inj' a2 rfl
      have b1 : l0.map (fun t => t.2.2) = marks := a2'.1
      have b2 : o.2.2 = mk := by simpa using a2'.2
      rw [reachAll_snoc] at a3
      subst a3
      refine ⟨(l0, reachAll p l0), (ih _).mpr ⟨fun t ht => a1 t (by simp [ht]), b1, rfl, ?_⟩, List.mem_map.mpr ⟨o, List.mem_filter.mpr ⟨mem_stepsW.mpr ⟨a1 o (by simp), b2⟩, decide_eq_true a4⟩, rfl⟩⟩
      intro hz
      simp only at hz
      rw [hz] at a4
      exact a4 (by unfold reach; simp)
theorem mem_everyB {p : Pt} (hp : PtOk p) {marks : List Int} {m : Int} {l : List S3} : l ∈ everyB p marks m ↔ StsOk p.sz l ∧ l.map (fun t => t.2.2) = marks ∧ trueP p l m = true := by
  unfold everyB
  rw [List.mem_map]
  constructor
  · rintro ⟨r, hr, rfl⟩
    obtain ⟨h1, h2⟩ := List.mem_filter.mp hr
    obtain ⟨a1, a2, a3, a4⟩ := (mem_rowsB hp marks r).mp h1
    exact ⟨⟨a1⟩, a2, by unfold trueP; rw [← a3]; exact h2⟩
  · rintro ⟨h1, h2, h3⟩
    refine ⟨(l, reachAll p l), List.mem_filter.mpr ⟨(mem_rowsB hp marks _).mpr ⟨h1.all, h2, rfl, ?_⟩, h3⟩, rfl⟩
    intro hz
    unfold trueP at h3
    simp only at hz
    rw [hz] at h3
    simp [shutsP] at h3
theorem rowsB_len {p : Pt} {k : Nat} (hk : ∀ mk, (stepsW p.sz mk).length ≤ k) : ∀ (marks : List Int), (rowsB p marks).length ≤ k ^ marks.length := by
  intro marks
  refine snoc_ind (P := fun marks => (rowsB p marks).length ≤ k ^ marks.length) ?_ ?_ marks
  · simp [rowsB]
  · intro marks mk ih
    rw [rowsB_snoc, List.length_append, List.length_singleton, Nat.pow_succ]
    have h2 : ∀ l : List Rw', (l.flatMap (stepR p mk)).length ≤ l.length * k := by
      intro l
      induction l with
      | nil => simp
      | cons a l ih2 =>
        rw [List.flatMap_cons, List.length_append, List.length_cons, Nat.succ_mul]
        have : (stepR p mk a).length ≤ k := by
          unfold stepR
          rw [List.length_map]
          exact Nat.le_trans (List.length_filter_le _ _) (hk mk)
        omega
    exact Nat.le_trans (h2 _) (Nat.mul_le_mul_right k ih)
end Mi

set_option Elab.async false
set_option linter.all false
set_option maxRecDepth 100000
set_option maxHeartbeats 1000000
namespace Mi
open PySem PySem.Spec PyProof.Rows L2

/-! ## the newer constructs -/
section
variable {Q : D → Env → Prop} {QA : List D → Env → Prop} {QS : Fl → Env → Prop} {env : Env} {m ma mb mk mv : ME} {a b c : Opd} {t t1 : MT} {it it1 ml : MA} {vs vs1 : List Nat} {bd bd1 : Bd}
@[simp] theorem w_mComp2 : wE (mComp2 vs it bd t vs1 it1 bd1 t1 m env) QA = wE (it env) fun ds e1 => wE (comp2Go vs bd t vs1 it1 bd1 t1 m 0 ds (killAll vs e1)) QA := by
  unfold mComp2
  rw [w_bind]
@[simp] theorem w_mDc : wE (mDc vs it bd t mk mv env) Q = wE (it env) fun ds e1 => wE (dcGo vs bd t mk mv ds [] [] (killAll vs e1)) fun p e2 => Q (.dic false p.1 p.2) e2 := by
  unfold mDc
  rw [w_bind]
  congr 1; funext ds e1
  rw [w_bind]; rfl
@[simp] theorem w_mEnum : wE (mEnum m env) QA = wE (m env) fun d e1 => sM d fun ds => QA (enD ds) e1 := by
  unfold mEnum
  rw [w_bind]
  congr 1; funext d e1
  cases d <;> rfl
@[simp] theorem w_mRaise0 (c : Str) : wE (mRaise0 c env) QS = False := rfl
@[simp] theorem w_mPar2 (i j : Nat) : wE (mPar2 i j ml env) QS = wE (ml env) fun ds e1 => match ds with
    | [d1, d2] => QS .nx ((e1.set i (.fz d1)).set j (.fz d2))
    | _ => False := by
  unfold mPar2
  rw [w_bind]
  congr 1; funext ds e1
  rcases ds with _ | ⟨d1, _ | ⟨d2, _ | ⟨d3, r⟩⟩⟩ <;> rfl
end
theorem comp2_map {α β : Type} {vs vs1 : List Nat} {b b1 : Bd} {t t1 : MT} {it1 : MA} {m : ME} {Q : List D → Env → Prop} {env : Env} {g : α → D} {g1 : β → D} (p : α → Bool) (bs : α → List β) (q : α → β → Bool) (f : α → β → D) {as : List α}
    (h : ∀ a ∈ as, ∃ e1, b (g a) env = some e1 ∧ wE (t e1) fun c e2 => c = p a ∧ if p a = true then wE (it1 e2) fun ds e3 => ds = (bs a).map g1 ∧ killAll vs (killAll vs1 e3) = env ∧
      (∀ x ∈ bs a, ∃ e4, b1 (g1 x) (killAll vs1 e3) = some e4 ∧ wE (t1 e4) fun c e5 => c = q a x ∧ if q a x = true then wE (m e5) fun y e6 => y = f a x ∧ killAll vs1 e6 = killAll vs1 e3 else killAll vs1 e5 = killAll vs1 e3) else killAll vs e2 = env)
    (hl : ((as.filter p).map fun a => (bs a).length).sum ≤ 1000000) (hq : Q ((as.filter p).flatMap fun a => ((bs a).filter (q a)).map (f a)) env) : wE (comp2Go vs b t vs1 it1 b1 t1 m 0 (as.map g) env) Q := by
  have key : ∀ (r : List α) (n : Nat), (∀ d ∈ r, d ∈ as) → n + ((r.filter p).map fun a => (bs a).length).sum ≤ 1000000 → wE (comp2Go vs b t vs1 it1 b1 t1 m n (r.map g) env) fun z e => z = ((r.filter p).flatMap fun a => ((bs a).filter (q a)).map (f a)) ∧ e = env := by
    intro r
    induction r with
    | nil => intro n _ _; exact ⟨rfl, rfl⟩
    | cons d r ih =>
      intro n hm hn
      obtain ⟨e1, h1, h2⟩ := h d (hm d List.mem_cons_self)
      have hr : ∀ x ∈ r, x ∈ as := fun x hx => hm x (List.mem_cons_of_mem _ hx)
      rw [List.map_cons]
      unfold comp2Go
      simp only [h1]
      obtain ⟨c, e2, h3, rfl, h4⟩ := wE_eq h2
      rw [h3]
      by_cases hp : p d = true
      · rw [if_pos hp] at h4
        rw [List.filter_cons_of_pos hp] at hn ⊢
        rw [List.map_cons, List.sum_cons] at hn
        simp only [noX_ok, Rs.bind_ok, hp, if_true]
        obtain ⟨ds, e3, h5, rfl, h6, h7⟩ := wE_eq h4
        rw [h5]
        simp only [noX_ok, Rs.bind_ok]
        rw [if_pos (show n + ((bs d).map g1).length ≤ lim by rw [List.length_map]; show _ ≤ 1000000; omega)]
        have h8 : wE (compGo vs1 b1 t1 m ((bs d).map g1) (killAll vs1 e3)) fun z e => z = ((bs d).filter (q d)).map (f d) ∧ e = killAll vs1 e3 := comp_map (q d) (f d) h7 ⟨rfl, rfl⟩
        obtain ⟨r1, e4, h9, rfl, rfl⟩ := wE_eq h8
        rw [h9]
        simp only [noX_ok, Rs.bind_ok]
        rw [w_bind, h6]
        have hlen : (((bs d).filter (q d)).map (f d)).length ≤ (bs d).length := by rw [List.length_map]; exact List.length_filter_le _ _
        refine (ih _ hr (by omega)).imp fun z e hz => ?_
        obtain ⟨rfl, rfl⟩ := hz
        exact ⟨by rw [List.flatMap_cons], rfl⟩
      · rw [if_neg hp] at h4
        rw [List.filter_cons_of_neg hp] at hn ⊢
        simp only [noX_ok, Rs.bind_ok, hp, Bool.false_eq_true, if_false]
        rw [h4]
        exact ih n hr hn
  refine (key as 0 (fun _ h => h) (by simpa using hl)).imp fun z e hz => ?_
  obtain ⟨rfl, rfl⟩ := hz
  exact hq
theorem dc_map {α : Type} {vs : List Nat} {b : Bd} {t : MT} {mk mv : ME} {Q : List D × List D → Env → Prop} {env : Env} {g : α → D} (p : α → Bool) (k : α → Int) (v : α → D) {as : List α}
    (h : ∀ a ∈ as, ∃ e1, b (g a) env = some e1 ∧ wE (t e1) fun c e2 => c = p a ∧ if p a = true then wE (mk e2) fun x e3 => x = .int (k a) ∧ wE (mv e3) fun y e4 => y = v a ∧ killAll vs e4 = env else killAll vs e2 = env)
    (nd : (as.map k).Nodup) (hl : as.length ≤ 1000000) (hq : Q (((as.filter p).map k).map .int, (as.filter p).map v) env) : wE (dcGo vs b t mk mv (as.map g) [] [] env) Q := by
  have key : ∀ (r done : List α), as = done ++ r → wE (dcGo vs b t mk mv (r.map g) (((done.filter p).map k).map .int) ((done.filter p).map v) env) fun z e => z = (((as.filter p).map k).map .int, (as.filter p).map v) ∧ e = env := by
    intro r
    induction r with
    | nil => intro done he; rw [List.append_nil] at he; subst he; exact ⟨rfl, rfl⟩
    | cons d r ih =>
      intro done he
      obtain ⟨e1, h1, h2⟩ := h d (by rw [he]; simp)
      have he2 : as = (done ++ [d]) ++ r := by rw [he]; simp
      have hlen : done.length < as.length := by rw [he]; simp
      rw [List.map_cons]
      unfold dcGo
      simp only [h1]
      obtain ⟨c, e2, h3, rfl, h4⟩ := wE_eq h2
      rw [h3]
      have ih' := ih (done ++ [d]) he2
      rw [List.filter_append] at ih'
      by_cases hp : p d = true
      · rw [if_pos hp] at h4
        rw [show [d].filter p = [d] by simp [hp], List.map_append, List.map_append, List.map_append] at ih'
        simp only [noX_ok, Rs.bind_ok, hp, if_true]
        obtain ⟨x, e3, h5, rfl, h6⟩ := wE_eq h4
        rw [h5]
        simp only [noX_ok, Rs.bind_ok]
        obtain ⟨y, e4, h7, rfl, h8⟩ := wE_eq h6
        rw [h7]
        have hk : k d ∉ (done.filter p).map k := by
          intro hm
          obtain ⟨a, ha, e⟩ := List.mem_map.mp hm
          have ha := (List.mem_filter.mp ha).1
          rw [he, List.map_append, List.nodup_append] at nd
          exact nd.2.2 (k a) (List.mem_map.mpr ⟨a, ha, rfl⟩) (k d) (by simp) e
        have hfl : ((done.filter p).map v).length < lim := by
          rw [List.length_map]
          have := List.length_filter_le p done
          show _ < 1000000
          omega
        simp only [noX_ok, Rs.bind_ok]
        rw [if_pos hfl, put_int, if_neg hk]
        simp only [h8]
        simpa using ih'
      · rw [if_neg hp] at h4
        rw [show [d].filter p = [] by simp [hp], List.append_nil] at ih'
        simp only [noX_ok, Rs.bind_ok, hp, Bool.false_eq_true, if_false]
        rw [h4]
        exact ih'
  refine (key as [] rfl).imp fun z e hz => ?_
  obtain ⟨rfl, rfl⟩ := hz
  exact hq
theorem en_eq {ds : List D} (f : Nat → D) (h : ∀ i, i < ds.length → ds[i]? = some (f i)) : enD ds = (List.range ds.length).map fun i : Nat => .tup [.int (i : Int), f i] := by
  refine List.ext_getElem? fun i => ?_
  by_cases hi : i < ds.length
  · rw [enD_get (h i hi)]
    simp [hi]
  · rw [List.getElem?_eq_none (by rw [enD_length]; omega), List.getElem?_eq_none (by simp; omega)]
/-- a loop with what is done so far, and the rest -/
theorem for_accR {α : Type} {b : Bd} {body : MS} {Q : Fl → Env → Prop} {g : α → D} {as : List α} (I : List α → Env → Prop) (step : ∀ done a rest env, as = done ++ a :: rest → I done env → ∃ e1, b (g a) env = some e1 ∧ wE (body e1) fun f e2 => f = .nx ∧ I (done ++ [a]) e2) (fin : ∀ env, I as env → Q .nx env)
    {env : Env} (h : I [] env) : wE (mForGo b body (as.map g) env) Q := by
  refine for_go (fun rest e => ∃ done r, as = done ++ r ∧ rest = r.map g ∧ I done e) (fun d r e ⟨done, l, ha, hl, hI⟩ => ?_) (fun e ⟨done, l, ha, hl, hI⟩ => ?_) ⟨[], as, rfl, rfl, h⟩
  · cases l with
    | nil => cases hl
    | cons a l =>
      injection hl with h1 h2
      subst h1
      obtain ⟨e1, g1, g2⟩ := step done a l e ha hI
      refine ⟨e1, g1, g2.imp fun f e2 ⟨hf, hI2⟩ => ?_⟩
      subst hf
      exact ⟨done ++ [a], l, by rw [ha]; simp, h2, hI2⟩
  · cases l with
    | nil => rw [List.append_nil] at ha; subst ha; exact fin e hI
    | cons a l => cases hl
/-- a loop that puts nothing, or some, behind an owned list -/
theorem for_app {α : Type} {b : Bd} {body : MS} {Q : Fl → Env → Prop} {g : α → D} {as : List α} (mk : List D → Env) (f : α → List D) (acc0 : List D) (N : Nat) (hN : acc0.length + (as.flatMap f).length ≤ N)
    (step : ∀ a ∈ as, ∀ acc : List D, acc.length + (f a).length ≤ N → ∃ e1, b (g a) (mk acc) = some e1 ∧ wE (body e1) fun fl e2 => fl = .nx ∧ e2 = mk (acc ++ f a)) (fin : Q .nx (mk (acc0 ++ as.flatMap f))) : wE (mForGo b body (as.map g) (mk acc0)) Q := by
  refine for_accR (fun done e => e = mk (acc0 ++ done.flatMap f)) (fun done a rest e ha he => ?_) (fun e he => by rw [he]; exact fin) (by simp)
  subst he
  have hb : (acc0 ++ done.flatMap f).length + (f a).length ≤ N := by
    rw [ha, List.flatMap_append, List.flatMap_cons] at hN
    simp at hN ⊢
    omega
  obtain ⟨e1, h1, h2⟩ := step a (by rw [ha]; simp) _ hb
  refine ⟨e1, h1, h2.imp fun fl e2 ⟨q1, q2⟩ => ⟨q1, ?_⟩⟩
  rw [q2]
  simp
/-- a loop that makes one thing out of another -/
theorem for_fold {α β : Type} {b : Bd} {body : MS} {Q : Fl → Env → Prop} {g : α → D} {as : List α} (mk : β → Env) (f : β → α → β) (x0 : β) (P : β → Prop) (h0 : P x0)
    (step : ∀ a ∈ as, ∀ x, P x → P (f x a) ∧ ∃ e1, b (g a) (mk x) = some e1 ∧ wE (body e1) fun fl e2 => fl = .nx ∧ e2 = mk (f x a)) (fin : P (as.foldl f x0) → Q .nx (mk (as.foldl f x0))) : wE (mForGo b body (as.map g) (mk x0)) Q := by
  refine for_accR (fun done e => e = mk (done.foldl f x0) ∧ P (done.foldl f x0)) (fun done a rest e ha ⟨he, hp⟩ => ?_) (fun e ⟨he, hp⟩ => by rw [he]; exact fin hp) ⟨rfl, h0⟩
  subst he
  obtain ⟨p2, e1, h1, h2⟩ := step a (by rw [ha]; simp) _ hp
  refine ⟨e1, h1, h2.imp fun fl e2 ⟨q1, q2⟩ => ⟨q1, ?_⟩⟩
  rw [List.foldl_append]
  exact ⟨q2, p2⟩
end Mi

set_option Elab.async false
set_option linter.all false
set_option maxRecDepth 100000
set_option maxHeartbeats 1000000
namespace Mi
open PySem PySem.Spec PyProof.Rows L2

/-! ## steps that may stand -/
def ntP (t : Int × Int) : D := .tup [.int t.1, .int t.2]
theorem sum_const {α : Type} (l : List α) (k : Nat) : (l.map fun _ => k).sum = l.length * k := by
  induction l with
  | nil => simp
  | cons a l ih => rw [List.map_cons, List.sum_cons, ih, List.length_cons, Nat.succ_mul, Nat.add_comm]
@[simp] theorem filter_yes {α : Type} (l : List α) : (l.filter fun _ => true) = l := List.filter_eq_self.mpr fun _ _ => rfl
theorem all_steps_ok {p : Pt} (hp : PtOk p) : r_all_steps [offD p] = .ok (.lst ((allSt p.sz).map szD)) := by
  have a1 := hp.sz.a
  have a2 := hp.sz.b
  have a3 := hp.sz.c
  rw [r_all_steps_df]
  refine runP_ok rfl (show wE (m_all_steps [.fz (offD p), .dead, .dead, .dead, .dead, .dead, .dead, .dead, .dead]) _ from ?_)
  unfold m_all_steps
  refine w_mid (fun e => e = ([.fz (offD p), .fz (.int p.sz.1), .fz (.int p.sz.2.1), .fz (.int p.sz.2.2), .dead, .dead, .dead, .dead, .dead] : Env)) (by simp [peek, peekS, killAll]) ?_
  rintro e rfl
  let nts : List (Int × Int) := (upto p.sz.1).flatMap fun a => (upto p.sz.2.1).map fun b => (a, b)
  have hnl : nts.length ≤ 16 := by
    show ((upto p.sz.1).flatMap fun a => (upto p.sz.2.1).map fun b => (a, b)).length ≤ 16
    rw [List.length_flatMap]
    simp only [List.length_map, upto_len]
    rw [sum_const, upto_len]
    have h1 : p.sz.1.toNat ≤ 4 := by omega
    have h2 : p.sz.2.1.toNat ≤ 4 := by omega
    exact Nat.mul_le_mul h1 h2
  refine w_mid (fun e => e = ([.fz (offD p), .fz (.int p.sz.1), .fz (.int p.sz.2.1), .fz (.int p.sz.2.2), .ol (nts.map ntP), .dead, .dead, .dead, .dead] : Env)) ?_ ?_
  · simp [peek, peekS, killAll]
    rw [rng_upto]
    refine ⟨by omega, comp2_map (g1 := D.int) (fun _ => true) (fun _ => upto p.sz.2.1) (fun _ _ => true) (fun a b => ntP (a, b)) (fun a ha => ⟨_, rfl, ?_⟩) ?_ ?_⟩
    · simp [peek, peekS, killAll]
      refine ⟨by omega, rng_upto _, fun x hx => ?_⟩
      rfl
    · simp [upto_len, sum_const]
      have h1 : p.sz.1.toNat ≤ 4 := by omega
      have h2 : p.sz.2.1.toNat ≤ 4 := by omega
      exact Nat.le_trans (Nat.mul_le_mul h1 h2) (by decide)
    · simp [nts, List.map_flatMap, Function.comp_def]
  rintro e rfl
  simp [peek, peekS, killAll]
  refine comp2_map (g1 := D.int) (fun _ => true) (fun _ => upto p.sz.2.2) (fun _ _ => true) (fun (a : Int × Int) b => szD (a.1, a.2, b)) (fun a ha => ⟨_, rfl, ?_⟩) ?_ ?_
  · simp [peek, peekS, killAll]
    refine ⟨by omega, rng_upto _, fun x hx => ?_⟩
    rfl
  · simp [upto_len, sum_const]
    have h1 : p.sz.2.2.toNat ≤ 4 := by omega
    exact Nat.le_trans (Nat.mul_le_mul hnl h1) (by decide)
  · simp [nts, allSt, List.map_flatMap, List.flatMap_assoc, List.flatMap_map, Function.comp_def]
theorem steps_with_ok {p : Pt} (hp : PtOk p) (m : Int) : r_steps_with [offD p, .int m] = .ok (.lst ((stepsW p.sz m).map szD)) := by
  have hl := allSt_le hp.sz
  rw [r_steps_with_df]
  refine runP_ok rfl (show wE (m_steps_with [.fz (offD p), .fz (.int m), .dead]) _ from ?_)
  unfold m_steps_with
  simp [peek, peekS, killAll, all_steps_ok hp]
  refine ⟨by omega, comp_map (fun t : S3 => decide (t.2.2 = m)) szD (fun t ht => ⟨_, rfl, ?_⟩) rfl⟩
  simp [peek, peekS, killAll]
end Mi

set_option Elab.async false
set_option linter.all false
set_option maxRecDepth 100000
set_option maxHeartbeats 1000000
namespace Mi
open PySem PySem.Spec PyProof.Rows L2

/-! ## dicts by ints -/
def inK (i : Int) : Key := .inl i
theorem findK_int (v : Int → D) (i : Int) : ∀ c : List Int, findK (c.map .inl) (c.map v) (.inl i : Key) = if i ∈ c then some (v i) else none
  | [] => rfl
  | a :: c => by
    simp only [List.map_cons, findK]
    by_cases h : a = i
    · subst h
      simp
    · rw [if_neg (by simpa using h), findK_int v i c]
      have : i ≠ a := fun z => h z.symm
      simp [this]
theorem get_int (v : Int → D) (i : Int) (c : List Int) : dicGet false (c.map .int) (c.map v) (.int i) = some (if i ∈ c then some (v i) else none) := by
  unfold dicGet
  simp only [keysOf_int, keyOf]
  rw [findK_int]
def dcD (c : List Int) (v : Int → D) : D := .dic false (c.map .int) (c.map v)
theorem in_dc (c : List Int) (v : Int → D) (i : Int) : dIn (.int i) (dcD c v) = some (.bl (decide (i ∈ c))) := by
  unfold dIn dInB dcD
  simp only [get_int]
  by_cases h : i ∈ c <;> simp [h]
theorem notIn_dc (c : List Int) (v : Int → D) (i : Int) : dNotIn (.int i) (dcD c v) = some (.bl (!decide (i ∈ c))) := by
  unfold dNotIn dInB dcD
  simp only [get_int]
  by_cases h : i ∈ c <;> simp [h]
theorem ix_dc {c : List Int} {v : Int → D} {i : Int} (h : i ∈ c) : dIx (dcD c v) (.int i) = some (v i) := by
  show (dicGet false (c.map .int) (c.map v) (.int i)).join = _
  rw [get_int, if_pos h]; rfl
/-- a set of ints as a dict -/
def setD (l : List Int) : D := dcD l fun _ => .bl true
theorem en_cls {p : Pt} (hp : PtOk p) : enD (p.cls.map clD) = (rg p).map fun st => .tup [.int st, clD (clAt p st)] := by
  rw [en_eq (fun i => clD (clAt p (i : Int))) fun i hi => ?_]
  · rw [List.length_map, hp.e]
    unfold rg
    rw [List.map_map]; rfl
  · rw [List.length_map] at hi
    rw [List.getElem?_map]
    unfold clAt
    simp [hi]
theorem en_kept (p : Pt) : enD (p.rows.map fun r => keptD (keptOf r)) = (rg p).map fun st => .tup [.int st, keptD (keptOf (rowAt p st))] := by
  rw [en_eq (fun i => keptD (keptOf (rowAt p (i : Int)))) fun i hi => ?_]
  · rw [List.length_map]
    unfold rg
    rw [List.map_map]; rfl
  · rw [List.length_map] at hi
    rw [List.getElem?_map]
    unfold rowAt
    simp [hi]
@[simp] theorem atI_zero {α : Type} (a : α) (l : List α) : atI (a :: l) 0 = some a := by
  have := atI_of (ds := a :: l) (i := 0) 0 rfl
  simpa using this
theorem flatMap_one {α β : Type} (f : α → β) (l : List α) : (l.flatMap fun x => [f x]) = l.map f := by
  induction l with
  | nil => rfl
  | cons a l ih => rw [List.flatMap_cons, ih]; rfl
theorem upto_at {α : Type} (f : Int → α) {n x : Int} (h : 0 ≤ x ∧ x < n) : atI ((upto n).map f) x = some (f x) := by
  rw [atI_of x.toNat (by omega)]
  unfold upto
  have : x.toNat < n.toNat := by omega
  simp [this]
  congr 1; omega
theorem atI_last {α : Type} (l : List α) (a : α) : atI (l ++ [a]) (-1) = some a := by
  unfold atI ixN
  rw [if_neg (by decide), if_pos (by simp; omega)]
  have : (-1 + ((l ++ [a]).length : Int)).toNat = l.length := by simp; omega
  simp only [Option.bind_some, this]
  simp
def letsD (lets : List (List S3)) : D := .lst (lets.map fun l => .lst (l.map szD))
@[simp] theorem dRev_lst (ds : List D) : dRev (.lst ds) = some (.lst ds.reverse) := rfl
@[simp] theorem dNeg_int (i : Int) : dNeg (.int i) = some (.int (-i)) := rfl
theorem backL_hd (p : Pt) (m : Int) (r : List (List S3)) : ∃ tl, backL p m r = backs p m r :: tl := by
  cases r with
  | nil => exact ⟨[], rfl⟩
  | cons s r => exact ⟨_, rfl⟩
@[simp] theorem dFld_closings (p : Pt) : dFld cs_off "closings" (offD p) = some (.tup (p.cls.map clD)) := rfl
@[simp] theorem dFld_kept (p : Pt) : dFld cs_off "kept_goals" (offD p) = some (.lst (p.rows.map fun r => keptD (keptOf r))) := rfl
theorem goalsAt_le {p : Pt} (hp : PtOk p) {st : Int} (h : 0 ≤ st ∧ st < p.rows.length) (t : S3) : (goalsAt (rowAt p st) t).length ≤ 1000000 := by
  unfold goalsAt
  rw [List.length_map]
  have h1 := List.length_filter_le (fun m => decide (stepOf m = t)) (rowAt p st)
  have h2 := (hp.rows.row _ (rowAt_mem h)).1
  omega
theorem layers_back_ok {p : Pt} (hp : PtOk p) {lets : List (List S3)} {m : Int} (hl : lets.length ≤ 1000) (hs : ∀ s ∈ lets, s.length ≤ 1000) :
    r_layers_back [offD p, letsD lets, .int m] = .ok (.lst ((backL p m lets).map setD)) := by
  have hn := hp.n
  rw [r_layers_back_df]
  refine runP_ok rfl (show wE (m_layers_back [.fz (offD p), .fz (letsD lets), .fz (.int m), .dead, .dead, .dead, .dead, .dead, .dead, .dead, .dead]) _ from ?_)
  unfold m_layers_back
  refine w_mid (fun e => e = ([.fz (offD p), .fz (letsD lets), .fz (.int m), .ol ([shutSet p m].map setD), .dead, .dead, .dead, .dead, .dead, .dead, .dead] : Env)) ?_ ?_
  · simp [peek, peekS, killAll]
    rw [en_cls hp]
    refine dc_map (fun st => decide (m ∈ clAt p st)) id (fun _ => .bl true) (fun st hst => ⟨_, rfl, ?_⟩) (by simpa using rg_nodup p) (by rw [rg_len]; omega) ?_
    · simp [peek, peekS, killAll, in_cl]
    · simp [setD, dcD, shutSet]
  rintro e rfl
  refine w_mid (fun e => e = ([.fz (offD p), .fz (letsD lets), .fz (.int m), .ol ((backL p m lets).map setD).reverse, .dead, .dead, .dead, .dead, .dead, .dead, .dead] : Env)) ?_ ?_
  · simp [peek, peekS, killAll]
    rw [letsD]
    simp only [dRev_lst, oM_some, sM_lst]
    rw [← List.map_reverse]
    refine for_accR (fun done e => e = ([.fz (offD p), .fz (.lst (lets.map fun l => .lst (l.map szD))), .fz (.int m), .ol ((backL p m done.reverse).map setD).reverse, .dead, .dead, .dead, .dead, .dead, .dead, .dead] : Env)) (fun done s rest e ha I => ?_) (fun e I => ?_) rfl
    · subst I
      have hsr : s ∈ lets.reverse := by rw [ha]; simp
      have hsl : s.length ≤ 1000 := hs s (by simpa using hsr)
      have hdl : done.length < lets.length := by
        have := congrArg List.length ha
        simp at this
        omega
      obtain ⟨tl, etl⟩ := backL_hd p m done.reverse
      have hbl : (backL p m done.reverse).length ≤ 1000 := by rw [backL_len]; simp; omega
      refine ⟨_, rfl, ?_⟩
      rw [w_mKill]
      refine w_mid (fun e => e = ([.fz (offD p), .fz (.lst (lets.map fun l => .lst (l.map szD))), .fz (.int m), .ol ((backL p m done.reverse).map setD).reverse, .fz (.lst (s.map szD)), .od false [] [], .dead, .dead, .dead, .dead, .dead] : Env)) (by simp [peek, peekS, killAll]) ?_
      rintro e rfl
      let q : Int → Bool := fun st => s.any fun t => (goalsAt (rowAt p st) t).any fun g => decide (g ∈ backs p m done.reverse)
      refine w_mid (fun e => e = ([.fz (offD p), .fz (.lst (lets.map fun l => .lst (l.map szD))), .fz (.int m), .ol ((backL p m done.reverse).map setD).reverse, .fz (.lst (s.map szD)), .od false (((rg p).filter q).map .int) (((rg p).filter q).map fun _ => .bl true), .dead, .dead, .dead, .dead, .dead] : Env)) ?_ ?_
      · simp [peek, peekS, killAll]
        rw [en_kept p]
        refine for_accR (fun d2 e => e = ([.fz (offD p), .fz (.lst (lets.map fun l => .lst (l.map szD))), .fz (.int m), .ol ((backL p m done.reverse).map setD).reverse, .fz (.lst (s.map szD)), .od false ((d2.filter q).map .int) ((d2.filter q).map fun _ => .bl true), .dead, .dead, .dead, .dead, .dead] : Env)) (fun d2 st rest e hb I => ?_) (fun e I => ⟨rfl, I⟩) rfl
        subst I
        have hst : st ∉ d2.filter q := by
          intro hm
          have nd := rg_nodup p
          rw [hb, List.nodup_append] at nd
          exact nd.2.2 st (List.mem_filter.mp hm).1 st (by simp) rfl
        have hd2 : (d2.filter q).length ≤ 20 := by
          have h1 := List.length_filter_le q d2
          have h2 := congrArg List.length hb
          rw [rg_len] at h2
          simp at h2
          omega
        refine ⟨_, rfl, ?_⟩
        simp [peek, peekS, killAll]
        refine ⟨by omega, comp_all (fun t : S3 => .bl ((goalsAt (rowAt p st) t).any fun g => decide (g ∈ backs p m done.reverse))) (fun t ht => ⟨_, rfl, ?_⟩) ?_⟩
        · obtain ⟨r, e1, e2⟩ := get_keptD t (rowAt p st)
          simp [peek, peekS, killAll, e1, e2]
          refine ⟨?_, comp_all (fun g => .bl (decide (g ∈ backs p m done.reverse))) (fun g hg => ⟨_, rfl, ?_⟩) ?_⟩
          · exact goalsAt_le hp (mem_rg.mp (by rw [hb]; simp)) t
          · rw [etl, List.map_cons, List.reverse_cons]
            simp [peek, peekS, killAll, atI_last, in_dc, setD]
          · rw [fAny_map]
            simp [peek, peekS, killAll]
        · rw [fAny_map]
          simp only [oM_some, bM_bl]
          by_cases hq : q st = true
          · rw [if_pos hq]
            simp [peek, peekS, killAll, put_int, hst]
            refine ⟨by omega, ?_⟩
            simp [hq]
          · rw [if_neg hq]
            simp [peek, peekS, killAll]
            simpa using hq
      rintro e rfl
      simp [peek, peekS, killAll]
      refine ⟨by omega, ?_⟩
      simp [backL, backs, prevS, setD, dcD, q]
    · exact ⟨rfl, by rw [I, List.reverse_reverse]⟩
  rintro e rfl
  simp [peek, peekS, killAll]
theorem can_close_ok {p : Pt} (hp : PtOk p) {lets : List (List S3)} {m : Int} (hl : lets.length ≤ 1000) (hs : ∀ s ∈ lets, s.length ≤ 1000) : r_can_close [offD p, letsD lets, .int m] = .ok (.bl (canB p m lets)) := by
  rw [r_can_close_df]
  refine runP_ok rfl (show wE (m_can_close [.fz (offD p), .fz (letsD lets), .fz (.int m)]) _ from ?_)
  unfold m_can_close
  obtain ⟨tl, etl⟩ := backL_hd p m lets
  simp [peek, peekS, killAll, layers_back_ok hp hl hs, etl]
  simp [setD, in_dc, canB]
/-! ## what may stand -/
def bdM (ms : List Int) (m : Int) : D := .tup [.tup (ms.map .int), .int m]
theorem bdD_bdM (l : List S3) (m : Int) : bdD l m = bdM (l.map fun t => t.2.2) m := by
  unfold bdD bdM
  rw [List.map_map]; rfl
def letAt (p : Pt) (ms : List Int) (c : List Int) (nf : Int → Int × Int) (i : Nat) : List S3 := if (i : Int) ∈ c then [((nf i).1, (nf i).2, ms.getD i 0)] else stepsW p.sz (ms.getD i 0)
def letsM (p : Pt) (ms : List Int) (c : List Int) (nf : Int → Int × Int) : List (List S3) := (List.range ms.length).map (letAt p ms c nf)
theorem letsM_len {p : Pt} {ms c : List Int} {nf : Int → Int × Int} : (letsM p ms c nf).length = ms.length := by simp [letsM]
theorem stepsW_le {s : S3} (h : SzOk s) (m : Int) : (stepsW s m).length ≤ 64 := Nat.le_trans (List.length_filter_le _ _) (allSt_le h)
theorem letsM_le {p : Pt} (hp : PtOk p) {ms c : List Int} {nf : Int → Int × Int} : ∀ s ∈ letsM p ms c nf, s.length ≤ 1000 := by
  intro s hs
  obtain ⟨i, _, rfl⟩ := List.mem_map.mp hs
  unfold letAt
  split
  · simp
  · have := stepsW_le hp.sz (ms.getD i 0); omega
theorem steps_let_ok {p : Pt} (hp : PtOk p) {ms : List Int} (hm : ∀ x ∈ ms, 0 ≤ x ∧ x < p.sz.2.2) (hl : ms.length ≤ 1000) (m : Int) (c : List Int) (nf : Int → Int × Int) :
    r_steps_let [offD p, bdM ms m, dcD c fun i => ntP (nf i)] = .ok (letsD (letsM p ms c nf)) := by
  have a3 := hp.sz.c
  rw [r_steps_let_df]
  refine runP_ok rfl (show wE (m_steps_let [.fz (offD p), .fz (bdM ms m), .fz (dcD c fun i => ntP (nf i)), .dead, .dead, .dead, .dead]) _ from ?_)
  unfold m_steps_let
  refine w_mid (fun e => e = ([.fz (offD p), .fz (bdM ms m), .fz (dcD c fun i => ntP (nf i)), .ol ((upto p.sz.2.2).map fun mk => .lst ((stepsW p.sz mk).map szD)), .dead, .dead, .dead] : Env)) ?_ ?_
  · simp [peek, peekS, killAll]
    rw [rng_upto]
    refine ⟨by omega, by omega, comp_all (fun mk => .lst ((stepsW p.sz mk).map szD)) (fun mk hmk => ⟨_, rfl, ?_⟩) ?_⟩
    · simp [peek, peekS, killAll, steps_with_ok hp]
    · simp
  rintro e rfl
  refine w_mid (fun e => e = ([.fz (offD p), .fz (bdM ms m), .fz (dcD c fun i => ntP (nf i)), .ol ((upto p.sz.2.2).map fun mk => .lst ((stepsW p.sz mk).map szD)), .ol [], .dead, .dead] : Env)) (by simp [peek, peekS, killAll]) ?_
  rintro e rfl
  refine w_mid (fun e => e = ([.fz (offD p), .fz (bdM ms m), .fz (dcD c fun i => ntP (nf i)), .ol ((upto p.sz.2.2).map fun mk => .lst ((stepsW p.sz mk).map szD)), .ol ((letsM p ms c nf).map fun l => .lst (l.map szD)), .dead, .dead] : Env)) ?_ ?_
  · simp [peek, peekS, killAll]
    have e1 : dIx (bdM ms m) (.int 0) = some (.tup (ms.map .int)) := rfl
    rw [e1]
    simp only [oM_some, sM_tup]
    have e2 : enD (ms.map .int) = (List.range ms.length).map fun i : Nat => .tup [.int (i : Int), .int (ms.getD i 0)] := by
      rw [en_eq (fun i => .int (ms.getD i 0)) fun i hi => ?_, List.length_map]
      rw [List.length_map] at hi
      simp [hi]
    rw [e2]
    refine for_app (fun acc => ([.fz (offD p), .fz (bdM ms m), .fz (dcD c fun i => ntP (nf i)), .ol ((upto p.sz.2.2).map fun mk => .lst ((stepsW p.sz mk).map szD)), .ol acc, .dead, .dead] : Env)) (fun i => [.lst ((letAt p ms c nf i).map szD)]) [] 1000 ?_ (fun i hi acc hacc => ⟨_, rfl, ?_⟩) ?_
    · simp [List.length_flatMap, sum_const]; exact hl
    · have hi := List.mem_range.mp hi
      have hmi := hm _ (List.getElem_mem hi)
      have hacc : acc.length + 1 ≤ 1000 := hacc
      rw [w_mKill]
      simp [peek, peekS, killAll, in_dc]
      unfold letAt
      by_cases hc : (i : Int) ∈ c
      · rw [if_pos hc, if_pos hc, ix_dc hc]
        refine ⟨by omega, ?_⟩
        simp [ntP]
        rfl
      · rw [if_neg hc, if_neg hc]
        rw [show ms[i]?.getD 0 = ms[i] by simp [hi], upto_at _ hmi]
        refine ⟨by omega, ?_⟩
        simp [hi]
    · simp [letsM, flatMap_one]
  rintro e rfl
  simp [peek, peekS, killAll]
  rfl
end Mi

set_option Elab.async false
set_option linter.all false
set_option maxRecDepth 100000
set_option maxHeartbeats 2000000
namespace Mi
open PySem PySem.Spec PyProof.Rows L2

/-! ## tales of lots, in plain words -/
abbrev mkO (t : S3) : Int := t.2.2
def noteAt (l : List S3) (i : Int) : Int × Int := (((l[i.toNat]?).getD (0, 0, 0)).1, ((l[i.toNat]?).getD (0, 0, 0)).2.1)
theorem fits_iff : ∀ {l : List S3} {r : List (List S3)}, Fits l r ↔ l.length = r.length ∧ ∀ (i : Nat) (t : S3) (s : List S3), l[i]? = some t → r[i]? = some s → t ∈ s
  | [], [] => by simp [Fits]
  | [], s :: r => by simp [Fits]
  | t :: l, [] => by simp [Fits]
  | t :: l, s :: r => by
    unfold Fits
    rw [fits_iff]
    constructor
    · rintro ⟨h1, h2, h3⟩
      refine ⟨by simp [h2], fun i u v hu hv => ?_⟩
      cases i with
      | zero => cases hu; cases hv; exact h1
      | succ i => exact h3 i u v hu hv
    · rintro ⟨h2, h3⟩
      exact ⟨h3 0 t s rfl rfl, by simpa using h2, fun i u v hu hv => h3 (i + 1) u v hu hv⟩
theorem sameAt_iff {x l : List S3} {c : List Int} : sameAt x l c = true ↔ ∀ i ∈ c, x[i.toNat]? = l[i.toNat]? := by
  unfold sameAt
  rw [List.all_eq_true]
  simp
theorem fits_lets {p : Pt} {l x : List S3} {c : List Int} (hd : StsOk p.sz l) (hc : ∀ i ∈ c, 0 ≤ i ∧ i < l.length) : Fits x (letsM p (l.map mkO) c (noteAt l)) ↔ StsOk p.sz x ∧ x.map mkO = l.map mkO ∧ sameAt x l c = true := by
  rw [fits_iff, letsM_len, List.length_map, sameAt_iff]
  have get : ∀ i (hi : i < l.length), (letsM p (l.map mkO) c (noteAt l))[i]? = some (letAt p (l.map mkO) c (noteAt l) i) := fun i hi => by
    unfold letsM
    simp [hi]
  have one : ∀ i (hi : i < l.length) t, t ∈ letAt p (l.map mkO) c (noteAt l) i ↔ if (i : Int) ∈ c then t = l[i] else (StOk p.sz t ∧ t.2.2 = (l[i]).2.2) := fun i hi t => by
    unfold letAt
    split
    · simp [noteAt, hi, mkO]
    · rw [mem_stepsW]; simp [hi, mkO]
  constructor
  · rintro ⟨h1, h2⟩
    have key : ∀ i (hi : i < l.length) (hx : i < x.length), StOk p.sz x[i] ∧ (x[i]).2.2 = (l[i]).2.2 ∧ ((i : Int) ∈ c → x[i] = l[i]) := fun i hi hx => by
      have q := (one i hi x[i]).mp (h2 i _ _ (List.getElem?_eq_getElem hx) (get i hi))
      split at q
      · rename_i hic
        rw [q]; exact ⟨hd.all _ (List.getElem_mem hi), rfl, fun _ => rfl⟩
      · rename_i hic
        exact ⟨q.1, q.2, fun z => absurd z hic⟩
    refine ⟨⟨fun t ht => ?_⟩, ?_, fun i hi => ?_⟩
    · obtain ⟨i, hi, rfl⟩ := List.getElem_of_mem ht
      exact (key i (by omega) hi).1
    · refine List.ext_getElem (by simp [h1]) fun i hi hi2 => ?_
      simp only [List.length_map] at hi hi2
      rw [List.getElem_map, List.getElem_map]
      exact (key i hi2 hi).2.1
    · have hr := hc i hi
      have h3 : i.toNat < l.length := by omega
      rw [List.getElem?_eq_getElem h3, List.getElem?_eq_getElem (by omega)]
      rw [(key i.toNat h3 (by omega)).2.2 (by rw [show ((i.toNat : Nat) : Int) = i by omega]; exact hi)]
  · rintro ⟨h1, h2, h3⟩
    have hl : x.length = l.length := by simpa using congrArg List.length h2
    refine ⟨hl, fun i t s ht hs => ?_⟩
    have hx : i < x.length := (List.getElem?_eq_some_iff.mp ht).1
    have hi : i < l.length := by omega
    rw [get i hi] at hs
    cases hs
    rw [one i hi]
    obtain ⟨_, rfl⟩ := List.getElem?_eq_some_iff.mp ht
    split
    · rename_i hic
      have := h3 (i : Int) hic
      simp [hi, hx] at this
      exact this
    · refine ⟨h1.all _ (List.getElem_mem hx), ?_⟩
      have := congrArg (fun z => z[i]?) h2
      simp [hi, hx] at this
      exact this
/-- whether a lot has a tale -/
def hasT (p : Pt) (l : List S3) (m : Int) (c : List Int) : Bool := canB p m (letsM p (l.map mkO) c (noteAt l))
theorem hasT_iff {p : Pt} (hp : PtOk p) {l : List S3} {m : Int} {c : List Int} (hd : StsOk p.sz l) (hc : ∀ i ∈ c, 0 ≤ i ∧ i < l.length) :
    hasT p l m c = true ↔ ∃ x, StsOk p.sz x ∧ x.map mkO = l.map mkO ∧ sameAt x l c = true ∧ trueP p x m = true := by
  unfold hasT
  rw [canB_iff hp]
  constructor
  · rintro ⟨x, h1, h2⟩
    obtain ⟨a, b, d⟩ := (fits_lets hd hc).mp h1
    exact ⟨x, a, b, d, h2⟩
  · rintro ⟨x, a, b, d, h2⟩
    exact ⟨x, (fits_lets hd hc).mpr ⟨a, b, d⟩, h2⟩
def talesB (p : Pt) (l : List S3) (m : Int) (c : List Int) : List (List S3) := (everyB p (l.map mkO) m).filter fun x => sameAt x l c
theorem mem_talesB {p : Pt} (hp : PtOk p) {l x : List S3} {m : Int} {c : List Int} : x ∈ talesB p l m c ↔ StsOk p.sz x ∧ x.map mkO = l.map mkO ∧ trueP p x m = true ∧ sameAt x l c = true := by
  unfold talesB
  rw [List.mem_filter, mem_everyB hp]
  constructor
  · rintro ⟨⟨a, b, c⟩, d⟩; exact ⟨a, b, c, d⟩
  · rintro ⟨a, b, c, d⟩; exact ⟨⟨a, b, c⟩, d⟩
theorem hasT_tales {p : Pt} (hp : PtOk p) {l : List S3} {m : Int} {c : List Int} (hd : StsOk p.sz l) (hc : ∀ i ∈ c, 0 ≤ i ∧ i < l.length) : hasT p l m c = decide (0 < (talesB p l m c).length) := by
  rw [Bool.eq_iff_iff, hasT_iff hp hd hc, decide_eq_true_eq, List.length_pos_iff_exists_mem]
  constructor
  · rintro ⟨x, a, b, d, e⟩; exact ⟨x, (mem_talesB hp).mpr ⟨a, b, e, d⟩⟩
  · rintro ⟨x, h⟩
    obtain ⟨a, b, e, d⟩ := (mem_talesB hp).mp h
    exact ⟨x, a, b, d, e⟩
/-! ## the program's tales -/
theorem fixed_by_ok {l : List S3} {m : Int} {c : List Int} (hc : ClOk l.length c) (hl : l.length ≤ 1000) : r_fixed_by [dayD l m, clD c] = .ok (dcD c fun i => ntP (noteAt l i)) := by
  have hcl := hc.len (by omega)
  rw [r_fixed_by_df]
  refine runP_ok rfl (show wE (m_fixed_by [.fz (dayD l m), .fz (clD c), .dead]) _ from ?_)
  unfold m_fixed_by
  rw [clD]
  simp [peek, peekS, killAll]
  have nd : (c.map id).Nodup := by rw [List.map_id]; exact asc_nodup hc.asc
  refine dc_map (fun _ => true) id (fun i => ntP (noteAt l i)) (fun i hi => ⟨_, rfl, ?_⟩) nd (by omega) ?_
  · obtain ⟨t, h1, h2⟩ := at_steps (l := l) (i := i) (by have := hc.rng i hi; omega)
    simp [peek, peekS, killAll, h2]
    simp [noteAt, h1, ntD, ntP]
  · simp [dcD]
theorem has_tale_ok {p : Pt} (hp : PtOk p) {l : List S3} {m : Int} {c : List Int} (hl : l.length ≤ 1000) (hd : DayOk p.sz l m) (hc : ClOk l.length c) : r_has_tale [offD p, dayD l m, clD c] = .ok (.bl (hasT p l m c)) := by
  have hm : ∀ x ∈ l.map mkO, 0 ≤ x ∧ x < p.sz.2.2 := fun x hx => by
    obtain ⟨t, ht, rfl⟩ := List.mem_map.mp hx
    exact (hd.st.all t ht).c
  rw [r_has_tale_df]
  refine runP_ok rfl (show wE (m_has_tale [.fz (offD p), .fz (dayD l m), .fz (clD c)]) _ from ?_)
  unfold m_has_tale
  have e1 := steps_let_ok hp hm (by simpa using hl) m c (noteAt l)
  have e2 := can_close_ok hp (lets := letsM p (l.map mkO) c (noteAt l)) (m := m) (by rw [letsM_len]; simpa using hl) (letsM_le hp)
  simp [peek, peekS, killAll, board_of_ok (show l.length ≤ 1000000 by omega), fixed_by_ok hc hl, bdD_bdM]
  rw [e1]
  simp only [prM_ok]
  rw [e2]
  rfl
/-! ## the law's own -/
theorem law_steps_eq {p : Pt} (hp : PtOk p) : r__law_steps_of [ptD p] = .ok (.lst ((allSt p.sz).map szD)) := by
  have a1 := hp.sz.a
  have a2 := hp.sz.b
  have a3 := hp.sz.c
  have hall := allSt_le hp.sz
  rw [r__law_steps_of_df]
  refine runP_ok rfl (show wE (m__law_steps_of [.fz (ptD p), .dead, .dead, .dead, .dead, .dead, .dead, .dead]) _ from ?_)
  unfold m__law_steps_of
  refine w_mid (fun e => e = ([.fz (ptD p), .fz (.int p.sz.1), .fz (.int p.sz.2.1), .fz (.int p.sz.2.2), .dead, .dead, .dead, .dead] : Env)) (by simp [peek, peekS, killAll]) ?_
  rintro e rfl
  refine w_mid (fun e => e = ([.fz (ptD p), .fz (.int p.sz.1), .fz (.int p.sz.2.1), .fz (.int p.sz.2.2), .fz (.lst []), .dead, .dead, .dead] : Env)) (by simp [peek, peekS, killAll]) ?_
  rintro e rfl
  let f2 : Int → Int → List S3 := fun a b => (upto p.sz.2.2).map fun c => (a, b, c)
  let f1 : Int → List S3 := fun a => (upto p.sz.2.1).flatMap (f2 a)
  have l2 : ∀ a b, (f2 a b).length ≤ 4 := fun a b => by show ((upto p.sz.2.2).map _).length ≤ 4; rw [List.length_map, upto_len]; omega
  refine w_mid (fun e => e = ([.fz (ptD p), .fz (.int p.sz.1), .fz (.int p.sz.2.1), .fz (.int p.sz.2.2), .fz (.lst ((allSt p.sz).map szD)), .dead, .dead, .dead] : Env)) ?_ (by rintro e rfl; simp [peek, peekS, killAll])
  simp [peek, peekS, killAll]
  rw [rng_upto]
  refine ⟨by omega, for_accR (fun done e => e = ([.fz (ptD p), .fz (.int p.sz.1), .fz (.int p.sz.2.1), .fz (.int p.sz.2.2), .fz (.lst ((done.flatMap f1).map szD)), .dead, .dead, .dead] : Env)) (fun done a rest e ha I => ?_) (fun e I => ⟨rfl, by rw [I]; rfl⟩) rfl⟩
  subst I
  refine ⟨_, rfl, ?_⟩
  simp [peek, peekS, killAll]
  rw [rng_upto]
  refine ⟨by omega, for_accR (fun d2 e => e = ([.fz (ptD p), .fz (.int p.sz.1), .fz (.int p.sz.2.1), .fz (.int p.sz.2.2), .fz (.lst ((done.flatMap f1 ++ d2.flatMap (f2 a)).map szD)), .fz (.int a), .dead, .dead] : Env)) (fun d2 b rest2 e hb I => ?_) (fun e I => ?_) (by simp)⟩
  · subst I
    have hlen : (done.flatMap f1 ++ d2.flatMap (f2 a) ++ f2 a b).length ≤ 64 := by
      refine Nat.le_trans ?_ hall
      have e1 : allSt p.sz = (done ++ a :: rest).flatMap f1 := by rw [← ha]; rfl
      have e2 : f1 a = (d2 ++ b :: rest2).flatMap (f2 a) := by rw [← hb]
      rw [e1, List.flatMap_append, List.flatMap_cons, e2, List.flatMap_append, List.flatMap_cons]
      simp only [List.length_append]
      omega
    refine ⟨_, rfl, ?_⟩
    simp [peek, peekS, killAll]
    rw [rng_upto]
    refine ⟨by omega, by omega, comp_all (fun c => szD (a, b, c)) (fun c hc => ⟨_, rfl, ?_⟩) ?_⟩
    · simp [peek, peekS, killAll]
      rfl
    · simp [peek, peekS, killAll]
      rw [dAdd_lst (by
        simp only [List.length_append, List.length_map] at hlen ⊢
        have := l2 a b
        show _ ≤ 1000000
        have h3 : (f2 a b).length = (upto p.sz.2.2).length := by simp [f2]
        omega)]
      simp [f2, Function.comp_def]
  · subst I
    simp [peek, peekS, killAll]
    rfl
end Mi

set_option Elab.async false
set_option linter.all false
set_option maxRecDepth 100000
set_option maxHeartbeats 2000000
namespace Mi
open PySem PySem.Spec PyProof.Rows L2

def obM (d : D) (k : Str → List Str → Prop) : Prop := match d with
  | .obj c ns _ => k c ns
  | _ => False
@[simp] theorem obM_obj (c : Str) (ns : List Str) (ws : List D) (k : Str → List Str → Prop) : obM (.obj c ns ws) k = k c ns := rfl
@[simp] theorem w_mMth {cn mt : Str} {f : PF} {a : ME} {b : MA} {env : Env} {Q : D → Env → Prop} : wE (mMth cn mt f a b env) Q = wE (a env) fun d e1 => obM d fun c ns => (c = cn ∧ mt ∉ ns) ∧ wE (b e1) fun ds e2 => prM (f (d :: ds)) fun z => Q z e2 := by
  unfold mMth
  rw [w_bind]
  congr 1; funext d e1
  cases d with
  | obj c ns ws =>
    simp only [obM_obj]
    by_cases h : c = cn ∧ mt ∉ ns
    · rw [if_pos h, w_bind]
      simp only [h, not_false_eq_true, and_self, true_and]
      congr 1; funext ds e2
      rw [w_at]
      cases f (.obj c ns ws :: ds) <;> rfl
    · rw [if_neg h]; simp only [w_bad, h, false_and]
  | _ => simp [obM]
@[simp] theorem w_mMtB {f : D → D → Option D} {a b : Opd} {env : Env} {Q : D → Env → Prop} : wE (mMt f a b env) Q = oW a env fun x e1 => oM (a.get x e1) fun d => lM d fun _ => oW b e1 fun y e2 => oM (a.get x e2) fun dx => oM (b.get y e2) fun dy => oM (f dx dy) fun z => Q z e2 := by
  unfold mMt oW
  rw [w_bind]
  congr 1; funext x e1
  simp only []
  cases a.get x e1 with
  | none => simp
  | some d =>
    cases d with
    | lst ds =>
      simp only [oM_some, lM_lst]
      rw [w_bind]
      congr 1; funext y e2
      simp only []
      cases a.get x e2 with
      | none => simp
      | some dx =>
        cases b.get y e2 with
        | none => simp
        | some dy =>
          simp only [oM_some]
          cases f dx dy <;> simp
    | _ => simp [lM]
/-! ## dicts by steps -/
theorem tkeys_sz : ∀ l : List S3, tkeysOf (l.map szD) = some (l.map kK)
  | [] => rfl
  | t :: l => by
    rw [List.map_cons]
    show (match tkeyOf (szD t), tkeysOf (l.map szD) with | some k, some r => some (k :: r) | _, _ => none) = _
    rw [tkeys_sz l]; rfl
theorem hasK_S3 (l : List S3) (t : S3) : hasK (l.map kK) (kK t) = decide (t ∈ l) := by
  induction l with
  | nil => rfl
  | cons a r ih =>
    rw [List.map_cons]
    unfold hasK at ih ⊢
    rw [List.any_cons, ih]
    by_cases h : a = t
    · subst h; simp
    · have : kK a ≠ kK t := fun z => h (kK_inj z)
      have h2 : t ≠ a := fun z => h z.symm
      simp [this, h2]
theorem put_S3 (l : List S3) (ws : List D) (t : S3) (d : D) (h : t ∉ l) : dicPut true (l.map szD) ws (szD t) d = some ((l ++ [t]).map szD, ws ++ [d]) := by
  unfold dicPut
  simp only [tkeys_sz, show tkeyOf (szD t) = some (kK t) from rfl, hasK_S3]
  rw [if_neg (by simpa using h), List.map_append]; rfl
theorem get_S3 (v : Nat → D) (t : S3) : ∀ (l : List S3) (n : Nat), t ∈ l → findK (l.map kK) ((List.range' n l.length).map v) (kK t) = some (v (n + l.idxOf t))
  | [], n, h => by simp at h
  | a :: r, n, h => by
    rw [List.map_cons, List.length_cons, List.range'_succ, List.map_cons]
    unfold findK
    by_cases q : a = t
    · subst q
      rw [if_pos rfl, List.idxOf_cons_self]; rfl
    · rw [if_neg fun z => q (kK_inj z)]
      have hr : t ∈ r := by
        rcases List.mem_cons.mp h with z | z
        · exact absurd z.symm q
        · exact z
      rw [get_S3 v t r (n + 1) hr, List.idxOf_cons, show (a == t) = false by simpa using q]
      show some (v (n + 1 + r.idxOf t)) = some (v (n + (r.idxOf t + 1)))
      congr 2; omega
def numD (l : List S3) : D := .dic true (l.map szD) ((List.range l.length).map fun i : Nat => .int (i : Int))
theorem ix_numD {l : List S3} {t : S3} (h : t ∈ l) : dIx (numD l) (szD t) = some (.int (l.idxOf t : Int)) := by
  unfold numD dIx
  have : dicGet true (l.map szD) ((List.range l.length).map fun i : Nat => .int (i : Int)) (szD t) = some (some (.int (l.idxOf t : Int))) := by
    unfold dicGet
    simp only [tkeys_sz, show tkeyOf (szD t) = some (kK t) from rfl]
    rw [List.range_eq_range', get_S3 (fun i : Nat => .int (i : Int)) t l 0 h]
    simp
  simp [this]
theorem dcT_num {vs : List Nat} {b : Bd} {t : MT} {mk mv : ME} {Q : List D × List D → Env → Prop} {env : Env} {l : List S3}
    (h : ∀ i : Nat, i < l.length → ∃ e1, b (.tup [.int (i : Int), szD (l.getD i (0, 0, 0))]) env = some e1 ∧ wE (t e1) fun c e2 => c = true ∧ wE (mk e2) fun x e3 => x = szD (l.getD i (0, 0, 0)) ∧ wE (mv e3) fun y e4 => y = .int (i : Int) ∧ killAll vs e4 = env)
    (nd : l.Nodup) (hl : l.length ≤ 1000) (hq : Q (l.map szD, (List.range l.length).map fun i : Nat => .int (i : Int)) env) :
    wE (dcGoT vs b t mk mv ((List.range l.length).map fun i : Nat => .tup [.int (i : Int), szD (l.getD i (0, 0, 0))]) [] [] env) Q := by
  have key : ∀ (k n : Nat), n + k = l.length → wE (dcGoT vs b t mk mv ((List.range' n k).map fun i : Nat => .tup [.int (i : Int), szD (l.getD i (0, 0, 0))]) ((l.take n).map szD) ((List.range n).map fun i : Nat => .int (i : Int)) env) fun z e => z = (l.map szD, (List.range l.length).map fun i : Nat => .int (i : Int)) ∧ e = env := by
    intro k
    induction k with
    | zero =>
      intro n hn
      have hn : n = l.length := by omega
      subst hn
      rw [List.take_length]
      exact ⟨rfl, rfl⟩
    | succ k ih =>
      intro n hn
      have hlt : n < l.length := by omega
      obtain ⟨e1, h1, h2⟩ := h n hlt
      rw [List.range'_succ, List.map_cons]
      unfold dcGoT
      simp only [h1]
      obtain ⟨c, e2, h3, rfl, h4⟩ := wE_eq h2
      rw [h3]
      simp only [noX_ok, Rs.bind_ok, if_true]
      obtain ⟨x, e3, h5, rfl, h6⟩ := wE_eq h4
      rw [h5]
      simp only [noX_ok, Rs.bind_ok]
      obtain ⟨y, e4, h7, rfl, h8⟩ := wE_eq h6
      rw [h7]
      simp only [noX_ok, Rs.bind_ok]
      have hfl : ((List.range n).map fun i : Nat => D.int (i : Int)).length < lim := by
        simp
        show n < 1000000
        omega
      have hg : l.getD n (0, 0, 0) = l[n] := by simp [hlt]
      have hni : l[n] ∉ l.take n := by
        intro hm
        obtain ⟨j, hj, e⟩ := List.getElem_of_mem hm
        rw [List.length_take] at hj
        rw [List.getElem_take] at e
        have := (List.getElem_inj nd).mp e
        omega
      rw [if_pos hfl, hg, put_S3 _ _ _ _ hni]
      simp only [h8]
      have := ih (n + 1) (by omega)
      rw [List.take_succ_eq_append_getElem hlt, List.range_succ, List.map_append (l₁ := List.range n)] at this
      exact this
  have := key l.length 0 (by omega)
  rw [← List.range_eq_range'] at this
  refine this.imp fun z e hz => ?_
  obtain ⟨rfl, rfl⟩ := hz
  exact hq
theorem upto_nodup (n : Int) : (upto n).Nodup := asc_nodup (upto_asc n)
theorem allSt_nodup (s : S3) : (allSt s).Nodup := by
  unfold allSt
  unfold List.Nodup
  rw [List.pairwise_flatMap]
  refine ⟨fun a _ => ?_, (upto_nodup s.1).imp fun {a b} hab => ?_⟩
  · rw [List.pairwise_flatMap]
    refine ⟨fun b _ => ?_, (upto_nodup s.2.1).imp fun {b c} hbc => ?_⟩
    · rw [List.pairwise_map]
      exact (upto_nodup s.2.2).imp fun {c d} hcd z => hcd (by injection z with _ z; injection z)
    · intro x hx y hy z
      obtain ⟨c1, _, rfl⟩ := List.mem_map.mp hx
      obtain ⟨d1, _, rfl⟩ := List.mem_map.mp hy
      injection z with _ z
      injection z with z _
      exact hbc z
  · intro x hx y hy z
    obtain ⟨b1, _, hx⟩ := List.mem_flatMap.mp hx
    obtain ⟨c1, _, rfl⟩ := List.mem_map.mp hx
    obtain ⟨b2, _, hy⟩ := List.mem_flatMap.mp hy
    obtain ⟨c2, _, rfl⟩ := List.mem_map.mp hy
    injection z with z _
    exact hab z
/-! ## facts -/
structure Fa where
  rows : List (List Int)
  ys : List Int
def faD (f : Fa) : D := .tup [.tup (f.rows.map clD), clD f.ys]
structure FaOk (s : S3) (f : Fa) : Prop where
  n : 1 ≤ f.rows.length ∧ f.rows.length ≤ 10
  row : ∀ r ∈ f.rows, r.length = (allSt s).length ∧ ∀ x ∈ r, 0 ≤ x ∧ x < f.rows.length
  ys : ClOk f.rows.length f.ys
def nx (s : S3) (f : Fa) (st : Int) (t : S3) : Int := ((f.rows[st.toNat]?).getD []).getD ((allSt s).idxOf t) 0
def endS (s : S3) (f : Fa) (l : List S3) : Int := l.foldl (nx s f) 0
def holdP (s : S3) (f : Fa) (l : List S3) : Bool := decide (endS s f l ∈ f.ys)
theorem idx_lt {s t : S3} (h : StOk s t) : (allSt s).idxOf t < (allSt s).length := List.idxOf_lt_length_iff.mpr (mem_allSt.mpr h)
theorem nx_ok {s : S3} {f : Fa} (hf : FaOk s f) {st : Int} (hs : 0 ≤ st ∧ st < f.rows.length) {t : S3} (ht : StOk s t) : 0 ≤ nx s f st t ∧ nx s f st t < f.rows.length := by
  have hi : st.toNat < f.rows.length := by omega
  have hr := hf.row _ (List.getElem_mem hi)
  have hj := idx_lt ht
  unfold nx
  rw [List.getElem?_eq_getElem hi, Option.getD_some]
  have hj2 : (allSt s).idxOf t < f.rows[st.toNat].length := by omega
  rw [List.getD_eq_getElem?_getD, List.getElem?_eq_getElem hj2, Option.getD_some]
  exact hr.2 _ (List.getElem_mem hj2)
theorem nx_at {s : S3} {f : Fa} (hf : FaOk s f) {st : Int} (hs : 0 ≤ st ∧ st < f.rows.length) {t : S3} (ht : StOk s t) : ∃ c : List Int, atI (f.rows.map clD) st = some (clD c) ∧ atI (c.map D.int) ((allSt s).idxOf t : Int) = some (.int (nx s f st t)) := by
  have hi : st.toNat < f.rows.length := by omega
  have hr := hf.row _ (List.getElem_mem hi)
  have hj := idx_lt ht
  have hj2 : (allSt s).idxOf t < f.rows[st.toNat].length := by omega
  refine ⟨f.rows[st.toNat], ?_, ?_⟩
  · rw [atI_of st.toNat (by omega), List.getElem?_map, List.getElem?_eq_getElem hi]; rfl
  · rw [atI_of ((allSt s).idxOf t) rfl, List.getElem?_map, List.getElem?_eq_getElem hj2]
    unfold nx
    rw [List.getElem?_eq_getElem hi, Option.getD_some, List.getD_eq_getElem?_getD, List.getElem?_eq_getElem hj2]; rfl
theorem are_states_ok {c : List Int} {n : Int} (hl : c.length ≤ 1000) (h : ∀ x ∈ c, 0 ≤ x ∧ x < n) : r_are_states [clD c, .int n] = .ok (.bl true) := by
  have t1 : fIsTy [clD c, .ty "tuple"] = some (.bl true) := rfl
  rw [r_are_states_df]
  refine runP_ok rfl (show wE (m_are_states [.fz (clD c), .fz (.int n), .dead]) _ from ?_)
  unfold m_are_states
  simp [peek, peekS, killAll, t1]
  have e : (fun d : D => sM (clD c)) = fun _ => sM (.tup (c.map .int)) := rfl
  rw [show clD c = .tup (c.map .int) from rfl]
  simp only [sM_tup]
  refine ⟨by simp; omega, comp_all (fun x : Int => .bl (decide (0 ≤ x) && decide (x ≤ n - 1))) (fun x hx => ⟨_, rfl, ?_⟩) ?_⟩
  · simp [peek, peekS, killAll, r_is_within_eq (show okD (.int x) = true from rfl), inD]
  · rw [fAll_map]
    simp
    intro x hx
    have := h x hx
    omega
theorem okD_clD (c : List Int) (hl : c.length ≤ 1000000) : okD (clD c) = true := by
  have : okL (c.map .int) = true := by
    clear hl
    induction c with
    | nil => rfl
    | cons a r ih => simp [okL, okD, ih]
  unfold clD
  simp [okD, this]
  omega
theorem is_fact_ok {p : Pt} (hp : PtOk p) {f : Fa} (hf : FaOk p.sz f) : r_is_fact [offD p, faD f] = .ok (.bl true) := by
  have hal := allSt_le hp.sz
  have hn := hf.n
  have hyl := hf.ys.len (by omega)
  have pr : r_is_pair [faD f] = .ok (.bl true) := by
    have okr : okL (f.rows.map clD) = true := by
      have : ∀ rs : List (List Int), (∀ r ∈ rs, r.length ≤ 1000000) → okL (rs.map clD) = true := by
        intro rs
        induction rs with
        | nil => intro _; rfl
        | cons a r ih =>
          intro h
          simp [okL, okD_clD a (h a (by simp)), ih fun x hx => h x (by simp [hx])]
      exact this _ fun r hr => by have := (hf.row r hr).1; omega
    rw [r_is_pair_eq]
    · rfl
    · unfold faD
      have := okD_clD f.ys (by omega)
      simp [okD, okL, okr, this]
      omega
  have i0 : dIx (faD f) (.int 0) = some (.tup (f.rows.map clD)) := rfl
  have i1 : dIx (faD f) (.int 1) = some (clD f.ys) := rfl
  have tt : ∀ ds, fIsTy [.tup ds, .ty "tuple"] = some (.bl true) := fun _ => rfl
  rw [r_is_fact_df]
  refine runP_ok rfl (show wE (m_is_fact [.fz (offD p), .fz (faD f), .dead, .dead, .dead]) _ from ?_)
  unfold m_is_fact
  refine w_mid (fun e => e = ([.fz (offD p), .fz (faD f), .dead, .dead, .dead] : Env)) ?_ ?_
  · simp [peek, peekS, killAll, pr, i0, tt]
    omega
  rintro e rfl
  refine w_mid (fun e => e = ([.fz (offD p), .fz (faD f), .fz (.int (f.rows.length : Int)), .dead, .dead] : Env)) (by simp [peek, peekS, killAll, i0]) ?_
  rintro e rfl
  refine w_mid (fun e => e = ([.fz (offD p), .fz (faD f), .fz (.int (f.rows.length : Int)), .fz (.int ((allSt p.sz).length : Int)), .dead] : Env)) (by simp [peek, peekS, killAll, all_steps_ok hp]) ?_
  rintro e rfl
  refine w_mid (fun e => e = ([.fz (offD p), .fz (faD f), .fz (.int (f.rows.length : Int)), .fz (.int ((allSt p.sz).length : Int)), .dead] : Env)) ?_ ?_
  · simp [peek, peekS, killAll, i0]
    refine ⟨by omega, comp_all (fun _ : List Int => .bl true) (fun r hr => ⟨_, rfl, ?_⟩) ?_⟩
    · have h1 := hf.row r hr
      have h2 := are_states_ok (n := f.rows.length) (by omega : r.length ≤ 1000) h1.2
      have h3 : fLen [clD r] = some (.int (r.length : Int)) := by
        unfold clD
        simp [fLen]
      simp [peek, peekS, killAll, h2, h3, h1.1]
    · rw [fAll_map (fun _ => true)]
      simp [peek, peekS, killAll]
  rintro e rfl
  have h4 := are_states_ok (n := f.rows.length) hyl hf.ys.rng
  simp [peek, peekS, killAll, i1, h4, asc_cl hyl hf.ys]
theorem check_fact_ok {p : Pt} (hp : PtOk p) {f : Fa} (hf : FaOk p.sz f) : r_check_fact [offD p, faD f] = .ok .non := by
  rw [r_check_fact_df]
  refine runP_non rfl (show wE (m_check_fact [.fz (offD p), .fz (faD f)]) _ from ?_)
  unfold m_check_fact
  simp [peek, peekS, killAll, is_fact_ok hp hf]
def wD (s : S3) (f : Fa) : D := .obj "Watcher" ["numbers", "fact_moves", "fact_yes"] [numD (allSt s), .tup (f.rows.map clD), clD f.ys]
theorem goS_cons {f : Str} {m : ME} {r : List (Str × ME)} {acc : List D} {env : Env} {d : D} {e1 : Env} (h : m env = .ok (d, e1)) (ho : (e1.all fun s => !s.owned) = true) : goS ((f, m) :: r) acc env = goS r (acc ++ [d]) e1 := by
  show (match m env with | .ok (d, e1) => if (e1.all fun s => !s.owned) = true then goS r (acc ++ [d]) e1 else .bad | .exc x _ => .exc x | .bad => .bad) = _
  rw [h]
  simp only [if_pos ho]
theorem eq_of_wE {m : ME} {env : Env} {d : D} {e1 : Env} (h : wE (m env) fun x e => x = d ∧ e = e1) : m env = .ok (d, e1) := by
  obtain ⟨x, e, h3, rfl, rfl⟩ := wE_eq h
  exact h3
theorem watcher_ok {p : Pt} (hp : PtOk p) {f : Fa} (hf : FaOk p.sz f) : i_Watcher [offD p, faD f] = .ok [numD (allSt p.sz), .tup (f.rows.map clD), clD f.ys] := by
  have hal := allSt_le hp.sz
  have i0 : dIx (faD f) (.int 0) = some (.tup (f.rows.map clD)) := rfl
  have i1 : dIx (faD f) (.int 1) = some (clD f.ys) := rfl
  have env0 : envC 5 [offD p, faD f] = [.dead, .fz (offD p), .fz (faD f), .dead, .dead] := rfl
  have en : enD ((allSt p.sz).map szD) = (List.range (allSt p.sz).length).map fun i : Nat => .tup [.int (i : Int), szD ((allSt p.sz).getD i (0, 0, 0))] := by
    rw [en_eq (fun i => szD ((allSt p.sz).getD i (0, 0, 0))) fun i hi => ?_, List.length_map]
    rw [List.length_map] at hi
    simp [hi]
  unfold i_Watcher fInitS
  rw [if_neg (by simp), env0]
  rw [goS_cons (d := numD (allSt p.sz)) (e1 := [.dead, .fz (offD p), .fz (faD f), .dead, .dead]) (eq_of_wE ?_) rfl]
  · rw [goS_cons (d := .tup (f.rows.map clD)) (e1 := [.dead, .fz (offD p), .fz (faD f), .dead, .dead]) (eq_of_wE (by simp [peek, peekS, i0])) rfl]
    rw [goS_cons (d := clD f.ys) (e1 := [.dead, .fz (offD p), .fz (faD f), .dead, .dead]) (eq_of_wE (by simp [peek, peekS, i1])) rfl]
    rfl
  · unfold mDcT
    rw [w_bind]
    simp [peek, peekS, killAll, all_steps_ok hp]
    rw [en, w_bind]
    refine dcT_num (fun i hi => ⟨_, rfl, ?_⟩) (allSt_nodup p.sz) (by omega) ?_
    · simp [peek, peekS, killAll]
    · simp [numD]
theorem goes_ok {s : S3} {f : Fa} (hf : FaOk s f) {st : Int} (hs : 0 ≤ st ∧ st < f.rows.length) {t : S3} (ht : StOk s t) : r_Watcher_goes [wD s f, .int st, szD t] = .ok (.int (nx s f st t)) := by
  obtain ⟨c, h1, h2⟩ := nx_at hf hs ht
  have f1 : dFld ["Watcher"] "fact_moves" (wD s f) = some (.tup (f.rows.map clD)) := rfl
  have f2 : dFld ["Watcher"] "numbers" (wD s f) = some (numD (allSt s)) := rfl
  have i1 : dIx (.tup (f.rows.map clD)) (.int st) = atI (f.rows.map clD) st := rfl
  have i2 : dIx (clD c) (.int ((allSt s).idxOf t : Int)) = atI (c.map .int) ((allSt s).idxOf t : Int) := rfl
  rw [r_Watcher_goes_df]
  refine runP_ok rfl (show wE (m_Watcher_goes [.fz (wD s f), .fz (.int st), .fz (szD t)]) _ from ?_)
  unfold m_Watcher_goes
  simp [peek, peekS, killAll, f1, f2, i1, h1, ix_numD (mem_allSt.mpr ht), i2, h2]
theorem ends_ok {s : S3} {f : Fa} (hf : FaOk s f) {l : List S3} (hl : ∀ t ∈ l, StOk s t) : r_Watcher_ends [wD s f, .tup (l.map szD)] = .ok (.int (endS s f l)) := by
  have hn := hf.n
  rw [r_Watcher_ends_df]
  refine runP_ok rfl (show wE (m_Watcher_ends [.fz (wD s f), .fz (.tup (l.map szD)), .dead, .dead]) _ from ?_)
  unfold m_Watcher_ends
  refine w_mid (fun e => e = ([.fz (wD s f), .fz (.tup (l.map szD)), .fz (.int 0), .dead] : Env)) (by simp [peek, peekS, killAll]) ?_
  rintro e rfl
  refine w_mid (fun e => e = ([.fz (wD s f), .fz (.tup (l.map szD)), .fz (.int (endS s f l)), .dead] : Env)) ?_ (by rintro e rfl; simp [peek, peekS, killAll])
  simp [peek, peekS, killAll]
  have key : ∀ d : List S3, (∀ t ∈ d, StOk s t) → 0 ≤ endS s f d ∧ endS s f d < f.rows.length := fun d => by
    refine snoc_ind (P := fun d => (∀ t ∈ d, StOk s t) → 0 ≤ endS s f d ∧ endS s f d < f.rows.length) (fun _ => ⟨by simp [endS], by simp [endS]; omega⟩) (fun d t ih h => ?_) d
    unfold endS at ih ⊢
    rw [List.foldl_append]
    exact nx_ok hf (ih fun u hu => h u (by simp [hu])) (h t (by simp))
  refine for_accR (fun done e => e = ([.fz (wD s f), .fz (.tup (l.map szD)), .fz (.int (endS s f done)), .dead] : Env)) (fun done t rest e ha I => ?_) (fun e I => ⟨rfl, I⟩) rfl
  subst I
  have hd := key done fun u hu => hl u (by rw [ha]; simp [hu])
  refine ⟨_, rfl, ?_⟩
  rw [w_mKill]
  have hg := goes_ok hf hd (hl t (by rw [ha]; simp))
  have e1 : endS s f (done ++ [t]) = nx s f (endS s f done) t := by
    unfold endS
    rw [List.foldl_append]; rfl
  have ow : ∀ k, obM (wD s f) k = k "Watcher" ["numbers", "fact_moves", "fact_yes"] := fun _ => rfl
  simp [peek, peekS, killAll, ow, hg, e1]
  decide
end Mi

set_option Elab.async false
set_option linter.all false
set_option maxRecDepth 100000
set_option maxHeartbeats 2000000
namespace Mi
open PySem PySem.Spec PyProof.Rows L2

theorem holds_ok {p : Pt} (hp : PtOk p) {f : Fa} (hf : FaOk p.sz f) {l : List S3} {m : Int} (hl : l.length ≤ 1000) (hd : DayOk p.sz l m) : r_holds [offD p, faD f, dayD l m] = .ok (.bl (holdP p.sz f l)) := by
  have ow : ∀ k, obM (wD p.sz f) k = k "Watcher" ["numbers", "fact_moves", "fact_yes"] := fun _ => rfl
  have tl : ∀ st : Int, r_Watcher_tells [wD p.sz f, .int st] = .ok (.bl (decide (st ∈ f.ys))) := fun st => by
    have f1 : dFld ["Watcher"] "fact_yes" (wD p.sz f) = some (clD f.ys) := rfl
    rw [r_Watcher_tells_df]
    refine runP_ok rfl (show wE (m_Watcher_tells [.fz (wD p.sz f), .fz (.int st)]) _ from ?_)
    unfold m_Watcher_tells
    simp [peek, peekS, killAll, f1, in_cl]
  have he := ends_ok hf hd.st.all
  rw [r_holds_df]
  refine runP_ok rfl (show wE (m_holds [.fz (offD p), .fz (faD f), .fz (dayD l m), .dead]) _ from ?_)
  unfold m_holds
  refine w_mid (fun e => e = ([.fz (offD p), .fz (faD f), .fz (dayD l m), .dead] : Env)) (by simp [peek, peekS, killAll, check_fact_ok hp hf]) ?_
  rintro e rfl
  refine w_mid (fun e => e = ([.fz (offD p), .fz (faD f), .fz (dayD l m), .dead] : Env)) (by simp [peek, peekS, killAll, check_day_ok p (show l.length ≤ 1000000 by omega) hd]) ?_
  rintro e rfl
  refine w_mid (fun e => e = ([.fz (offD p), .fz (faD f), .fz (dayD l m), .fz (wD p.sz f)] : Env)) ?_ ?_
  · simp [peek, peekS, killAll, watcher_ok hp hf]
    rfl
  rintro e rfl
  simp [peek, peekS, killAll, ow, he, tl]
  exact ⟨by decide, by decide, rfl⟩
/-! ## the law's own -/
theorem idxD_steps {s t : S3} (h : StOk s t) : dIdxD (.lst ((allSt s).map szD)) (szD t) = some (.int ((allSt s).idxOf t : Int)) := by
  have e : ((allSt s).map szD).findIdx (fun z => eqD z (szD t)) = (allSt s).idxOf t := by
    generalize allSt s = l
    induction l with
    | nil => rfl
    | cons a r ih =>
      rw [List.map_cons, List.findIdx_cons, eqD_sz]
      by_cases q : a = t
      · subst q
        rw [List.idxOf_cons_self]; simp
      · rw [List.idxOf_cons, ih, show (a == t) = false by simpa using q]; simp [q]
  have l1 : lvl 60 (.lst ((allSt s).map szD)) = true := lvl_mono 3 60 _ (by decide) (lvl_list (n := 2) fun d hd => by
    obtain ⟨u, _, rfl⟩ := List.mem_map.mp hd
    rfl)
  unfold dIdxD
  simp only [e]
  rw [if_pos ⟨l1, rfl, by rw [List.length_map]; exact idx_lt h⟩]
theorem law_holds_ok {p : Pt} (hp : PtOk p) {f : Fa} (hf : FaOk p.sz f) {l : List S3} {m : Int} (hd : DayOk p.sz l m) : r__law_holds [ptD p, faD f, dayD l m] = .ok (.bl (holdP p.sz f l)) := by
  have i0 : dIx (faD f) (.int 0) = some (.tup (f.rows.map clD)) := rfl
  have i1 : dIx (faD f) (.int 1) = some (clD f.ys) := rfl
  have hn := hf.n
  rw [r__law_holds_df]
  refine runP_ok rfl (show wE (m__law_holds [.fz (ptD p), .fz (faD f), .fz (dayD l m), .dead, .dead, .dead]) _ from ?_)
  unfold m__law_holds
  refine w_mid (fun e => e = ([.fz (ptD p), .fz (faD f), .fz (dayD l m), .fz (.lst ((allSt p.sz).map szD)), .dead, .dead] : Env)) (by simp [peek, peekS, killAll, law_steps_eq hp]) ?_
  rintro e rfl
  refine w_mid (fun e => e = ([.fz (ptD p), .fz (faD f), .fz (dayD l m), .fz (.lst ((allSt p.sz).map szD)), .fz (.int 0), .dead] : Env)) (by simp [peek, peekS, killAll]) ?_
  rintro e rfl
  refine w_mid (fun e => e = ([.fz (ptD p), .fz (faD f), .fz (dayD l m), .fz (.lst ((allSt p.sz).map szD)), .fz (.int (endS p.sz f l)), .dead] : Env)) ?_ ?_
  · simp [peek, peekS, killAll]
    have key : ∀ d : List S3, (∀ t ∈ d, StOk p.sz t) → 0 ≤ endS p.sz f d ∧ endS p.sz f d < f.rows.length := fun d => by
      refine snoc_ind (P := fun d => (∀ t ∈ d, StOk p.sz t) → 0 ≤ endS p.sz f d ∧ endS p.sz f d < f.rows.length) (fun _ => ⟨by simp [endS], by simp [endS]; omega⟩) (fun d t ih h => ?_) d
      unfold endS at ih ⊢
      rw [List.foldl_append]
      exact nx_ok hf (ih fun u hu => h u (by simp [hu])) (h t (by simp))
    refine for_accR (fun done e => e = ([.fz (ptD p), .fz (faD f), .fz (dayD l m), .fz (.lst ((allSt p.sz).map szD)), .fz (.int (endS p.sz f done)), .dead] : Env)) (fun done t rest e ha I => ?_) (fun e I => ⟨rfl, I⟩) rfl
    subst I
    have hto := hd.st.all t (by rw [ha]; simp)
    obtain ⟨c, h1, h2⟩ := nx_at hf (key done fun u hu => hd.st.all u (by rw [ha]; simp [hu])) hto
    have e1 : endS p.sz f (done ++ [t]) = nx p.sz f (endS p.sz f done) t := by
      unfold endS
      rw [List.foldl_append]; rfl
    have i2 : dIx (clD c) (.int ((allSt p.sz).idxOf t : Int)) = atI (c.map .int) ((allSt p.sz).idxOf t : Int) := rfl
    refine ⟨_, rfl, ?_⟩
    simp [peek, peekS, killAll, i0, h1, idxD_steps hto, i2, h2, e1]
  rintro e rfl
  simp [peek, peekS, killAll, i1, in_cl]
  rfl
/-! ## drawn facts -/
structure FaIn (s : S3) (mk : List D → D → Env) (e : Env) : Prop where
  ex : ∃ (h : List D) (f : Fa), GoodH h ∧ e = mk h (faD f) ∧ FaOk s f
structure RwsIn (n M : Nat) (k : Nat) (acc : List D) (mk : List D → Env) (e : Env) : Prop where
  ex : ∃ (h : List D) (rs : List (List Int)), GoodH h ∧ e = mk h ∧ acc = rs.map clD ∧ rs.length = k ∧ ∀ r ∈ rs, r.length = M ∧ ∀ x ∈ r, 0 ≤ x ∧ x < n
structure RwIn (n : Nat) (k : Nat) (acc : List D) (mk : List D → Env) (e : Env) : Prop where
  ex : ∃ (h : List D) (c : List Int), GoodH h ∧ e = mk h ∧ acc = c.map .int ∧ c.length = k ∧ ∀ x ∈ c, 0 ≤ x ∧ x < n
structure YsIn (k : Nat) (acc : List D) (mk : List D → Env) (e : Env) : Prop where
  ex : ∃ (h : List D) (c : List Int), GoodH h ∧ e = mk h ∧ acc = c.map .int ∧ ClOk k c
theorem ClOk.snoc {k : Nat} {c : List Int} (h : ClOk k c) : ClOk ((k + 1 : Nat) : Int) (c ++ [(k : Int)]) := by
  refine ⟨?_, fun x hx => ?_⟩
  · rw [List.pairwise_append]
    refine ⟨h.asc, by simp, fun a ha b hb => ?_⟩
    have : b = (k : Int) := by simpa using hb
    rw [this]
    exact (h.rng a ha).2
  · rcases List.mem_append.mp hx with hx | hx
    · have := h.rng x hx; omega
    · have : x = (k : Int) := by simpa using hx
      omega
theorem ClOk.up {k : Nat} {c : List Int} (h : ClOk k c) : ClOk ((k + 1 : Nat) : Int) c := ⟨h.asc, fun x hx => by have := h.rng x hx; omega⟩
theorem law_fact_ok {h : List D} (g : GoodH h) {p : Pt} (hp : PtOk p) {most : Int} (hm : 1 ≤ most ∧ most ≤ 10) : ∃ d h', r__law_fact h [ptD p, .int most] = .ok d h' ∧ GoodH h' ∧ ∃ f, d = faD f ∧ FaOk p.sz f := by
  have hal := allSt_le hp.sz
  rw [r__law_fact_df]
  refine runI_ex rfl (show wE (m__law_fact [.io h, .fz (ptD p), .fz (.int most), .dead, .dead, .dead, .dead, .dead]) _ from ?_)
  unfold m__law_fact
  refine w_mid (fun e => ∃ n : Nat, (1 ≤ n ∧ n ≤ 10) ∧ HIn (fun h => ([.io h, .fz (ptD p), .fz (.int most), .fz (.int (n : Int)), .dead, .dead, .dead, .dead] : Env)) e) ?_ ?_
  · simp [peek, peekS, killAll]
    refine draw_step g (by omega) (by omega) fun n1 h1 g1 b1 c1 => ?_
    exact ⟨(1 + n1).toNat, by omega, h1, g1, by rw [show (((1 + n1).toNat : Nat) : Int) = 1 + n1 by omega]⟩
  rintro e ⟨n, hn, h, g, rfl⟩
  refine w_mid (fun e => e = ([.io h, .fz (ptD p), .fz (.int most), .fz (.int (n : Int)), .fz (.int ((allSt p.sz).length : Int)), .dead, .dead, .dead] : Env)) (by simp [peek, peekS, killAll, law_steps_eq hp]) ?_
  rintro e rfl
  refine w_mid (fun e => ∃ rs : List (List Int), (rs.length = n ∧ ∀ r ∈ rs, r.length = (allSt p.sz).length ∧ ∀ x ∈ r, 0 ≤ x ∧ x < n) ∧ HIn (fun h => ([.io h, .fz (ptD p), .fz (.int most), .fz (.int (n : Int)), .fz (.int ((allSt p.sz).length : Int)), .fz (.tup (rs.map clD)), .dead, .dead] : Env)) e) ?_ ?_
  · simp [peek, peekS, killAll]
    refine ⟨by omega, ?_⟩
    refine comp_rng0 (fun k acc e => RwsIn n (allSt p.sz).length k acc (fun h => ([.io h, .fz (ptD p), .fz (.int most), .fz (.int (n : Int)), .fz (.int ((allSt p.sz).length : Int)), .dead, .dead, .dead] : Env)) e) (fun k acc e hk I => ?_) (fun acc e I => ?_) ⟨h, [], g, rfl, rfl, rfl, by simp⟩
    · obtain ⟨h, rs, g, rfl, rfl, hrl, hrs⟩ := I
      refine ⟨_, rfl, ?_⟩
      simp [peek, peekS, killAll]
      refine ⟨by omega, ?_⟩
      refine comp_rng0 (fun j acc e => RwIn n j acc (fun h => ([.io h, .fz (ptD p), .fz (.int most), .fz (.int (n : Int)), .fz (.int ((allSt p.sz).length : Int)), .dead, .fz (.int (k : Int)), .dead] : Env)) e) (fun j acc e hj I => ?_) (fun acc e I => ?_) ⟨h, [], g, rfl, rfl, rfl, by simp⟩
      · obtain ⟨h, c, g, rfl, rfl, hcl, hc⟩ := I
        refine ⟨_, rfl, ?_⟩
        simp [peek, peekS, killAll]
        refine draw_step g (by omega) (by omega) fun n1 h1 g1 b1 c1 => ?_
        refine ⟨h1, c ++ [n1], g1, rfl, by simp, by simp [hcl], fun x hx => ?_⟩
        rcases List.mem_append.mp hx with hx | hx
        · exact hc x hx
        · have : x = n1 := by simpa using hx
          omega
      · obtain ⟨h, c, g, rfl, rfl, hcl, hc⟩ := I
        simp [peek, peekS, killAll, fTuple]
        refine ⟨h, rs ++ [c], g, rfl, by simp [clD], by simp [hrl], fun r hr => ?_⟩
        rcases List.mem_append.mp hr with hr | hr
        · exact hrs r hr
        · have : r = c := by simpa using hr
          rw [this]; exact ⟨hcl, hc⟩
    · obtain ⟨h, rs, g, rfl, rfl, hrl, hrs⟩ := I
      simp [peek, peekS, killAll, fTuple]
      exact ⟨rs, ⟨hrl, hrs⟩, h, g, rfl⟩
  rintro e ⟨rs, ⟨hrl, hrs⟩, h, g, rfl⟩
  simp [peek, peekS, killAll]
  refine ⟨by omega, ?_⟩
  refine comp_rng0 (fun j acc e => YsIn j acc (fun h => ([.io h, .fz (ptD p), .fz (.int most), .fz (.int (n : Int)), .fz (.int ((allSt p.sz).length : Int)), .fz (.tup (rs.map clD)), .dead, .dead] : Env)) e) (fun j acc e hj I => ?_) (fun acc e I => ?_) ⟨h, [], g, rfl, rfl, by simp, by simp⟩
  · obtain ⟨h, c, g, rfl, rfl, hc⟩ := I
    refine ⟨_, rfl, ?_⟩
    simp [peek, peekS, killAll]
    refine draw_step g (by omega) (by omega) fun n1 h1 g1 b1 c1 => ?_
    simp only [dEq_int, oM_some, bM_bl]
    split
    · exact ⟨h1, c ++ [(j : Int)], g1, rfl, by simp, hc.snoc⟩
    · exact ⟨h1, c, g1, rfl, rfl, hc.up⟩
  · obtain ⟨h, c, g, rfl, rfl, hc⟩ := I
    simp [peek, peekS, killAll, fTuple]
    refine ⟨g, ⟨rs, c⟩, rfl, ⟨by show 1 ≤ rs.length ∧ rs.length ≤ 10; omega, fun r hr => ?_, by show ClOk (rs.length : Int) c; rw [hrl]; exact hc⟩⟩
    have := hrs r hr
    exact ⟨this.1, fun x hx => by show 0 ≤ x ∧ x < (rs.length : Int); rw [hrl]; exact this.2 x hx⟩
end Mi

set_option Elab.async false
set_option linter.all false
set_option maxRecDepth 100000
set_option maxHeartbeats 2000000
namespace Mi
open PySem PySem.Spec PyProof.Rows L2

theorem in_szs (t : S3) (l : List S3) : dIn (szD t) (.tup (l.map szD)) = some (.bl (decide (t ∈ l))) := by
  have h1 : ((l.map szD).any fun z => eqD z (szD t)) = decide (t ∈ l) := by
    rw [List.any_map, Bool.eq_iff_iff, List.any_eq_true, decide_eq_true_eq]
    constructor
    · rintro ⟨x, hx, e⟩
      rw [Function.comp, eqD_sz, decide_eq_true_eq] at e
      rw [← e]; exact hx
    · intro h
      exact ⟨t, h, by rw [Function.comp, eqD_sz]; simp⟩
  have h2 : (l.map szD).all (lvl 59) = true := by
    rw [List.all_eq_true]
    intro d hd
    obtain ⟨u, _, rfl⟩ := List.mem_map.mp hd
    rfl
  unfold dIn dInB
  simp only []
  rw [if_pos ⟨rfl, h2⟩, h1]; rfl
theorem repT1 (d : D) {k : Nat} (h : k ≤ 1000) : dRepT (.tup [d]) (.int (k : Int)) = some (.tup (List.replicate k d)) := by
  unfold dRepT
  simp only []
  rw [if_pos ⟨by simp, by simp, by omega, by omega⟩, Int.toNat_natCast]
  congr 2
  induction k with
  | zero => rfl
  | succ k ih => rw [List.replicate_succ, List.flatten_cons, ih (by omega), List.replicate_succ]; rfl
theorem cut_end (ys : List D) (z : D) : cutD (ys ++ [z]) (some (-1)) none = [z] := by
  unfold cutD
  have h1 : HT.sIx (ys ++ [z]).length 0 (some (-1)) = ys.length := by
    show (if (-1 : Int) < 0 then ((-1 : Int) + ((ys ++ [z]).length : Int)).toNat else min (-1 : Int).toNat (ys ++ [z]).length) = _
    rw [if_pos (by decide)]
    simp
    omega
  have h2 : HT.sIx (ys ++ [z]).length (ys ++ [z]).length none = (ys ++ [z]).length := rfl
  rw [h1, h2]
  simp
structure Meant (s : S3) (f : Fa) (w : D) : Prop where
  eq : ∀ (l : List S3) (m : Int), DayOk s l m → l.length ≤ 1000 → r__law_meant [w, dayD l m] = .ok (.bl (holdP s f l))
/-! ### a step is among them -/
def hitRow (s : S3) (k : Nat) : List Int := (List.range (allSt s).length).map fun i => if i = k then 1 else 0
theorem hitRow_at {s : S3} {k : Nat} {t : S3} (h : StOk s t) : (hitRow s k).getD ((allSt s).idxOf t) 0 = if (allSt s).idxOf t = k then 1 else 0 := by
  unfold hitRow
  have := idx_lt h
  simp [this]
theorem idx_iff {s t : S3} {k : Nat} (hk : k < (allSt s).length) (h : StOk s t) : (allSt s).idxOf t = k ↔ t = (allSt s)[k] := by
  constructor
  · intro e
    subst e
    exact (List.getElem_idxOf (idx_lt h)).symm
  · intro e
    subst e
    exact (allSt_nodup s).idxOf_getElem k hk
def f0 (s : S3) (k : Nat) : Fa := ⟨[hitRow s k, List.replicate (allSt s).length 1], [1]⟩
theorem f0_end {s : S3} {k : Nat} (hk : k < (allSt s).length) (l : List S3) : (∀ t ∈ l, StOk s t) → endS s (f0 s k) l = if (allSt s)[k] ∈ l then 1 else 0 := by
  refine snoc_ind (P := fun l => (∀ t ∈ l, StOk s t) → endS s (f0 s k) l = if (allSt s)[k] ∈ l then 1 else 0) (fun _ => rfl) (fun l t ih h => ?_) l
  have ih := ih fun u hu => h u (by simp [hu])
  have ht := h t (by simp)
  have hi := idx_lt ht
  unfold endS at ih ⊢
  rw [List.foldl_append, ih]
  show nx s (f0 s k) _ t = _
  by_cases q : (allSt s)[k] ∈ l
  · rw [if_pos q, if_pos (by simp [q])]
    unfold nx f0
    simp [hi]
  · rw [if_neg q]
    unfold nx f0
    simp only [Int.toNat_zero, List.getElem?_cons_zero, Option.getD_some]
    rw [hitRow_at ht]
    by_cases e : t = (allSt s)[k]
    · rw [if_pos ((idx_iff hk ht).mpr e), if_pos (by rw [← e]; simp)]
    · rw [if_neg fun z => e ((idx_iff hk ht).mp z), if_neg (by simp [q]; exact fun z => e z.symm)]
theorem f0_ok {s : S3} {k : Nat} : FaOk s (f0 s k) := by
  refine ⟨by simp [f0], fun r hr => ?_, ⟨by simp [f0], by simp [f0]⟩⟩
  unfold f0 at hr ⊢
  simp only [List.mem_cons, List.not_mem_nil, or_false] at hr
  rcases hr with rfl | rfl
  · refine ⟨by simp [hitRow], fun x hx => ?_⟩
    unfold hitRow at hx
    obtain ⟨i, _, rfl⟩ := List.mem_map.mp hx
    split <;> simp
  · refine ⟨by simp, fun x hx => ?_⟩
    rw [(List.mem_replicate.mp hx).2]; simp
theorem f0_meant {s : S3} {k : Nat} (hk : k < (allSt s).length) : Meant s (f0 s k) (.tup [.int 0, szD (allSt s)[k]]) := ⟨fun l m hd hl => by
  have e := f0_end hk l hd.st.all
  have eh : holdP s (f0 s k) l = decide ((allSt s)[k] ∈ l) := by
    unfold holdP
    rw [e]
    by_cases q : (allSt s)[k] ∈ l
    · simp [q, f0]
    · simp [q, f0]
  rw [r__law_meant_df]
  refine runP_ok rfl (show wE (m__law_meant [.fz (.tup [.int 0, szD (allSt s)[k]]), .fz (dayD l m)]) _ from ?_)
  unfold m__law_meant
  simp [peek, peekS, killAll, atI, ixN, in_szs, eh]⟩
/-! ### how many there were -/
def f1 (s : S3) (n : Nat) (r : Nat) : Fa := ⟨(List.range n).map fun k => List.replicate (allSt s).length (((k + 1) % n : Nat) : Int), [(r : Int)]⟩
theorem f1_end {s : S3} {n r : Nat} (hn : 1 ≤ n) (l : List S3) : (∀ t ∈ l, StOk s t) → endS s (f1 s n r) l = ((l.length % n : Nat) : Int) := by
  refine snoc_ind (P := fun l => (∀ t ∈ l, StOk s t) → endS s (f1 s n r) l = ((l.length % n : Nat) : Int)) (fun _ => by simp [endS]) (fun l t ih h => ?_) l
  have ih := ih fun u hu => h u (by simp [hu])
  have ht := h t (by simp)
  have hi := idx_lt ht
  unfold endS at ih ⊢
  rw [List.foldl_append, ih]
  show nx s (f1 s n r) _ t = _
  have hlt : l.length % n < n := Nat.mod_lt _ (by omega)
  unfold nx f1
  rw [Int.toNat_natCast, List.getElem?_map, List.getElem?_range hlt]
  simp [hi]
theorem f1_ok {s : S3} {n r : Nat} (hn : 1 ≤ n ∧ n ≤ 10) (hr : r < n) : FaOk s (f1 s n r) := by
  refine ⟨by simp [f1]; omega, fun x hx => ?_, ⟨by simp [f1], by simp [f1]; omega⟩⟩
  unfold f1 at hx ⊢
  obtain ⟨k, _, rfl⟩ := List.mem_map.mp hx
  refine ⟨by simp, fun y hy => ?_⟩
  rw [(List.mem_replicate.mp hy).2]
  have := Nat.mod_lt (k + 1) (show n > 0 by omega)
  refine ⟨Int.natCast_nonneg _, ?_⟩
  simp only [List.length_map, List.length_range]
  exact Int.ofNat_lt.mpr this
theorem f1_meant {s : S3} {n r : Nat} (hn : 1 ≤ n ∧ n ≤ 10) (hr : r < n) : Meant s (f1 s n r) (.tup [.int 1, .int (n : Int), .int (r : Int)]) := ⟨fun l m hd hl => by
  have e := f1_end (r := r) hn.1 l hd.st.all
  have eh : holdP s (f1 s n r) l = decide ((l.length : Int) % (n : Int) = (r : Int)) := by
    unfold holdP
    rw [e]
    simp [f1]
  have hm : dMod (.int (l.length : Int)) (.int (n : Int)) = some (.int ((l.length : Int) % (n : Int))) := dMod_of (by omega)
  rw [r__law_meant_df]
  refine runP_ok rfl (show wE (m__law_meant [.fz (.tup [.int 1, .int (n : Int), .int (r : Int)]), .fz (dayD l m)]) _ from ?_)
  unfold m__law_meant
  simp [peek, peekS, killAll, atI, ixN, hm, eh]⟩
/-! ### the last one's step -/
def f2 (s : S3) (k : Nat) : Fa := ⟨[hitRow s k, hitRow s k], [1]⟩
theorem f2_ok {s : S3} {k : Nat} : FaOk s (f2 s k) := by
  refine ⟨by simp [f2], fun r hr => ?_, ⟨by simp [f2], by simp [f2]⟩⟩
  unfold f2 at hr ⊢
  simp only [List.mem_cons, List.not_mem_nil, or_false, or_self] at hr
  subst hr
  refine ⟨by simp [hitRow], fun x hx => ?_⟩
  unfold hitRow at hx
  obtain ⟨i, _, rfl⟩ := List.mem_map.mp hx
  split <;> simp
theorem f2_snoc {s : S3} {k : Nat} (hk : k < (allSt s).length) (l : List S3) (t : S3) (h : ∀ u ∈ l ++ [t], StOk s u) : endS s (f2 s k) (l ++ [t]) = if t = (allSt s)[k] then 1 else 0 := by
  have ht := h t (by simp)
  have bin : ∀ d : List S3, endS s (f2 s k) d = 0 ∨ endS s (f2 s k) d = 1 ∨ ∃ u, u ∈ d ∧ ¬ StOk s u := fun d => by
    refine snoc_ind (P := fun d => endS s (f2 s k) d = 0 ∨ endS s (f2 s k) d = 1 ∨ ∃ u, u ∈ d ∧ ¬ StOk s u) (.inl rfl) (fun d u ih => ?_) d
    by_cases q : StOk s u
    · rcases ih with ih | ih | ⟨v, hv, hn⟩
      · unfold endS at ih ⊢
        rw [List.foldl_append, ih]
        show nx s (f2 s k) 0 u = 0 ∨ nx s (f2 s k) 0 u = 1 ∨ _
        unfold nx f2
        simp only [Int.toNat_zero, List.getElem?_cons_zero, Option.getD_some]
        rw [hitRow_at q]
        split
        · exact .inr (.inl rfl)
        · exact .inl rfl
      · unfold endS at ih ⊢
        rw [List.foldl_append, ih]
        show nx s (f2 s k) 1 u = 0 ∨ nx s (f2 s k) 1 u = 1 ∨ _
        unfold nx f2
        show ([hitRow s k, hitRow s k][1]?.getD []).getD _ 0 = 0 ∨ ([hitRow s k, hitRow s k][1]?.getD []).getD _ 0 = 1 ∨ _
        simp only [List.getElem?_cons_succ, List.getElem?_cons_zero, Option.getD_some]
        rw [hitRow_at q]
        split
        · exact .inr (.inl rfl)
        · exact .inl rfl
      · exact .inr (.inr ⟨v, by simp [hv], hn⟩)
    · exact .inr (.inr ⟨u, by simp, q⟩)
  have hl : endS s (f2 s k) l = 0 ∨ endS s (f2 s k) l = 1 := by
    rcases bin l with q | q | ⟨u, hu, hn⟩
    · exact .inl q
    · exact .inr q
    · exact absurd (h u (by simp [hu])) hn
  have step : ∀ st : Int, st = 0 ∨ st = 1 → nx s (f2 s k) st t = if t = (allSt s)[k] then 1 else 0 := fun st hst => by
    have e : nx s (f2 s k) st t = (hitRow s k).getD ((allSt s).idxOf t) 0 := by
      rcases hst with rfl | rfl <;> rfl
    rw [e, hitRow_at ht]
    by_cases q : t = (allSt s)[k]
    · rw [if_pos ((idx_iff hk ht).mpr q), if_pos q]
    · rw [if_neg fun z => q ((idx_iff hk ht).mp z), if_neg q]
  unfold endS at hl ⊢
  rw [List.foldl_append]
  exact step _ hl
theorem f2_meant {s : S3} {k : Nat} (hk : k < (allSt s).length) : Meant s (f2 s k) (.tup [.int 2, szD (allSt s)[k]]) := ⟨fun l m hd hl => by
  have dq : ∀ t : S3, dEq (.tup [szD t]) (.tup [szD (allSt s)[k]]) = some (.bl (decide (t = (allSt s)[k]))) := fun t => by
    rw [dEq_it (n := 2) (by decide) rfl rfl]
    congr 2
    rw [Bool.eq_iff_iff, eqD_it (n := 2) rfl rfl, decide_eq_true_eq]
    constructor
    · intro e
      injection e with e
      injection e with e
      have := (eqD_it (n := 1) (x := szD t) (y := szD (allSt s)[k]) rfl rfl).mpr e
      rw [eqD_sz] at this
      simpa using this
    · intro e; rw [e]
  have d0 : dEq (.tup []) (.tup [szD (allSt s)[k]]) = some (.bl false) := by
    rw [dEq_it (n := 2) (by decide) rfl rfl]
    rfl
  have neg : dNeg (.int 1) = some (.int (-1)) := rfl
  rw [r__law_meant_df]
  refine runP_ok rfl (show wE (m__law_meant [.fz (.tup [.int 2, szD (allSt s)[k]]), .fz (dayD l m)]) _ from ?_)
  unfold m__law_meant
  rcases List.eq_nil_or_concat l with q | ⟨ys, z, q⟩
  · subst q
    have c0 : dSl (some (-1)) none (.tup []) = some (.tup []) := rfl
    simp [peek, peekS, killAll, atI, ixN, neg, c0, d0]
    simp [holdP, endS, f2]
  · rw [List.concat_eq_append] at q
    subst q
    have c1 : dSl (some (-1)) none (.tup (ys.map szD ++ [szD z])) = some (.tup [szD z]) := by
      show some (D.tup (cutD _ _ _)) = _
      rw [cut_end]
    have eh : holdP s (f2 s k) (ys ++ [z]) = decide (z = (allSt s)[k]) := by
      unfold holdP
      rw [f2_snoc hk ys z hd.st.all]
      by_cases q : z = (allSt s)[k]
      · simp [q, f2]
      · simp [q, f2]
    simp [peek, peekS, killAll, atI, ixN, neg, c1, dq, eh]⟩
end Mi

set_option Elab.async false
set_option linter.all false
set_option maxRecDepth 100000
set_option maxHeartbeats 2000000
namespace Mi
open PySem PySem.Spec PyProof.Rows L2

theorem allSt_pos {s : S3} (h : SzOk s) : 1 ≤ (allSt s).length := by
  have a := h.a
  have b := h.b
  have c := h.c
  rw [allSt_len]
  have h1 : 1 ≤ s.1.toNat := by omega
  have h2 : 1 ≤ s.2.1.toNat := by omega
  have h3 : 1 ≤ s.2.2.toNat := by omega
  exact Nat.mul_pos h1 (Nat.mul_pos h2 h3)
theorem fInt_dec (q : Prop) [Decidable q] : fInt [.bl (decide q)] = some (.int (if q then 1 else 0)) := by
  by_cases h : q <;> simp [fInt, h]
theorem hit_map (s : S3) (k : Nat) : D.tup ((List.range (allSt s).length).map fun i : Nat => D.int (if (i : Int) = (k : Int) then 1 else 0)) = clD (hitRow s k) := by
  unfold clD hitRow
  rw [List.map_map]
  congr 1
  refine List.map_congr_left fun i _ => ?_
  simp only [Function.comp]
  by_cases h : i = k
  · subst h; simp
  · rw [if_neg (by omega), if_neg h]
theorem law_known_ok {h : List D} (g : GoodH h) {p : Pt} (hp : PtOk p) : ∃ d h', r__law_known h [ptD p] = .ok d h' ∧ GoodH h' ∧ ∃ f w, d = .tup [faD f, w] ∧ FaOk p.sz f ∧ Meant p.sz f w := by
  have hal := allSt_le hp.sz
  have hpos := allSt_pos hp.sz
  rw [r__law_known_df]
  refine runI_ex rfl (show wE (m__law_known [.io h, .fz (ptD p), .dead, .dead, .dead, .dead, .dead, .dead, .dead]) _ from ?_)
  unfold m__law_known
  refine w_mid (fun e => e = ([.io h, .fz (ptD p), .fz (.lst ((allSt p.sz).map szD)), .dead, .dead, .dead, .dead, .dead, .dead] : Env)) (by simp [peek, peekS, killAll, law_steps_eq hp]) ?_
  rintro e rfl
  refine w_mid (fun e => ∃ k : Nat, k < (allSt p.sz).length ∧ HIn (fun h => ([.io h, .fz (ptD p), .fz (.lst ((allSt p.sz).map szD)), .fz (.int (k : Int)), .dead, .dead, .dead, .dead, .dead] : Env)) e) ?_ ?_
  · simp [peek, peekS, killAll]
    refine draw_step g (by omega) (by omega) fun n1 h1 g1 b1 c1 => ?_
    exact ⟨n1.toNat, by omega, h1, g1, by rw [show ((n1.toNat : Nat) : Int) = n1 by omega]⟩
  rintro e ⟨k, hk, h, g, rfl⟩
  have hst : atI ((allSt p.sz).map szD) (k : Int) = some (szD (allSt p.sz)[k]) := by
    rw [atI_of k rfl, List.getElem?_map, List.getElem?_eq_getElem hk]; rfl
  refine w_mid (fun e => ∃ w : Int, (0 ≤ w ∧ w < 3) ∧ HIn (fun h => ([.io h, .fz (ptD p), .fz (.lst ((allSt p.sz).map szD)), .fz (.int (k : Int)), .fz (.int w), .dead, .dead, .dead, .dead] : Env)) e) ?_ ?_
  · simp [peek, peekS, killAll]
    refine draw_step g (by omega) (by omega) fun n1 h1 g1 b1 c1 => ?_
    exact ⟨n1, ⟨b1, c1⟩, h1, g1, rfl⟩
  rintro e ⟨w, hw, h, g, rfl⟩
  have hw : w = 0 ∨ w = 1 ∨ w = 2 := by omega
  rcases hw with rfl | rfl | rfl
  · skip
    simp [peek, peekS, killAll]
    refine ⟨by omega, ?_⟩
    rw [rng0]
    refine comp_all (fun i : Nat => .int (if (i : Int) = (k : Int) then 1 else 0)) (fun i hi => ⟨_, rfl, ?_⟩) ?_
    · simp [peek, peekS, killAll, fInt_dec]
    · have hr := repT1 (.int 1) (k := (allSt p.sz).length) (by omega)
      simp [peek, peekS, killAll, fTuple, hr, hst]
      refine ⟨g, f0 p.sz k, _, ⟨?_, rfl⟩, f0_ok, f0_meant hk⟩
      unfold faD f0
      have := hit_map p.sz k
      simp [clD] at this ⊢
      exact this
  · skip
    refine w_mid (fun e => e = ([.io h, .fz (ptD p), .fz (.lst ((allSt p.sz).map szD)), .fz (.int (k : Int)), .fz (.int 1), .dead, .dead, .dead, .dead] : Env)) (by simp [peek, peekS, killAll]) ?_
    rintro e rfl
    refine w_mid2 (fun _ => False) ?_ (fun _ hx => hx.elim)
    rw [w_mIf]
    simp [peek, peekS, killAll]
    refine draw_step g (by omega) (by omega) fun n1 h1 g1 b1 c1 => ?_
    refine draw_step g1 (by omega) (by omega) fun n2 h2 g2 b2 c2 => ?_
    obtain ⟨n, hn⟩ : ∃ n : Nat, (n : Int) = 1 + n1 := ⟨(1 + n1).toNat, by omega⟩
    obtain ⟨r, hr⟩ : ∃ r : Nat, (r : Int) = n2 := ⟨n2.toNat, by omega⟩
    rw [← hn] at c2 ⊢
    rw [← hr] at b2 c2 ⊢
    refine ⟨by omega, by omega, ?_⟩
    rw [rng0, Int.toNat_natCast]
    refine comp_all (fun i : Nat => clD (List.replicate (allSt p.sz).length (((i + 1) % n : Nat) : Int))) (fun i hi => ⟨_, rfl, ?_⟩) ?_
    · have e1 : fInt [.int ((i : Int) + 1)] = some (.int ((i : Int) + 1)) := rfl
      have e2 : dMod (.int ((i : Int) + 1)) (.int (n : Int)) = some (.int (((i : Int) + 1) % (n : Int))) := dMod_of (by omega)
      have e3 := repT1 (.int (((i : Int) + 1) % (n : Int))) (k := (allSt p.sz).length) (by omega)
      simp [peek, peekS, killAll, e1, e2, e3, clD]
    · simp [peek, peekS, killAll, fTuple]
      refine ⟨g2, f1 p.sz n r, _, ⟨?_, rfl⟩, f1_ok (by omega) (by omega), f1_meant (by omega) (by omega)⟩
      unfold faD f1
      simp [clD]
  · skip
    refine w_mid (fun e => e = ([.io h, .fz (ptD p), .fz (.lst ((allSt p.sz).map szD)), .fz (.int (k : Int)), .fz (.int 2), .dead, .dead, .dead, .dead] : Env)) (by simp [peek, peekS, killAll]) ?_
    rintro e rfl
    refine w_mid (fun e => e = ([.io h, .fz (ptD p), .fz (.lst ((allSt p.sz).map szD)), .fz (.int (k : Int)), .fz (.int 2), .dead, .dead, .dead, .dead] : Env)) (by simp [peek, peekS, killAll]) ?_
    rintro e rfl
    refine w_mid (fun e => e = ([.io h, .fz (ptD p), .fz (.lst ((allSt p.sz).map szD)), .fz (.int (k : Int)), .fz (.int 2), .fz (clD (hitRow p.sz k)), .dead, .dead, .dead] : Env)) ?_ ?_
    · simp [peek, peekS, killAll]
      refine ⟨by omega, ?_⟩
      rw [rng0]
      refine comp_all (fun i : Nat => .int (if (i : Int) = (k : Int) then 1 else 0)) (fun i hi => ⟨_, rfl, ?_⟩) ?_
      · simp [peek, peekS, killAll, fInt_dec]
      · simp [peek, peekS, killAll, fTuple]
        exact hit_map p.sz k
    rintro e rfl
    simp [peek, peekS, killAll, hst]
    exact ⟨g, f2 p.sz k, _, ⟨rfl, rfl⟩, f2_ok, f2_meant hk⟩
end Mi

set_option Elab.async false
set_option linter.all false
set_option maxRecDepth 100000
set_option maxHeartbeats 2000000
namespace Mi
open PySem PySem.Spec PyProof.Rows L2

def cntr (f : Fa) : Fa := ⟨f.rows, (upto (f.rows.length : Int)).filter fun x => !decide (x ∈ f.ys)⟩
theorem cntr_ok {s : S3} {f : Fa} (h : FaOk s f) : FaOk s (cntr f) := ⟨h.n, h.row, ⟨(upto_asc _).filter _, fun x hx => mem_upto.mp (List.mem_filter.mp hx).1⟩⟩
theorem endS_ok {s : S3} {f : Fa} (hf : FaOk s f) (l : List S3) : (∀ t ∈ l, StOk s t) → 0 ≤ endS s f l ∧ endS s f l < f.rows.length := by
  have hn := hf.n
  refine snoc_ind (P := fun d => (∀ t ∈ d, StOk s t) → 0 ≤ endS s f d ∧ endS s f d < f.rows.length) (fun _ => ⟨by simp [endS], by simp [endS]; omega⟩) (fun d t ih h => ?_) l
  unfold endS at ih ⊢
  rw [List.foldl_append]
  exact nx_ok hf (ih fun u hu => h u (by simp [hu])) (h t (by simp))
theorem cntr_holds {s : S3} {f : Fa} (hf : FaOk s f) {l : List S3} (hl : ∀ t ∈ l, StOk s t) : holdP s (cntr f) l = !holdP s f l := by
  have h1 := endS_ok hf l hl
  have e : endS s (cntr f) l = endS s f l := rfl
  unfold holdP
  rw [e, Bool.eq_iff_iff, decide_eq_true_eq]
  unfold cntr
  simp only [List.mem_filter, mem_upto, Bool.not_eq_true', decide_eq_false_iff_not]
  constructor
  · exact fun h => h.2
  · exact fun h => ⟨h1, h⟩
theorem t_neV {f : PF} {ml : MA} {env : Env} {args : List D} {x y : D} {v : Nat} (h0 : peek env v = some x) (h1 : wE (ml env) fun d e => d = args ∧ e = env) (h2 : f args = .ok y) (h4 : dNe x y = some (.bl false)) :
    wE (mTst (mBin dNe (.v v) (.m (mCall f ml))) env) fun b e => b = false ∧ e = env := by
  rw [w_mTst, w_mBin, oW_v, h0]
  refine ⟨rfl, ?_⟩
  rw [oW_m, w_mCall]
  refine h1.imp fun d e ⟨e1, e2⟩ => ?_
  subst e1 e2
  rw [h2]
  simp [h0, h4]
theorem t_eqD {f : PF} {ml : MA} {env : Env} {args : List D} {x y : D} {ob : Opd} (h1 : wE (ml env) fun d e => d = args ∧ e = env) (h2 : f args = .ok x) (h3 : oW ob env fun z e => e = env ∧ ob.get z env = some y) (h4 : dEq x y = some (.bl false)) :
    wE (mTst (mBin dEq (.m (mCall f ml)) ob) env) fun b e => b = false ∧ e = env := by
  rw [w_mTst, w_mBin, oW_m, w_mCall]
  refine h1.imp fun d e ⟨e1, e2⟩ => ?_
  subst e1 e2
  rw [h2]
  simp only [prM_ok]
  unfold oW at h3 ⊢
  refine h3.imp fun y e2 ⟨e3, e4⟩ => ?_
  subst e3
  simp [e4, h4]
theorem t_or2 {ta tb : MT} {env : Env} (h1 : wE (ta env) fun b e => b = false ∧ e = env) (h2 : wE (tb env) fun b e => b = false ∧ e = env) : wE (mOr ta tb env) fun b e => b = false ∧ e = env := by
  rw [w_mOr]
  refine h1.imp fun b e ⟨e1, e2⟩ => ?_
  subst e1 e2
  simpa using h2
theorem i_F2 {t : MT} {sa : MS} {env : Env} (h : wE (t env) fun c e => c = false ∧ e = env) : wE (mIf t sa mPass env) fun f e => f = .nx ∧ e = env := by
  rw [w_mIf]
  refine h.imp fun c e ⟨h1, h2⟩ => ?_
  subst h1 h2
  simp
theorem neB (b : Bool) : dNe (.bl b) (.bl b) = some (.bl false) := by cases b <;> rfl
theorem eqB (b : Bool) : dEq (.bl (!b)) (.bl b) = some (.bl false) := by cases b <;> rfl
theorem tyB (b : Bool) : fIsTy [.bl b, .ty "bool"] = some (.bl true) := rfl
structure DyIn (s : S3) (mk : List D → D → Env) (e : Env) : Prop where
  ex : ∃ (h : List D) (l : List S3) (m : Int), GoodH h ∧ e = mk h (dayD l m) ∧ DayOk s l m ∧ l.length ≤ 1000
theorem k29_b0 {s0 s2 : Sl} {h : List D} (g : GoodH h) {p : Pt} (hp : PtOk p) {f f3 : Fa} {w : D} (hf : FaOk p.sz f) (h3 : FaOk p.sz f3) (hm : Meant p.sz f3 w) {k : Int} : wE (m_law_k29_b0 ([s0, .ol h, s2, .fz (ptD p), .fz (offD p), .fz (faD f), .fz (faD (cntr f)), .fz (faD f3), .fz (w), .fz (.int k), .dead, .dead, .dead] : Env)) fun fl e => fl = .nx ∧ HIn (fun h => ([s0, .ol h, s2, .fz (ptD p), .fz (offD p), .fz (faD f), .fz (faD (cntr f)), .fz (faD f3), .fz (w), .dead, .dead, .dead, .dead] : Env)) e := by
  unfold m_law_k29_b0
  rw [w_mKill]
  refine w_mid (DyIn p.sz fun h d => ([s0, .ol h, s2, .fz (ptD p), .fz (offD p), .fz (faD f), .fz (faD (cntr f)), .fz (faD f3), .fz (w), .fz (.int k), .fz d, .dead, .dead] : Env)) ?_ ?_
  · simp [peek, peekS, killAll]
    refine draw_step g (by omega) (by omega) fun n1 h1 g1 b1 c1 => ?_
    have pick : ∃ q : Int, dIx (D.lst [D.int 3, .int 31]) (D.int n1) = some (.int q) ∧ 1 ≤ q ∧ q ≤ 31 := by
      have : n1 = 0 ∨ n1 = 1 := by omega
      rcases this with rfl | rfl
      · exact ⟨3, rfl, by omega, by omega⟩
      · exact ⟨31, rfl, by omega, by omega⟩
    obtain ⟨q, eq, hq⟩ := pick
    simp only [eq, oM_some]
    refine draw_step g1 (by omega) (by omega) fun n2 h2 g2 b2 c2 => ?_
    refine runI_step (any_day_ok g2 hp (many := n2) ⟨b2, by omega⟩) fun d h3 ⟨g3, l, m, e1, hd, hl⟩ => ?_
    subst e1
    exact ⟨h3, l, m, g3, rfl, hd, by omega⟩
  rintro e ⟨h, l, m, g, rfl, hd, hl⟩
  refine w_mid (DyIn p.sz fun h d => ([s0, .ol h, s2, .fz (ptD p), .fz (offD p), .fz (faD f), .fz (faD (cntr f)), .fz (faD f3), .fz (w), .fz (.int k), .fz d, .dead, .dead] : Env)) ?_ ?_
  · rw [w_mIf]
    simp [peek, peekS, killAll]
    refine draw_step g (by omega) (by omega) fun n1 h1 g1 b1 c1 => ?_
    simp only [dEq_int, oM_some, bM_bl, decide_eq_true_eq]
    split
    · refine runI_step (walk_ok g1 hp (many := 8) ⟨by omega, by omega⟩) fun d h3 ⟨g3, l, m, e1, hd, hl⟩ => ?_
      subst e1
      exact ⟨h3, l, m, g3, rfl, hd, by omega⟩
    · exact ⟨h1, l, m, g1, rfl, hd, hl⟩
  rintro e ⟨h, l, m, g, rfl, hd, hl⟩
  have hh := holds_ok hp hf hl hd
  refine w_mid (fun e => e = ([s0, .ol h, s2, .fz (ptD p), .fz (offD p), .fz (faD f), .fz (faD (cntr f)), .fz (faD f3), .fz (w), .fz (.int k), .fz (dayD l m), .fz (.bl (holdP p.sz f l)), .dead] : Env)) (by simp [peek, peekS, killAll, hh]) ?_
  rintro e rfl
  refine w_mid (fun e => e = ([s0, .ol h, s2, .fz (ptD p), .fz (offD p), .fz (faD f), .fz (faD (cntr f)), .fz (faD f3), .fz (w), .fz (.int k), .fz (dayD l m), .fz (.bl (holdP p.sz f l)), .dead] : Env)) ?_ ?_
  · have ho := holds_ok hp (cntr_ok hf) hl hd
    rw [cntr_holds hf hd.st.all] at ho
    refine i_F2 (t_or2 ?_ (t_or2 ?_ ?_))
    · simp [peek, peekS, killAll, tyB]
    · exact t_neV (args := [ptD p, faD f, dayD l m]) rfl (by simp [peek, peekS, killAll]) (law_holds_ok hp hf hd) (neB _)
    · exact t_eqD (args := [offD p, faD (cntr f), dayD l m]) (by simp [peek, peekS, killAll]) ho (by simp [peek, peekS, killAll]) (eqB _)
  rintro e rfl
  refine w_mid (fun e => e = ([s0, .ol h, s2, .fz (ptD p), .fz (offD p), .fz (faD f), .fz (faD (cntr f)), .fz (faD f3), .fz (w), .fz (.int k), .fz (dayD l m), .fz (.bl (holdP p.sz f l)), .dead] : Env)) ?_ ?_
  · have h4 := holds_ok hp h3 hl hd
    simp [peek, peekS, killAll, h4, hm.eq l m hd hl, neB]
  rintro e rfl
  have hc := hp.sz.c
  simp [peek, peekS, killAll]
  refine draw_step g (by omega) (by omega) fun n1 h1 g1 b1 c1 => ?_
  have hd2 : DayOk p.sz l n1 := ⟨hd.st, ⟨b1, c1⟩⟩
  have h5 : r_holds [offD p, faD f, .tup [.tup (l.map szD), .int n1]] = .ok (.bl (holdP p.sz f l)) := holds_ok hp hf hl hd2
  simp [peek, peekS, killAll, h5, neB]
  exact ⟨h1, g1, rfl⟩
end Mi

set_option Elab.async false
set_option linter.all false
set_option maxRecDepth 100000
set_option maxHeartbeats 2000000
namespace Mi
open PySem PySem.Spec PyProof.Rows L2

theorem big_ok {p : Pt} (hp : PtOk p) (hs : p.sz.1 ≤ 3 ∧ p.sz.2.1 ≤ 3 ∧ p.sz.2.2 ≤ 3) : PtOk ⟨(4, 4, 4), p.rows, p.cls⟩ where
  sz := ⟨by show 1 ≤ (4 : Int) ∧ (4 : Int) ≤ 4; decide, by show 1 ≤ (4 : Int) ∧ (4 : Int) ≤ 4; decide, by show 1 ≤ (4 : Int) ∧ (4 : Int) ≤ 4; decide⟩
  n := hp.n
  e := hp.e
  rows := ⟨fun r hr => ⟨(hp.rows.row r hr).1, ⟨fun m hm => by
    have h := (hp.rows.row r hr).2.mv m hm
    have a := h.a
    have b := h.b
    have c := h.c
    exact ⟨by show _ ∧ _ < (4 : Int); omega, by show _ ∧ _ < (4 : Int); omega, by show _ ∧ _ < (4 : Int); omega, h.d⟩, (hp.rows.row r hr).2.asc⟩⟩⟩
  cl := fun c hc => ⟨(hp.cl c hc).asc, fun x hx => by
    have := (hp.cl c hc).rng x hx
    show _ ∧ _ < (4 : Int); omega⟩
theorem cntr_map (f : Fa) : ((List.range f.rows.length).filter fun i : Nat => !decide ((i : Int) ∈ f.ys)).map (fun i : Nat => D.int (i : Int)) = (cntr f).ys.map .int := by
  unfold cntr upto
  simp only [Int.toNat_natCast, List.filter_map, List.map_map]
  rfl
theorem notIn_cl2 (g : Int) (l : List Int) : dNotIn (.int g) (clD l) = some (.bl (!decide (g ∈ l))) := by
  have := in_cl g l
  unfold dIn at this
  unfold dNotIn
  cases h : dInB (.int g) (clD l) with
  | none => rw [h] at this; cases this
  | some b => rw [h] at this; simp at this ⊢; rw [this]
structure PtIn (mk : List D → D → Env) (e : Env) : Prop where
  ex : ∃ (h : List D) (p : Pt), GoodH h ∧ e = mk h (ptD p) ∧ PtOk p
structure KnIn (s : S3) (mk : List D → D → D → Env) (e : Env) : Prop where
  ex : ∃ (h : List D) (f : Fa) (w : D), GoodH h ∧ e = mk h (faD f) w ∧ FaOk s f ∧ Meant s f w
theorem k29_b1 {s0 : Sl} {h : List D} (g : GoodH h) {t : Int} : wE (m_law_k29_b1 ([s0, .ol h, .fz (.int t), .dead, .dead, .dead, .dead, .dead, .dead, .dead, .dead, .dead, .dead] : Env)) fun fl e => fl = .nx ∧ HIn (fun h => ([s0, .ol h, .dead, .dead, .dead, .dead, .dead, .dead, .dead, .dead, .dead, .dead, .dead] : Env)) e := by
  unfold m_law_k29_b1
  rw [w_mKill]
  refine w_mid (fun e => ∃ p : Pt, (PtOk p ∧ p.sz.1 ≤ 3 ∧ p.sz.2.1 ≤ 3 ∧ p.sz.2.2 ≤ 3) ∧ HIn (fun h => ([s0, .ol h, .fz (.int t), .fz (ptD p), .dead, .dead, .dead, .dead, .dead, .dead, .dead, .dead, .dead] : Env)) e) ?_ ?_
  · simp [peek, peekS, killAll]
    refine runI_step (parts_okZ g (most := 3) (size := 3) (moves := 5) ⟨by omega, by omega⟩ ⟨by omega, by omega⟩ ⟨by omega, by omega⟩) fun d h3 ⟨g3, p, e1, hp, hs⟩ => ?_
    subst e1
    exact ⟨p, ⟨hp, hs⟩, h3, g3, rfl⟩
  rintro e ⟨p, ⟨hp, hs⟩, h, g, rfl⟩
  refine w_mid (PtIn fun h d => ([s0, .ol h, .fz (.int t), .fz d, .dead, .dead, .dead, .dead, .dead, .dead, .dead, .dead, .dead] : Env)) ?_ ?_
  · rw [w_mIf]
    simp [peek, peekS, killAll]
    refine draw_step g (by omega) (by omega) fun n1 h1 g1 b1 c1 => ?_
    simp only [dEq_int, oM_some, bM_bl, decide_eq_true_eq]
    split
    · exact ⟨h1, ⟨(4, 4, 4), p.rows, p.cls⟩, g1, rfl, big_ok hp hs⟩
    · exact ⟨h1, p, g1, rfl, hp⟩
  clear hp hs p g h
  rintro e ⟨h, p, g, rfl, hp⟩
  refine w_mid (fun e => e = ([s0, .ol h, .fz (.int t), .fz (ptD p), .fz (offD p), .dead, .dead, .dead, .dead, .dead, .dead, .dead, .dead] : Env)) (by simp [peek, peekS, killAll, made_ok hp]) ?_
  rintro e rfl
  refine w_mid (FaIn p.sz fun h d => ([s0, .ol h, .fz (.int t), .fz (ptD p), .fz (offD p), .fz d, .dead, .dead, .dead, .dead, .dead, .dead, .dead] : Env)) ?_ ?_
  · simp [peek, peekS, killAll]
    refine runI_step (law_fact_ok g hp (most := 10) ⟨by omega, by omega⟩) fun d h3 ⟨g3, f, e1, hf⟩ => ?_
    subst e1
    exact ⟨h3, f, g3, rfl, hf⟩
  rintro e ⟨h, f, g, rfl, hf⟩
  have i0 : dIx (faD f) (.int 0) = some (.tup (f.rows.map clD)) := rfl
  have i1 : dIx (faD f) (.int 1) = some (clD f.ys) := rfl
  have hn := hf.n
  refine w_mid (fun e => e = ([s0, .ol h, .fz (.int t), .fz (ptD p), .fz (offD p), .fz (faD f), .fz (faD (cntr f)), .dead, .dead, .dead, .dead, .dead, .dead] : Env)) ?_ ?_
  · simp [peek, peekS, killAll, i0]
    refine ⟨by omega, ?_⟩
    rw [rng0]
    refine comp_map (fun i : Nat => !decide ((i : Int) ∈ f.ys)) (fun i : Nat => .int (i : Int)) (fun i hi => ⟨_, rfl, ?_⟩) ?_
    · simp [peek, peekS, killAll, i1, notIn_cl2]
    · rw [cntr_map]
      simp [peek, peekS, killAll, fTuple]
      rfl
  rintro e rfl
  refine w_mid (KnIn p.sz fun h d w => ([s0, .ol h, .fz (.int t), .fz (ptD p), .fz (offD p), .fz (faD f), .fz (faD (cntr f)), .fz d, .fz w, .dead, .dead, .dead, .dead] : Env)) ?_ ?_
  · simp [peek, peekS, killAll]
    refine runI_step (law_known_ok g hp) fun d h3 ⟨g3, f3, w, e1, hf3, hm⟩ => ?_
    subst e1
    exact ⟨h3, f3, w, g3, rfl, hf3, hm⟩
  rintro e ⟨h, f3, w, g, rfl, hf3, hm⟩
  refine w_mid (fun e => e = ([s0, .ol h, .fz (.int t), .fz (ptD p), .fz (offD p), .fz (faD f), .fz (faD (cntr f)), .fz (faD f3), .fz (w), .dead, .dead, .dead, .dead] : Env)) ?_ ?_
  · have hi := is_fact_ok hp hf3
    simp [peek, peekS, killAll, hi]
    rfl
  rintro e rfl
  simp [peek, peekS, killAll]
  refine for_rng0 (fun k e => HIn (fun h => ([s0, .ol h, .fz (.int t), .fz (ptD p), .fz (offD p), .fz (faD f), .fz (faD (cntr f)), .fz (faD f3), .fz (w), .dead, .dead, .dead, .dead] : Env)) e) (fun k e hk I => ?_) (fun e I => ?_) ⟨h, g, rfl⟩
  · obtain ⟨h, g, rfl⟩ := I
    refine ⟨_, rfl, ?_⟩
    refine (k29_b0 g hp hf hf3 hm).imp fun f e q => ?_
    obtain ⟨rfl, q⟩ := q
    exact q
  · obtain ⟨h, g, rfl⟩ := I
    exact ⟨rfl, h, g, rfl⟩
theorem plain_k29 : LawOk 13 m_law_k29 := fun ns hns => by
  refine runP_ok rfl (show wE (m_law_k29 [.fz (.lst (ns.map .int)), .dead, .dead, .dead, .dead, .dead, .dead, .dead, .dead, .dead, .dead, .dead, .dead]) _ from ?_)
  unfold m_law_k29
  obtain ⟨h0, eh, g0⟩ := hand_ok ns hns
  refine w_mid (HIn (fun h => ([.fz (.lst (ns.map .int)), .ol h, .dead, .dead, .dead, .dead, .dead, .dead, .dead, .dead, .dead, .dead, .dead] : Env))) (by simp [peek, peekS, killAll, eh]; exact ⟨h0, g0, rfl⟩) ?_
  rintro e ⟨h, g, rfl⟩
  refine w_mid (HIn (fun h => ([.fz (.lst (ns.map .int)), .ol h, .dead, .dead, .dead, .dead, .dead, .dead, .dead, .dead, .dead, .dead, .dead] : Env))) ?_ (by rintro e ⟨h, g, rfl⟩; simp [peek, peekS, killAll])
  simp [peek, peekS, killAll]
  refine for_rng0 (fun k e => HIn (fun h => ([.fz (.lst (ns.map .int)), .ol h, .dead, .dead, .dead, .dead, .dead, .dead, .dead, .dead, .dead, .dead, .dead] : Env)) e) (fun k e hk I => ?_) (fun e I => ⟨rfl, I⟩) ⟨h, g, rfl⟩
  obtain ⟨h, g, rfl⟩ := I
  refine ⟨_, rfl, ?_⟩
  refine (k29_b1 g).imp fun f e q => ?_
  obtain ⟨rfl, q⟩ := q
  exact q
end Mi

set_option Elab.async false
set_option linter.all false
set_option maxRecDepth 100000
set_option maxHeartbeats 4000000
namespace Mi
open PySem PySem.Spec PyProof.Rows L2 RZ
abbrev topS (i : Nat) : Stmt := PySem.Challenge.pw_falsedays_k29_whole_facts_hold.main.body.getD i (.Pass ⟨0, 0, 0, 0⟩)
abbrev s__law_draw : Stmt := topS 35
abbrev s__law_steps_of : Stmt := topS 39
abbrev s__law_any_day : Stmt := topS 42
abbrev s__law_fact : Stmt := topS 45
abbrev s__law_hand : Stmt := topS 34
abbrev s__law_holds : Stmt := topS 46
abbrev s__law_known : Stmt := topS 47
abbrev s_are_ascending : Stmt := topS 10
abbrev s_is_integer : Stmt := topS 6
abbrev s_is_within : Stmt := topS 7
abbrev s_are_closings : Stmt := topS 17
abbrev s_is_move : Stmt := topS 15
abbrev s_are_moves : Stmt := topS 16
abbrev s_is_triple : Stmt := topS 9
abbrev s_are_sizes : Stmt := topS 14
abbrev s_Office_init : Stmt := inClass (topS 18) 0
abbrev s_Office_keep : Stmt := inClass (topS 18) 1
abbrev s__law_made : Stmt := topS 38
abbrev s__law_meant : Stmt := topS 48
abbrev s__law_row : Stmt := topS 36
abbrev s__law_parts : Stmt := topS 37
abbrev s__law_walk : Stmt := topS 43
abbrev s_is_mark : Stmt := topS 19
abbrev s_is_pair : Stmt := topS 8
abbrev s_is_note : Stmt := topS 20
abbrev s_is_step : Stmt := topS 21
abbrev s_are_steps : Stmt := topS 22
abbrev s_is_day : Stmt := topS 23
abbrev s_check_day : Stmt := topS 24
abbrev s_all_steps : Stmt := topS 25
abbrev s_are_states : Stmt := topS 28
abbrev s_is_fact : Stmt := topS 29
abbrev s_check_fact : Stmt := topS 30
abbrev s_Watcher_init : Stmt := inClass (topS 31) 0
abbrev s_Watcher_goes : Stmt := inClass (topS 31) 2
abbrev s_Watcher_ends : Stmt := inClass (topS 31) 3
abbrev s_Watcher_tells : Stmt := inClass (topS 31) 4
abbrev s_holds : Stmt := topS 32
abbrev s_law : Stmt := topS 49
structure Txt (K : PySem.W.Frag) (mg : MG) where
  z_abs : mg "abs" = none
  z_all : mg "all" = none
  z_bool : mg "bool" = none
  z_enumerate : mg "enumerate" = none
  z_int : mg "int" = none
  z_isinstance : mg "isinstance" = none
  z_len : mg "len" = none
  z_list : mg "list" = none
  z_range : mg "range" = none
  z_sorted : mg "sorted" = none
  z_tuple : mg "tuple" = none
  c_MOST_SIZE : ∃ t, mg "MOST_SIZE" = some (.int 4 t)
  c_MOST_STANDINGS : ∃ t, mg "MOST_STANDINGS" = some (.int 20 t)
  c_MOST_STATES : ∃ t, mg "MOST_STATES" = some (.int 10 t)
  x_NoDay : ExC K mg "NoDay"
  x_NoFact : ExC K mg "NoFact"
  f__law_draw : DefAt K mg "_law_draw" s__law_draw
  f__law_steps_of : DefAt K mg "_law_steps_of" s__law_steps_of
  f__law_any_day : DefAt K mg "_law_any_day" s__law_any_day
  f__law_fact : DefAt K mg "_law_fact" s__law_fact
  f__law_hand : DefAt K mg "_law_hand" s__law_hand
  f__law_holds : DefAt K mg "_law_holds" s__law_holds
  f__law_known : DefAt K mg "_law_known" s__law_known
  f_are_ascending : DefAt K mg "are_ascending" s_are_ascending
  f_is_integer : DefAt K mg "is_integer" s_is_integer
  f_is_within : DefAt K mg "is_within" s_is_within
  f_are_closings : DefAt K mg "are_closings" s_are_closings
  f_is_move : DefAt K mg "is_move" s_is_move
  f_are_moves : DefAt K mg "are_moves" s_are_moves
  f_is_triple : DefAt K mg "is_triple" s_is_triple
  f_are_sizes : DefAt K mg "are_sizes" s_are_sizes
  C_Office : OfficeAt K mg s_Office_init s_Office_keep
  f__law_made : DefAt K mg "_law_made" s__law_made
  f__law_meant : DefAt K mg "_law_meant" s__law_meant
  f__law_row : DefAt K mg "_law_row" s__law_row
  f__law_parts : DefAt K mg "_law_parts" s__law_parts
  f__law_walk : DefAt K mg "_law_walk" s__law_walk
  f_is_mark : DefAt K mg "is_mark" s_is_mark
  f_is_pair : DefAt K mg "is_pair" s_is_pair
  f_is_note : DefAt K mg "is_note" s_is_note
  f_is_step : DefAt K mg "is_step" s_is_step
  f_are_steps : DefAt K mg "are_steps" s_are_steps
  f_is_day : DefAt K mg "is_day" s_is_day
  f_check_day : DefAt K mg "check_day" s_check_day
  f_all_steps : DefAt K mg "all_steps" s_all_steps
  f_are_states : DefAt K mg "are_states" s_are_states
  f_is_fact : DefAt K mg "is_fact" s_is_fact
  f_check_fact : DefAt K mg "check_fact" s_check_fact
  C_Watcher : ClsAt K mg "Watcher" "Watcher.__init__" ["numbers", "fact_moves", "fact_yes"] s_Watcher_init
  f_holds : DefAt K mg "holds" s_holds
  f_law : DefAt K mg "law" s_law
  isi : IsiC K mg
  f_Watcher_goes : MethAt K C_Watcher.C "goes" "Watcher.goes" s_Watcher_goes
  f_Watcher_ends : MethAt K C_Watcher.C "ends" "Watcher.ends" s_Watcher_ends
  f_Watcher_tells : MethAt K C_Watcher.C "tells" "Watcher.tells" s_Watcher_tells
section
variable {P : Program} {w : World} {K : PySem.W.Frag} {mg : MG} {base : Heap}

theorem fl_fact_moves (T : Txt K mg) : FldOk K mg ["Watcher"] "fact_moves" := T.C_Watcher.fld (by decide)

theorem fl_fact_yes (T : Txt K mg) : FldOk K mg ["Watcher"] "fact_yes" := T.C_Watcher.fld (by decide)

theorem fl_numbers (T : Txt K mg) : FldOk K mg ["Watcher"] "numbers" := T.C_Watcher.fld (by decide)

theorem fl_sizes (T : Txt K mg) : FldOk K mg cs_off "sizes" := fun c hc C h => by
  have e : c = "Office" := by simpa using hc
  subst e
  rw [T.C_Office.g] at h
  cases h
  exact ⟨T.C_Office.T.cl, T.C_Office.T.n1⟩
abbrev N__law_draw : List Str := ["_law_hand_here", "_law_many", "_law_number", "_law_cell", "_law_digit"]
theorem sc__law_draw : FnScope N__law_draw ["_law_hand_here", "_law_many"] (defScope s__law_draw) := ⟨rfl, rfl, rfl, by decide +kernel, rfl, by decide +kernel, by decide +kernel⟩
theorem bd__law_draw (T : Txt K mg) : Binds K T.f__law_draw.fd ["_law_hand_here", "_law_many"] [] := T.f__law_draw.F.binds fun _ _ _ _ _ _ us hl => match us, hl with | [_, _], _ => rfl
theorem b__law_draw (T : Txt K mg) : BodyOk P w K mg base N__law_draw "_law_draw" s__law_draw 0 m__law_draw := fun f cdv A outer s H E hr =>
  (ss_cons (ss_if (st_w (sw_and (st_cmp (op_eqD (hu64 hr)) od_eq (se_m (se_ix (ix_all (hu1 hr)) od_ix (se_v 0) se_int (fun _ _ => rfl))) se_int) (sw_and1 (st_cmp (op_ord ord_lt (hu81 hr)) od_ord (se_m (se_ix (ix_all (hu1 hr)) od_ix (se_v 0) se_int (fun _ _ => rfl))) (se_m (se_fnB cr_lenA fd_len (by rfl) T.z_len (by decide +kernel) (sa_cons (se_m (se_ix (ix_all (hu1 hr)) od_ix (se_v 0) se_int (fun _ _ => rfl))) sa_nil))))))) (ss_cons (ss_set (i := 3) sc__law_draw.nd rfl (by first | exact Or.inl rfl | exact Or.inr rfl) (se_ix (ix_all (hu1 hr)) od_ix (se_m (se_ix (ix_all (hu1 hr)) od_ix (se_v 0) se_int (fun _ _ => rfl))) (se_m (se_ix (ix_all (hu1 hr)) od_ix (se_v 0) se_int (fun _ _ => rfl))) (fun _ _ => rfl))) (ss_cons (ss_setI 0 (se_op or_add od_add (se_m (se_ix (ix_all (hu1 hr)) od_ix (se_v 0) se_int (fun _ _ => rfl))) se_int) se_int (hg := pg_sub (pv 0) se_int set_list)) (ss_cons (ss_setI 0 (se_op op_mod od_mod (se_m (se_fnT call_int1 fd_int (by rfl) T.z_int (by decide +kernel) (sa_cons (se_m (se_op or_add od_add (se_m (se_op or_add od_add (se_m (se_op op_mul od_mul (se_m (se_ix (ix_all (hu1 hr)) od_ix (se_v 0) se_int (fun _ _ => rfl))) se_int)) (se_v 3))) se_int)) sa_nil))) se_int) se_int (hg := pg_sub (pv 0) se_int set_list)) (ss_one (ss_if (st_cmp (op_ord ord_ge (hu81 hr)) od_ord (se_v 3) (se_m (se_op op_pow od_pow se_int se_int))) (ss_one (ss_setI 0 (se_var 3) se_int (hg := pg_sub (pv 0) se_int set_list))) ss_nil))))) ss_nil) (ss_cons (ss_if (st_cmp (op_ord ord_gt (hu81 hr)) od_ord (se_m (se_ix (ix_all (hu1 hr)) od_ix (se_v 0) se_int (fun _ _ => rfl))) se_int) (ss_cons (ss_set (i := 4) sc__law_draw.nd rfl (by first | exact Or.inl rfl | exact Or.inr rfl) (se_op op_mod od_mod (se_m (se_fnT call_int1 fd_int (by rfl) T.z_int (by decide +kernel) (sa_cons (se_m (se_ix (ix_all (hu1 hr)) od_ix (se_v 0) se_int (fun _ _ => rfl))) sa_nil))) (se_v 1))) (ss_cons (ss_setI 0 (se_op op_fdiv od_div (se_m (se_ix (ix_all (hu1 hr)) od_ix (se_v 0) se_int (fun _ _ => rfl))) (se_v 1)) se_int (hg := pg_sub (pv 0) se_int set_list)) (ss_one (ss_ret (se_var 4))))) ss_nil) (ss_cons (ss_setI 0 (se_op or_add od_add (se_m (se_ix (ix_all (hu1 hr)) od_ix (se_v 0) se_int (fun _ _ => rfl))) se_int) se_int (hg := pg_sub (pv 0) se_int set_list)) (ss_cons (ss_set (i := 2) sc__law_draw.nd rfl (by first | exact Or.inl rfl | exact Or.inr rfl) (se_op op_mod od_mod (se_m (se_fnT call_int1 fd_int (by rfl) T.z_int (by decide +kernel) (sa_cons (se_m (se_op op_mul od_mul (se_m (se_fnT call_int1 fd_int (by rfl) T.z_int (by decide +kernel) (sa_cons (se_m (se_op or_add od_add (se_m (se_ix (ix_all (hu1 hr)) od_ix (se_v 0) se_int (fun _ _ => rfl))) (se_m (se_op op_mul od_mul se_int (se_m (se_ix (ix_all (hu1 hr)) od_ix (se_v 0) se_int (fun _ _ => rfl))))))) sa_nil))) se_int)) sa_nil))) se_int)) (ss_cons (ss_set (i := 2) sc__law_draw.nd rfl (by first | exact Or.inl rfl | exact Or.inr rfl) (se_op op_mod od_mod (se_m (se_fnT call_int1 fd_int (by rfl) T.z_int (by decide +kernel) (sa_cons (se_m (se_op op_mul od_mul (se_v 2) (se_m (se_op or_add od_add (se_m (se_op op_fdiv od_div (se_v 2) se_int)) se_int)))) sa_nil))) se_int)) (ss_cons (ss_set (i := 2) sc__law_draw.nd rfl (by first | exact Or.inl rfl | exact Or.inr rfl) (se_op op_mod od_mod (se_m (se_fnT call_int1 fd_int (by rfl) T.z_int (by decide +kernel) (sa_cons (se_m (se_op op_mul od_mul (se_v 2) (se_m (se_op or_add od_add (se_m (se_op op_fdiv od_div (se_v 2) se_int)) se_int)))) sa_nil))) se_int)) (ss_one (ss_ret (se_op op_mod od_mod (se_m (se_fnT call_int1 fd_int (by rfl) T.z_int (by decide +kernel) (sa_cons (se_m (se_op op_fdiv od_div (se_v 2) se_int)) sa_nil))) (se_v 1))))))))))
theorem ok__law_draw (T : Txt K mg) : FnOk P w K mg base (L2.CX P w) 1 T.f__law_draw.a T.f__law_draw.fd ["_law_hand_here", "_law_many"] (spI K mg r__law_draw) := by
  rw [r__law_draw_df]
  exact fn_I T.f__law_draw.F sc__law_draw (b__law_draw T)
abbrev N__law_steps_of : List Str := ["_law_parts_here", "_law_slips", "_law_answers", "_law_marks", "_law_found", "_law_slip", "_law_answer", "_law_mark"]
theorem sc__law_steps_of : FnScope N__law_steps_of ["_law_parts_here"] (defScope s__law_steps_of) := ⟨rfl, rfl, rfl, by decide +kernel, rfl, by decide +kernel, by decide +kernel⟩
theorem bd__law_steps_of (T : Txt K mg) : Binds K T.f__law_steps_of.fd ["_law_parts_here"] [] := T.f__law_steps_of.F.binds fun _ _ _ _ _ _ us hl => match us, hl with | [_], _ => rfl
theorem b__law_steps_of (T : Txt K mg) : BodyOk P w K mg base N__law_steps_of "_law_steps_of" s__law_steps_of 0 m__law_steps_of := fun f cdv A outer s H E hr =>
  (ss_cons (ss_asgT (se_ix (ix_all (hu1 hr)) od_ix (se_v 0) se_int (fun _ _ => rfl)) (pg_tup rfl (pgs_cons (pg_name (i := 1) sc__law_steps_of.nd rfl (by first | exact Or.inl rfl | exact Or.inr rfl)) (pgs_cons (pg_name (i := 2) sc__law_steps_of.nd rfl (by first | exact Or.inl rfl | exact Or.inr rfl)) (pgs_cons (pg_name (i := 3) sc__law_steps_of.nd rfl (by first | exact Or.inl rfl | exact Or.inr rfl)) pgs_nil)))) (gd_tup (gds_cons (gd_name 1) (gds_cons (gd_name 2) (gds_cons (gd_name 3) gds_nil))))) (ss_cons (ss_set (i := 4) sc__law_steps_of.nd rfl (by first | exact Or.inl rfl | exact Or.inr rfl) (se_lstF sl_nil)) (ss_cons (ss_for (passes_of rfl) rfl (si_range1 (by rfl) T.z_range (se_v 1)) (pg_name (i := 5) sc__law_steps_of.nd rfl (by first | exact Or.inl rfl | exact Or.inr rfl)) (gd_name 5) (sss_kill (ss_one (ss_for (passes_of rfl) rfl (si_range1 (by rfl) T.z_range (se_v 2)) (pg_name (i := 6) sc__law_steps_of.nd rfl (by first | exact Or.inl rfl | exact Or.inr rfl)) (gd_name 6) (sss_kill (ss_one (ss_set (i := 4) sc__law_steps_of.nd rfl (by first | exact Or.inl rfl | exact Or.inr rfl) (se_op or_add od_add (se_v 4) (se_m (se_frz (so_lcV rfl sc__law_steps_of.nd (si_range1 (by rfl) T.z_range (se_v 3)) (blkOk_by (N := N__law_steps_of) (sc := defScope s__law_steps_of) (own := [("_law_mark", 7)]) (by decide +kernel)) (gd_name 7) (by decide) (fun _ _ _ _ _ => (pg_name (i := 7) sc__law_steps_of.nd rfl (by first | exact Or.inl rfl | exact Or.inr rfl))) (fun _ _ _ _ _ => sts_nil) (fun _ _ _ _ _ => (se_tup (sl_cons (se_var 5) (sl_cons (se_var 6) (sl_cons (se_var 7) sl_nil)))))))))))))))) (ss_one (ss_ret (se_var 4))))))
theorem ok__law_steps_of (T : Txt K mg) : FnOk P w K mg base (L2.CX P w) 1 T.f__law_steps_of.a T.f__law_steps_of.fd ["_law_parts_here"] (spP K mg r__law_steps_of) := by
  rw [r__law_steps_of_df]
  exact fn_P T.f__law_steps_of.F sc__law_steps_of (b__law_steps_of T)
abbrev N__law_any_day : List Str := ["_law_hand_here", "_law_parts_here", "_law_many", "_law_steps", "_law_turn"]
theorem sc__law_any_day : FnScope N__law_any_day ["_law_hand_here", "_law_parts_here", "_law_many"] (defScope s__law_any_day) := ⟨rfl, rfl, rfl, by decide +kernel, rfl, by decide +kernel, by decide +kernel⟩
theorem bd__law_any_day (T : Txt K mg) : Binds K T.f__law_any_day.fd ["_law_hand_here", "_law_parts_here", "_law_many"] [] := T.f__law_any_day.F.binds fun _ _ _ _ _ _ us hl => match us, hl with | [_, _, _], _ => rfl
theorem b__law_any_day (T : Txt K mg) : BodyOk P w K mg base N__law_any_day "_law_any_day" s__law_any_day 1 m__law_any_day := fun f cdv A outer s H E hr =>
  (ss_cons (ss_set (i := 3) sc__law_any_day.nd rfl (by first | exact Or.inl rfl | exact Or.inr rfl) (se_call (ok__law_steps_of T) (takes_of rfl rfl rfl rfl) (hr.mono (by decide)) (by rfl) T.f__law_steps_of.g T.f__law_steps_of.F.kp (bd__law_steps_of T) (sl_cons (se_var 1) sl_nil))) (ss_one (ss_ret (se_tup (sl_cons (se_fnT call_tuple_of fd_tuple (by rfl) T.z_tuple (by decide +kernel) (sa_cons (se_m (se_frz (so_lcV rfl sc__law_any_day.nd (si_range1 (by rfl) T.z_range (se_v 2)) (blkOk_by (N := N__law_any_day) (sc := defScope s__law_any_day) (own := [("_law_turn", 4)]) (by decide +kernel)) (gd_name 4) (by decide) (fun _ _ _ _ _ => (pg_name (i := 4) sc__law_any_day.nd rfl (by first | exact Or.inl rfl | exact Or.inr rfl))) (fun _ _ _ _ _ => sts_nil) (fun _ _ _ _ _ => (se_ix (ix_all (hu1 hr)) od_ix (se_v 3) (se_m (se_callI 0 (ok__law_draw T) takes0 (hr.mono (by decide)) (by rfl) T.f__law_draw.g T.f__law_draw.F.kp (bd__law_draw T) (sl_cons (se_fnB cr_lenA fd_len (by rfl) T.z_len (by decide +kernel) (sa_cons (se_v 3) sa_nil)) sl_nil))) (fun _ _ => rfl)))))) sa_nil)) (sl_cons (se_callI 0 (ok__law_draw T) (takes_of rfl rfl rfl rfl) (hr.mono (by decide)) (by rfl) T.f__law_draw.g T.f__law_draw.F.kp (bd__law_draw T) (sl_cons (se_ix (ix_all (hu1 hr)) od_ix (se_m (se_ix (ix_all (hu1 hr)) od_ix (se_v 1) se_int (fun _ _ => rfl))) se_int (fun _ _ => rfl)) sl_nil)) sl_nil))))))
theorem ok__law_any_day (T : Txt K mg) : FnOk P w K mg base (L2.CX P w) 2 T.f__law_any_day.a T.f__law_any_day.fd ["_law_hand_here", "_law_parts_here", "_law_many"] (spI K mg r__law_any_day) := by
  rw [r__law_any_day_df]
  exact fn_I T.f__law_any_day.F sc__law_any_day (b__law_any_day T)
abbrev N__law_fact : List Str := ["_law_hand_here", "_law_parts_here", "_law_most", "_law_many", "_law_size", "_law_moves", "_law_state", "_law_step"]
theorem sc__law_fact : FnScope N__law_fact ["_law_hand_here", "_law_parts_here", "_law_most"] (defScope s__law_fact) := ⟨rfl, rfl, rfl, by decide +kernel, rfl, by decide +kernel, by decide +kernel⟩
theorem bd__law_fact (T : Txt K mg) : Binds K T.f__law_fact.fd ["_law_hand_here", "_law_parts_here", "_law_most"] [] := T.f__law_fact.F.binds fun _ _ _ _ _ _ us hl => match us, hl with | [_, _, _], _ => rfl
theorem b__law_fact (T : Txt K mg) : BodyOk P w K mg base N__law_fact "_law_fact" s__law_fact 1 m__law_fact := fun f cdv A outer s H E hr =>
  (ss_cons (ss_set (i := 3) sc__law_fact.nd rfl (by first | exact Or.inl rfl | exact Or.inr rfl) (se_op or_add od_add se_int (se_m (se_callI 0 (ok__law_draw T) (takes_of rfl rfl rfl rfl) (hr.mono (by decide)) (by rfl) T.f__law_draw.g T.f__law_draw.F.kp (bd__law_draw T) (sl_cons (se_var 2) sl_nil))))) (ss_cons (ss_set (i := 4) sc__law_fact.nd rfl (by first | exact Or.inl rfl | exact Or.inr rfl) (se_fnB cr_lenA fd_len (by rfl) T.z_len (by decide +kernel) (sa_cons (se_m (se_call (ok__law_steps_of T) (takes_of rfl rfl rfl rfl) (hr.mono (by decide)) (by rfl) T.f__law_steps_of.g T.f__law_steps_of.F.kp (bd__law_steps_of T) (sl_cons (se_var 1) sl_nil))) sa_nil))) (ss_cons (ss_set (i := 5) sc__law_fact.nd rfl (by first | exact Or.inl rfl | exact Or.inr rfl) (se_fnT call_tuple_of fd_tuple (by rfl) T.z_tuple (by decide +kernel) (sa_cons (se_m (se_frz (so_lcV rfl sc__law_fact.nd (si_range1 (by rfl) T.z_range (se_v 3)) (blkOk_by (N := N__law_fact) (sc := defScope s__law_fact) (own := [("_law_state", 6)]) (by decide +kernel)) (gd_name 6) (by decide) (fun _ _ _ _ _ => (pg_name (i := 6) sc__law_fact.nd rfl (by first | exact Or.inl rfl | exact Or.inr rfl))) (fun _ _ _ _ _ => sts_nil) (fun _ _ _ _ _ => (se_fnT call_tuple_of fd_tuple (by rfl) T.z_tuple (by decide +kernel) (sa_cons (se_m (se_frz (so_lcV rfl sc__law_fact.nd (si_range1 (by rfl) T.z_range (se_v 4)) (blkOk_in (N := N__law_fact) (own := [("_law_step", 7)]) rfl (by decide +kernel)) (gd_name 7) (by decide) (fun _ _ _ _ _ => (pg_name (i := 7) sc__law_fact.nd rfl (by first | exact Or.inl rfl | exact Or.inr rfl))) (fun _ _ _ _ _ => sts_nil) (fun _ _ _ _ _ => (se_callI 0 (ok__law_draw T) takes0 (hr.mono (by decide)) (by rfl) T.f__law_draw.g T.f__law_draw.F.kp (bd__law_draw T) (sl_cons (se_var 3) sl_nil)))))) sa_nil)))))) sa_nil))) (ss_one (ss_ret (se_tup (sl_cons (se_var 5) (sl_cons (se_fnT call_tuple_of fd_tuple (by rfl) T.z_tuple (by decide +kernel) (sa_cons (se_m (se_frz (so_lcV rfl sc__law_fact.nd (si_range1 (by rfl) T.z_range (se_v 3)) (blkOk_by (N := N__law_fact) (sc := defScope s__law_fact) (own := [("_law_state", 6)]) (by decide +kernel)) (gd_name 6) (by decide) (fun _ _ _ _ _ => (pg_name (i := 6) sc__law_fact.nd rfl (by first | exact Or.inl rfl | exact Or.inr rfl))) (fun _ _ _ _ _ => (sts_one (st_cmp (op_eqD (hu64 hr)) od_eq (se_m (se_callI 0 (ok__law_draw T) takes0 (hr.mono (by decide)) (by rfl) T.f__law_draw.g T.f__law_draw.F.kp (bd__law_draw T) (sl_cons sm_int sl_nil))) se_int))) (fun _ _ _ _ _ => (se_var 6))))) sa_nil)) sl_nil))))))))
theorem ok__law_fact (T : Txt K mg) : FnOk P w K mg base (L2.CX P w) 2 T.f__law_fact.a T.f__law_fact.fd ["_law_hand_here", "_law_parts_here", "_law_most"] (spI K mg r__law_fact) := by
  rw [r__law_fact_df]
  exact fn_I T.f__law_fact.F sc__law_fact (b__law_fact T)
abbrev N__law_hand : List Str := ["_law_script", "_law_cells", "_law_cell"]
theorem sc__law_hand : FnScope N__law_hand ["_law_script"] (defScope s__law_hand) := ⟨rfl, rfl, rfl, by decide +kernel, rfl, by decide +kernel, by decide +kernel⟩
theorem bd__law_hand (T : Txt K mg) : Binds K T.f__law_hand.fd ["_law_script"] [] := T.f__law_hand.F.binds fun _ _ _ _ _ _ us hl => match us, hl with | [_], _ => rfl
theorem b__law_hand (T : Txt K mg) : BodyOk P w K mg base N__law_hand "_law_hand" s__law_hand 0 m__law_hand := fun f cdv A outer s H E hr =>
  (ss_cons (ss_setLcV (i := 1) rfl sc__law_hand.nd rfl rfl (sw_true rfl rfl rfl (by decide +kernel)) (si_items (se_slice (se_v 0) sp_none (sp_some se_int))) (blkOk_by (N := N__law_hand) (sc := defScope s__law_hand) (own := [("_law_cell", 2)]) (by decide +kernel)) (gd_name 2) (by decide) (fun _ _ _ _ _ => (pg_name (i := 2) sc__law_hand.nd rfl (by first | exact Or.inl rfl | exact Or.inr rfl))) (fun _ _ _ _ _ => sts_nil) (fun _ _ _ _ _ => (se_fnB call_abs fd_abs (by rfl) T.z_abs (by decide +kernel) (sa_cons (se_m (se_fnT call_int1 fd_int (by rfl) T.z_int (by decide +kernel) (sa_cons (se_v 2) sa_nil))) sa_nil)))) (ss_one (ss_retL (so_lst (sl_cons (se_var 1) (sl_cons sm_int (sl_cons sm_int (sl_cons (se_op or_add od_add se_int (se_m (se_fnB cr_lenA fd_len (by rfl) T.z_len (by decide +kernel) (sa_cons (se_v 1) sa_nil)))) (sl_cons sm_int sl_nil)))))))))
theorem ok__law_hand (T : Txt K mg) : FnOk P w K mg base (L2.CX P w) 1 T.f__law_hand.a T.f__law_hand.fd ["_law_script"] (spO K mg r__law_hand) := by
  rw [r__law_hand_df]
  exact fn_O T.f__law_hand.F sc__law_hand (b__law_hand T)
abbrev N__law_holds : List Str := ["_law_parts_here", "_law_fact_here", "_law_day", "_law_steps", "_law_state", "_law_step"]
theorem sc__law_holds : FnScope N__law_holds ["_law_parts_here", "_law_fact_here", "_law_day"] (defScope s__law_holds) := ⟨rfl, rfl, rfl, by decide +kernel, rfl, by decide +kernel, by decide +kernel⟩
theorem bd__law_holds (T : Txt K mg) : Binds K T.f__law_holds.fd ["_law_parts_here", "_law_fact_here", "_law_day"] [] := T.f__law_holds.F.binds fun _ _ _ _ _ _ us hl => match us, hl with | [_, _, _], _ => rfl
theorem b__law_holds (T : Txt K mg) : BodyOk P w K mg base N__law_holds "_law_holds" s__law_holds 1 m__law_holds := fun f cdv A outer s H E hr =>
  (ss_cons (ss_set (i := 3) sc__law_holds.nd rfl (by first | exact Or.inl rfl | exact Or.inr rfl) (se_call (ok__law_steps_of T) (takes_of rfl rfl rfl rfl) (hr.mono (by decide)) (by rfl) T.f__law_steps_of.g T.f__law_steps_of.F.kp (bd__law_steps_of T) (sl_cons (se_var 0) sl_nil))) (ss_cons (ss_set (i := 4) sc__law_holds.nd rfl (by first | exact Or.inl rfl | exact Or.inr rfl) sm_int) (ss_cons (ss_for (passes_of rfl) rfl (si_items (se_ix (ix_all (hu1 hr)) od_ix (se_v 2) se_int (fun _ _ => rfl))) (pg_name (i := 5) sc__law_holds.nd rfl (by first | exact Or.inl rfl | exact Or.inr rfl)) (gd_name 5) (sss_kill (ss_one (ss_set (i := 4) sc__law_holds.nd rfl (by first | exact Or.inl rfl | exact Or.inr rfl) (se_ix (ix_all (hu1 hr)) od_ix (se_m (se_ix (ix_all (hu1 hr)) od_ix (se_m (se_ix (ix_all (hu1 hr)) od_ix (se_v 1) se_int (fun _ _ => rfl))) (se_v 4) (fun _ _ => rfl))) (se_m (se_mt md_idxD (pe_bm PySem.F.plainAttrs_list PySem.F.slot_list_index PySem.F.type_list_index (mt_indexD (hu65 hr)) (se_v 3) (pa_cons (se_v 5) pa_nil)))) (fun _ _ => rfl)))))) (ss_one (ss_ret (se_cmp (op_inA (hu65 hr)) od_in (se_v 4) (se_m (se_ix (ix_all (hu1 hr)) od_ix (se_v 1) se_int (fun _ _ => rfl)))))))))
theorem ok__law_holds (T : Txt K mg) : FnOk P w K mg base (L2.CX P w) 2 T.f__law_holds.a T.f__law_holds.fd ["_law_parts_here", "_law_fact_here", "_law_day"] (spP K mg r__law_holds) := by
  rw [r__law_holds_df]
  exact fn_P T.f__law_holds.F sc__law_holds (b__law_holds T)
abbrev N__law_known : List Str := ["_law_hand_here", "_law_parts_here", "_law_steps", "_law_number", "_law_way", "_law_row_here", "_law_many", "_law_rest", "_law_k"]
theorem sc__law_known : FnScope N__law_known ["_law_hand_here", "_law_parts_here"] (defScope s__law_known) := ⟨rfl, rfl, rfl, by decide +kernel, rfl, by decide +kernel, by decide +kernel⟩
theorem bd__law_known (T : Txt K mg) : Binds K T.f__law_known.fd ["_law_hand_here", "_law_parts_here"] [] := T.f__law_known.F.binds fun _ _ _ _ _ _ us hl => match us, hl with | [_, _], _ => rfl
theorem b__law_known (T : Txt K mg) : BodyOk P w K mg base N__law_known "_law_known" s__law_known 1 m__law_known := fun f cdv A outer s H E hr =>
  (ss_cons (ss_set (i := 2) sc__law_known.nd rfl (by first | exact Or.inl rfl | exact Or.inr rfl) (se_call (ok__law_steps_of T) (takes_of rfl rfl rfl rfl) (hr.mono (by decide)) (by rfl) T.f__law_steps_of.g T.f__law_steps_of.F.kp (bd__law_steps_of T) (sl_cons (se_var 1) sl_nil))) (ss_cons (ss_set (i := 3) sc__law_known.nd rfl (by first | exact Or.inl rfl | exact Or.inr rfl) (se_callI 0 (ok__law_draw T) (takes_of rfl rfl rfl rfl) (hr.mono (by decide)) (by rfl) T.f__law_draw.g T.f__law_draw.F.kp (bd__law_draw T) (sl_cons (se_fnB cr_lenA fd_len (by rfl) T.z_len (by decide +kernel) (sa_cons (se_v 2) sa_nil)) sl_nil))) (ss_cons (ss_set (i := 4) sc__law_known.nd rfl (by first | exact Or.inl rfl | exact Or.inr rfl) (se_callI 0 (ok__law_draw T) (takes_of rfl rfl rfl rfl) (hr.mono (by decide)) (by rfl) T.f__law_draw.g T.f__law_draw.F.kp (bd__law_draw T) (sl_cons sm_int sl_nil))) (ss_cons (ss_if (st_cmp (op_eqD (hu64 hr)) od_eq (se_v 4) se_int) (ss_one (ss_ret (se_tup (sl_cons (se_tup (sl_cons (se_tup (sl_cons (se_fnT call_tuple_of fd_tuple (by rfl) T.z_tuple (by decide +kernel) (sa_cons (se_m (se_frz (so_lcV rfl sc__law_known.nd (si_range1 (by rfl) T.z_range (se_m (se_fnB cr_lenA fd_len (by rfl) T.z_len (by decide +kernel) (sa_cons (se_v 2) sa_nil)))) (blkOk_by (N := N__law_known) (sc := defScope s__law_known) (own := [("_law_k", 8)]) (by decide +kernel)) (gd_name 8) (by decide) (fun _ _ _ _ _ => (pg_name (i := 8) sc__law_known.nd rfl (by first | exact Or.inl rfl | exact Or.inr rfl))) (fun _ _ _ _ _ => sts_nil) (fun _ _ _ _ _ => (se_fnT call_int1 fd_int (by rfl) T.z_int (by decide +kernel) (sa_cons (se_m (se_cmp (op_eqD (hu64 hr)) od_eq (se_v 8) (se_v 3))) sa_nil)))))) sa_nil)) (sl_cons (se_op op_repTA od_repT (se_m (se_tup (sl_cons sm_int sl_nil))) (se_m (se_fnB cr_lenA fd_len (by rfl) T.z_len (by decide +kernel) (sa_cons (se_v 2) sa_nil)))) sl_nil))) (sl_cons (se_tup (sl_cons sm_int sl_nil)) sl_nil))) (sl_cons (se_tup (sl_cons sm_int (sl_cons (se_ix (ix_all (hu1 hr)) od_ix (se_v 2) (se_v 3) (fun _ _ => rfl)) sl_nil))) sl_nil))))) ss_nil) (ss_cons (ss_if (st_cmp (op_eqD (hu64 hr)) od_eq (se_v 4) se_int) (ss_cons (ss_set (i := 6) sc__law_known.nd rfl (by first | exact Or.inl rfl | exact Or.inr rfl) (se_op or_add od_add se_int (se_m (se_callI 0 (ok__law_draw T) (takes_of rfl rfl rfl rfl) (hr.mono (by decide)) (by rfl) T.f__law_draw.g T.f__law_draw.F.kp (bd__law_draw T) (sl_cons sm_int sl_nil))))) (ss_cons (ss_set (i := 7) sc__law_known.nd rfl (by first | exact Or.inl rfl | exact Or.inr rfl) (se_callI 0 (ok__law_draw T) (takes_of rfl rfl rfl rfl) (hr.mono (by decide)) (by rfl) T.f__law_draw.g T.f__law_draw.F.kp (bd__law_draw T) (sl_cons (se_var 6) sl_nil))) (ss_one (ss_ret (se_tup (sl_cons (se_tup (sl_cons (se_fnT call_tuple_of fd_tuple (by rfl) T.z_tuple (by decide +kernel) (sa_cons (se_m (se_frz (so_lcV rfl sc__law_known.nd (si_range1 (by rfl) T.z_range (se_v 6)) (blkOk_by (N := N__law_known) (sc := defScope s__law_known) (own := [("_law_k", 8)]) (by decide +kernel)) (gd_name 8) (by decide) (fun _ _ _ _ _ => (pg_name (i := 8) sc__law_known.nd rfl (by first | exact Or.inl rfl | exact Or.inr rfl))) (fun _ _ _ _ _ => sts_nil) (fun _ _ _ _ _ => (se_op op_repTA od_repT (se_m (se_tup (sl_cons (se_op op_mod od_mod (se_m (se_fnT call_int1 fd_int (by rfl) T.z_int (by decide +kernel) (sa_cons (se_m (se_op or_add od_add (se_v 8) se_int)) sa_nil))) (se_v 6)) sl_nil))) (se_m (se_fnB cr_lenA fd_len (by rfl) T.z_len (by decide +kernel) (sa_cons (se_v 2) sa_nil)))))))) sa_nil)) (sl_cons (se_tup (sl_cons (se_var 7) sl_nil)) sl_nil))) (sl_cons (se_tup (sl_cons sm_int (sl_cons (se_var 6) (sl_cons (se_var 7) sl_nil)))) sl_nil))))))) ss_nil) (ss_cons (ss_set (i := 5) sc__law_known.nd rfl (by first | exact Or.inl rfl | exact Or.inr rfl) (se_fnT call_tuple_of fd_tuple (by rfl) T.z_tuple (by decide +kernel) (sa_cons (se_m (se_frz (so_lcV rfl sc__law_known.nd (si_range1 (by rfl) T.z_range (se_m (se_fnB cr_lenA fd_len (by rfl) T.z_len (by decide +kernel) (sa_cons (se_v 2) sa_nil)))) (blkOk_by (N := N__law_known) (sc := defScope s__law_known) (own := [("_law_k", 8)]) (by decide +kernel)) (gd_name 8) (by decide) (fun _ _ _ _ _ => (pg_name (i := 8) sc__law_known.nd rfl (by first | exact Or.inl rfl | exact Or.inr rfl))) (fun _ _ _ _ _ => sts_nil) (fun _ _ _ _ _ => (se_fnT call_int1 fd_int (by rfl) T.z_int (by decide +kernel) (sa_cons (se_m (se_cmp (op_eqD (hu64 hr)) od_eq (se_v 8) (se_v 3))) sa_nil)))))) sa_nil))) (ss_one (ss_ret (se_tup (sl_cons (se_tup (sl_cons (se_tup (sl_cons (se_var 5) (sl_cons (se_var 5) sl_nil))) (sl_cons (se_tup (sl_cons sm_int sl_nil)) sl_nil))) (sl_cons (se_tup (sl_cons sm_int (sl_cons (se_ix (ix_all (hu1 hr)) od_ix (se_v 2) (se_v 3) (fun _ _ => rfl)) sl_nil))) sl_nil)))))))))))
theorem ok__law_known (T : Txt K mg) : FnOk P w K mg base (L2.CX P w) 2 T.f__law_known.a T.f__law_known.fd ["_law_hand_here", "_law_parts_here"] (spI K mg r__law_known) := by
  rw [r__law_known_df]
  exact fn_I T.f__law_known.F sc__law_known (b__law_known T)
abbrev N_are_ascending : List Str := ["things", "at"]
theorem sc_are_ascending : FnScope N_are_ascending ["things"] (defScope s_are_ascending) := ⟨rfl, rfl, rfl, by decide +kernel, rfl, by decide +kernel, by decide +kernel⟩
theorem bd_are_ascending (T : Txt K mg) : Binds K T.f_are_ascending.fd ["things"] [] := T.f_are_ascending.F.binds fun _ _ _ _ _ _ us hl => match us, hl with | [_], _ => rfl
theorem b_are_ascending (T : Txt K mg) : BodyOk P w K mg base N_are_ascending "are_ascending" s_are_ascending 0 m_are_ascending := fun f cdv A outer s H E hr =>
  (ss_cons (ss_for (passes_of rfl) rfl (si_range2 (by rfl) T.z_range se_int (se_m (se_fnB cr_lenA fd_len (by rfl) T.z_len (by decide +kernel) (sa_cons (se_v 0) sa_nil)))) (pg_name (i := 1) sc_are_ascending.nd rfl (by first | exact Or.inl rfl | exact Or.inr rfl)) (gd_name 1) (sss_kill (ss_one (ss_if (st_cmp (op_ord ord_ge (hu81 hr)) od_ord (se_m (se_ix (ix_all (hu1 hr)) od_ix (se_v 0) (se_m (se_op op_sub od_sub (se_v 1) se_int)) (fun _ _ => rfl))) (se_m (se_ix (ix_all (hu1 hr)) od_ix (se_v 0) (se_v 1) (fun _ _ => rfl)))) (ss_one (ss_ret sm_bl)) ss_nil)))) (ss_one (ss_ret sm_bl)))
theorem ok_are_ascending (T : Txt K mg) : FnOk P w K mg base (L2.CX P w) 1 T.f_are_ascending.a T.f_are_ascending.fd ["things"] (spP K mg r_are_ascending) := by
  rw [r_are_ascending_df]
  exact fn_P T.f_are_ascending.F sc_are_ascending (b_are_ascending T)
abbrev N_is_integer : List Str := ["thing"]
theorem sc_is_integer : FnScope N_is_integer ["thing"] (defScope s_is_integer) := ⟨rfl, rfl, rfl, by decide +kernel, rfl, by decide +kernel, by decide +kernel⟩
theorem bd_is_integer (T : Txt K mg) : Binds K T.f_is_integer.fd ["thing"] [] := T.f_is_integer.F.binds fun _ _ _ _ _ _ us hl => match us, hl with | [_], _ => rfl
theorem b_is_integer (T : Txt K mg) : BodyOk P w K mg base N_is_integer "is_integer" s_is_integer 0 m_is_integer := fun f cdv A outer s H E hr =>
  (ss_one (ss_ret (se_and (se_fnB call_isi (fd_isTy T.isi) (by rfl) T.z_isinstance boot_isinstance (sa_cons (se_v 0) (sa_cons (se_ty (by rfl) T.z_int (by decide +kernel)) sa_nil))) (se_one (se_not (se_fnB call_isi (fd_isTy T.isi) (by rfl) T.z_isinstance boot_isinstance (sa_cons (se_v 0) (sa_cons (se_ty (by rfl) T.z_bool (by decide +kernel)) sa_nil))))))))
theorem ok_is_integer (T : Txt K mg) : FnOk P w K mg base (L2.CX P w) 1 T.f_is_integer.a T.f_is_integer.fd ["thing"] (spP K mg r_is_integer) := by
  rw [r_is_integer_df]
  exact fn_P T.f_is_integer.F sc_is_integer (b_is_integer T)
abbrev N_is_within : List Str := ["thing", "least", "most"]
theorem sc_is_within : FnScope N_is_within ["thing", "least", "most"] (defScope s_is_within) := ⟨rfl, rfl, rfl, by decide +kernel, rfl, by decide +kernel, by decide +kernel⟩
theorem bd_is_within (T : Txt K mg) : Binds K T.f_is_within.fd ["thing", "least", "most"] [] := T.f_is_within.F.binds fun _ _ _ _ _ _ us hl => match us, hl with | [_, _, _], _ => rfl
theorem b_is_within (T : Txt K mg) : BodyOk P w K mg base N_is_within "is_within" s_is_within 1 m_is_within := fun f cdv A outer s H E hr =>
  (ss_one (ss_ret (se_and (se_call (ok_is_integer T) (takes_of rfl rfl rfl rfl) (hr.mono (by decide)) (by rfl) T.f_is_integer.g T.f_is_integer.F.kp (bd_is_integer T) (sl_cons (se_var 0) sl_nil)) (se_one (se_chain (op_ord ord_le (hu81 hr)) od_ord (op_ord ord_le (hu81 hr)) od_ord (se_v 1) (se_v 0) (se_v 2))))))
theorem ok_is_within (T : Txt K mg) : FnOk P w K mg base (L2.CX P w) 2 T.f_is_within.a T.f_is_within.fd ["thing", "least", "most"] (spP K mg r_is_within) := by
  rw [r_is_within_df]
  exact fn_P T.f_is_within.F sc_is_within (b_is_within T)
abbrev N_are_closings : List Str := ["sizes", "many", "thing", "row", "mark"]
theorem sc_are_closings : FnScope N_are_closings ["sizes", "many", "thing"] (defScope s_are_closings) := ⟨rfl, rfl, rfl, by decide +kernel, rfl, by decide +kernel, by decide +kernel⟩
theorem bd_are_closings (T : Txt K mg) : Binds K T.f_are_closings.fd ["sizes", "many", "thing"] [] := T.f_are_closings.F.binds fun _ _ _ _ _ _ us hl => match us, hl with | [_, _, _], _ => rfl
theorem b_are_closings (T : Txt K mg) : BodyOk P w K mg base N_are_closings "are_closings" s_are_closings 2 m_are_closings := fun f cdv A outer s H E hr =>
  (ss_cons (ss_if (st_w (sw_or (st_not (st_val (se_fnB call_isi (fd_isTy T.isi) (by rfl) T.z_isinstance boot_isinstance (sa_cons (se_v 2) (sa_cons (se_ty (by rfl) T.z_tuple (by decide +kernel)) sa_nil))))) (sw_or1 (st_cmp (op_neD (hu64 hr)) od_ne (se_m (se_fnB cr_lenA fd_len (by rfl) T.z_len (by decide +kernel) (sa_cons (se_v 2) sa_nil))) (se_v 1))))) (ss_one (ss_ret sm_bl)) ss_nil) (ss_cons (ss_for (passes_of rfl) rfl (si_items (se_var 2)) (pg_name (i := 3) sc_are_closings.nd rfl (by first | exact Or.inl rfl | exact Or.inr rfl)) (gd_name 3) (sss_kill (ss_cons (ss_if (st_w (sw_or (st_not (st_val (se_fnB call_isi (fd_isTy T.isi) (by rfl) T.z_isinstance boot_isinstance (sa_cons (se_v 3) (sa_cons (se_ty (by rfl) T.z_tuple (by decide +kernel)) sa_nil))))) (sw_or1 (st_not (st_val (se_fnB (cr_all rfl) fd_all (by rfl) T.z_all (by decide +kernel) (sa_cons (se_m (se_frz (so_lcV rfl sc_are_closings.nd (si_items (se_var 3)) (blkOk_by (N := N_are_closings) (sc := defScope s_are_closings) (own := [("mark", 4)]) (by decide +kernel)) (gd_name 4) (by decide) (fun _ _ _ _ _ => (pg_name (i := 4) sc_are_closings.nd rfl (by first | exact Or.inl rfl | exact Or.inr rfl))) (fun _ _ _ _ _ => sts_nil) (fun _ _ _ _ _ => (se_call (ok_is_within T) takes0 (hr.mono (by decide)) (by rfl) T.f_is_within.g T.f_is_within.F.kp (bd_is_within T) (sl_cons (se_var 4) (sl_cons sm_int (sl_cons (se_op op_sub od_sub (se_m (se_ix (ix_all (hu1 hr)) od_ix (se_v 0) se_int (fun _ _ => rfl))) se_int) sl_nil)))))))) sa_nil))))))) (ss_one (ss_ret sm_bl)) ss_nil) (ss_one (ss_if (st_not (st_val (se_call (ok_are_ascending T) (takes_of rfl rfl rfl rfl) (hr.mono (by decide)) (by rfl) T.f_are_ascending.g T.f_are_ascending.F.kp (bd_are_ascending T) (sl_cons (se_var 3) sl_nil)))) (ss_one (ss_ret sm_bl)) ss_nil))))) (ss_one (ss_ret sm_bl))))
theorem ok_are_closings (T : Txt K mg) : FnOk P w K mg base (L2.CX P w) 3 T.f_are_closings.a T.f_are_closings.fd ["sizes", "many", "thing"] (spP K mg r_are_closings) := by
  rw [r_are_closings_df]
  exact fn_P T.f_are_closings.F sc_are_closings (b_are_closings T)
abbrev N_is_move : List Str := ["sizes", "many", "thing", "slips", "answers", "marks"]
theorem sc_is_move : FnScope N_is_move ["sizes", "many", "thing"] (defScope s_is_move) := ⟨rfl, rfl, rfl, by decide +kernel, rfl, by decide +kernel, by decide +kernel⟩
theorem bd_is_move (T : Txt K mg) : Binds K T.f_is_move.fd ["sizes", "many", "thing"] [] := T.f_is_move.F.binds fun _ _ _ _ _ _ us hl => match us, hl with | [_, _, _], _ => rfl
theorem b_is_move (T : Txt K mg) : BodyOk P w K mg base N_is_move "is_move" s_is_move 2 m_is_move := fun f cdv A outer s H E hr =>
  (ss_cons (ss_if (st_w (sw_or (st_not (st_val (se_fnB call_isi (fd_isTy T.isi) (by rfl) T.z_isinstance boot_isinstance (sa_cons (se_v 2) (sa_cons (se_ty (by rfl) T.z_tuple (by decide +kernel)) sa_nil))))) (sw_or1 (st_cmp (op_neD (hu64 hr)) od_ne (se_m (se_fnB cr_lenA fd_len (by rfl) T.z_len (by decide +kernel) (sa_cons (se_v 2) sa_nil))) se_int)))) (ss_one (ss_ret sm_bl)) ss_nil) (ss_cons (ss_asgT (se_var 0) (pg_tup rfl (pgs_cons (pg_name (i := 3) sc_is_move.nd rfl (by first | exact Or.inl rfl | exact Or.inr rfl)) (pgs_cons (pg_name (i := 4) sc_is_move.nd rfl (by first | exact Or.inl rfl | exact Or.inr rfl)) (pgs_cons (pg_name (i := 5) sc_is_move.nd rfl (by first | exact Or.inl rfl | exact Or.inr rfl)) pgs_nil)))) (gd_tup (gds_cons (gd_name 3) (gds_cons (gd_name 4) (gds_cons (gd_name 5) gds_nil))))) (ss_cons (ss_if (st_w (sw_or (st_not (st_val (se_call (ok_is_within T) (takes_of rfl rfl rfl rfl) (hr.mono (by decide)) (by rfl) T.f_is_within.g T.f_is_within.F.kp (bd_is_within T) (sl_cons (se_ix (ix_all (hu1 hr)) od_ix (se_v 2) se_int (fun _ _ => rfl)) (sl_cons sm_int (sl_cons (se_op op_sub od_sub (se_v 3) se_int) sl_nil)))))) (sw_or1 (st_not (st_val (se_call (ok_is_within T) (takes_of rfl rfl rfl rfl) (hr.mono (by decide)) (by rfl) T.f_is_within.g T.f_is_within.F.kp (bd_is_within T) (sl_cons (se_ix (ix_all (hu1 hr)) od_ix (se_v 2) se_int (fun _ _ => rfl)) (sl_cons sm_int (sl_cons (se_op op_sub od_sub (se_v 4) se_int) sl_nil))))))))) (ss_one (ss_ret sm_bl)) ss_nil) (ss_one (ss_ret (se_and (se_call (ok_is_within T) (takes_of rfl rfl rfl rfl) (hr.mono (by decide)) (by rfl) T.f_is_within.g T.f_is_within.F.kp (bd_is_within T) (sl_cons (se_ix (ix_all (hu1 hr)) od_ix (se_v 2) se_int (fun _ _ => rfl)) (sl_cons sm_int (sl_cons (se_op op_sub od_sub (se_v 5) se_int) sl_nil)))) (se_one (se_call (ok_is_within T) (takes_of rfl rfl rfl rfl) (hr.mono (by decide)) (by rfl) T.f_is_within.g T.f_is_within.F.kp (bd_is_within T) (sl_cons (se_ix (ix_all (hu1 hr)) od_ix (se_v 2) se_int (fun _ _ => rfl)) (sl_cons sm_int (sl_cons (se_op op_sub od_sub (se_v 1) se_int) sl_nil)))))))))))
theorem ok_is_move (T : Txt K mg) : FnOk P w K mg base (L2.CX P w) 3 T.f_is_move.a T.f_is_move.fd ["sizes", "many", "thing"] (spP K mg r_is_move) := by
  rw [r_is_move_df]
  exact fn_P T.f_is_move.F sc_is_move (b_is_move T)
abbrev N_are_moves : List Str := ["sizes", "thing", "row", "move"]
theorem sc_are_moves : FnScope N_are_moves ["sizes", "thing"] (defScope s_are_moves) := ⟨rfl, rfl, rfl, by decide +kernel, rfl, by decide +kernel, by decide +kernel⟩
theorem bd_are_moves (T : Txt K mg) : Binds K T.f_are_moves.fd ["sizes", "thing"] [] := T.f_are_moves.F.binds fun _ _ _ _ _ _ us hl => match us, hl with | [_, _], _ => rfl
theorem b_are_moves (T : Txt K mg) : BodyOk P w K mg base N_are_moves "are_moves" s_are_moves 3 m_are_moves := fun f cdv A outer s H E hr =>
  (ss_cons (ss_if (st_w (sw_or (st_not (st_val (se_fnB call_isi (fd_isTy T.isi) (by rfl) T.z_isinstance boot_isinstance (sa_cons (se_v 1) (sa_cons (se_ty (by rfl) T.z_tuple (by decide +kernel)) sa_nil))))) (sw_or1 (st_not (st_chain (op_ord ord_le (hu81 hr)) od_ord (op_ord ord_le (hu81 hr)) od_ord se_int (se_m (se_fnB cr_lenA fd_len (by rfl) T.z_len (by decide +kernel) (sa_cons (se_v 1) sa_nil))) (se_gi (by rfl) T.c_MOST_STANDINGS)))))) (ss_one (ss_ret sm_bl)) ss_nil) (ss_cons (ss_for (passes_of rfl) rfl (si_items (se_var 1)) (pg_name (i := 2) sc_are_moves.nd rfl (by first | exact Or.inl rfl | exact Or.inr rfl)) (gd_name 2) (sss_kill (ss_cons (ss_if (st_w (sw_or (st_not (st_val (se_fnB call_isi (fd_isTy T.isi) (by rfl) T.z_isinstance boot_isinstance (sa_cons (se_v 2) (sa_cons (se_ty (by rfl) T.z_tuple (by decide +kernel)) sa_nil))))) (sw_or1 (st_not (st_val (se_fnB (cr_all rfl) fd_all (by rfl) T.z_all (by decide +kernel) (sa_cons (se_m (se_frz (so_lcV rfl sc_are_moves.nd (si_items (se_var 2)) (blkOk_by (N := N_are_moves) (sc := defScope s_are_moves) (own := [("move", 3)]) (by decide +kernel)) (gd_name 3) (by decide) (fun _ _ _ _ _ => (pg_name (i := 3) sc_are_moves.nd rfl (by first | exact Or.inl rfl | exact Or.inr rfl))) (fun _ _ _ _ _ => sts_nil) (fun _ _ _ _ _ => (se_call (ok_is_move T) takes0 (hr.mono (by decide)) (by rfl) T.f_is_move.g T.f_is_move.F.kp (bd_is_move T) (sl_cons (se_var 0) (sl_cons (se_fnB cr_lenA fd_len (by rfl) T.z_len (by decide +kernel) (sa_cons (se_v 1) sa_nil)) (sl_cons (se_var 3) sl_nil)))))))) sa_nil))))))) (ss_one (ss_ret sm_bl)) ss_nil) (ss_one (ss_if (st_not (st_val (se_call (ok_are_ascending T) (takes_of rfl rfl rfl rfl) (hr.mono (by decide)) (by rfl) T.f_are_ascending.g T.f_are_ascending.F.kp (bd_are_ascending T) (sl_cons (se_var 2) sl_nil)))) (ss_one (ss_ret sm_bl)) ss_nil))))) (ss_one (ss_ret sm_bl))))
theorem ok_are_moves (T : Txt K mg) : FnOk P w K mg base (L2.CX P w) 4 T.f_are_moves.a T.f_are_moves.fd ["sizes", "thing"] (spP K mg r_are_moves) := by
  rw [r_are_moves_df]
  exact fn_P T.f_are_moves.F sc_are_moves (b_are_moves T)
abbrev N_is_triple : List Str := ["thing"]
theorem sc_is_triple : FnScope N_is_triple ["thing"] (defScope s_is_triple) := ⟨rfl, rfl, rfl, by decide +kernel, rfl, by decide +kernel, by decide +kernel⟩
theorem bd_is_triple (T : Txt K mg) : Binds K T.f_is_triple.fd ["thing"] [] := T.f_is_triple.F.binds fun _ _ _ _ _ _ us hl => match us, hl with | [_], _ => rfl
theorem b_is_triple (T : Txt K mg) : BodyOk P w K mg base N_is_triple "is_triple" s_is_triple 0 m_is_triple := fun f cdv A outer s H E hr =>
  (ss_one (ss_ret (se_and (se_fnB call_isi (fd_isTy T.isi) (by rfl) T.z_isinstance boot_isinstance (sa_cons (se_v 0) (sa_cons (se_ty (by rfl) T.z_tuple (by decide +kernel)) sa_nil))) (se_one (se_cmp (op_eqD (hu64 hr)) od_eq (se_m (se_fnB cr_lenA fd_len (by rfl) T.z_len (by decide +kernel) (sa_cons (se_v 0) sa_nil))) se_int)))))
theorem ok_is_triple (T : Txt K mg) : FnOk P w K mg base (L2.CX P w) 1 T.f_is_triple.a T.f_is_triple.fd ["thing"] (spP K mg r_is_triple) := by
  rw [r_is_triple_df]
  exact fn_P T.f_is_triple.F sc_is_triple (b_is_triple T)
abbrev N_are_sizes : List Str := ["thing", "size"]
theorem sc_are_sizes : FnScope N_are_sizes ["thing"] (defScope s_are_sizes) := ⟨rfl, rfl, rfl, by decide +kernel, rfl, by decide +kernel, by decide +kernel⟩
theorem bd_are_sizes (T : Txt K mg) : Binds K T.f_are_sizes.fd ["thing"] [] := T.f_are_sizes.F.binds fun _ _ _ _ _ _ us hl => match us, hl with | [_], _ => rfl
theorem b_are_sizes (T : Txt K mg) : BodyOk P w K mg base N_are_sizes "are_sizes" s_are_sizes 2 m_are_sizes := fun f cdv A outer s H E hr =>
  (ss_one (ss_ret (se_and (se_call (ok_is_triple T) (takes_of rfl rfl rfl rfl) (hr.mono (by decide)) (by rfl) T.f_is_triple.g T.f_is_triple.F.kp (bd_is_triple T) (sl_cons (se_var 0) sl_nil)) (se_one (se_fnB (cr_all rfl) fd_all (by rfl) T.z_all (by decide +kernel) (sa_cons (se_m (se_frz (so_lcV rfl sc_are_sizes.nd (si_items (se_var 0)) (blkOk_by (N := N_are_sizes) (sc := defScope s_are_sizes) (own := [("size", 1)]) (by decide +kernel)) (gd_name 1) (by decide) (fun _ _ _ _ _ => (pg_name (i := 1) sc_are_sizes.nd rfl (by first | exact Or.inl rfl | exact Or.inr rfl))) (fun _ _ _ _ _ => sts_nil) (fun _ _ _ _ _ => (se_call (ok_is_within T) takes0 (hr.mono (by decide)) (by rfl) T.f_is_within.g T.f_is_within.F.kp (bd_is_within T) (sl_cons (se_var 1) (sl_cons sm_int (sl_cons (sm_of (se_gi (by rfl) T.c_MOST_SIZE)) sl_nil)))))))) sa_nil))))))
theorem ok_are_sizes (T : Txt K mg) : FnOk P w K mg base (L2.CX P w) 3 T.f_are_sizes.a T.f_are_sizes.fd ["thing"] (spP K mg r_are_sizes) := by
  rw [r_are_sizes_df]
  exact fn_P T.f_are_sizes.F sc_are_sizes (b_are_sizes T)
abbrev N_Office_init : List Str := ["self", "sizes", "moves", "closings"]
abbrev N_Office_keep : List Str := ["self", "sizes", "moves", "closings", "row", "goals", "slip", "answer", "mark", "goal"]
theorem sc_Office_init : FnScope N_Office_init ["self", "sizes", "moves", "closings"] (defScope s_Office_init) := ⟨rfl, rfl, rfl, by decide +kernel, rfl, by decide +kernel, by decide +kernel⟩
theorem sc_Office_keep : FnScope N_Office_keep ["self", "sizes", "moves", "closings"] (defScope s_Office_keep) := ⟨rfl, rfl, rfl, by decide +kernel, rfl, by decide +kernel, by decide +kernel⟩
theorem bd_Office_init (T : Txt K mg) : Binds K T.C_Office.I.fd ["self", "sizes", "moves", "closings"] [] := T.C_Office.I.F.binds fun _ _ _ _ _ _ us hl => match us, hl with | [_, _, _, _], _ => rfl
theorem bd_Office_keep (T : Txt K mg) : Binds K T.C_Office.P.fd ["self", "sizes", "moves", "closings"] [] := T.C_Office.P.F.binds fun _ _ _ _ _ _ us hl => match us, hl with | [_, _, _, _], _ => rfl
theorem ok_Office_keep (T : Txt K mg) : FnOk P w K mg base (L2.CX P w) 1 T.C_Office.P.a T.C_Office.P.fd ["self", "sizes", "moves", "closings"] (spC K mg T.C_Office.C kNames fKeep) := by
  refine T.C_Office.P.F.okX sc_Office_keep (spC_len fKeep_len) fun cdv A outer s H vs Q E hr h => ⟨tKeep K, ?_, keep_read T.C_Office.T rfl h⟩
  exact pss_cons (ps_fld (pv 0) (pv 1) rfl) (pss_cons (ps_fld (pv 0) (pv 2) rfl) (pss_cons (ps_fld (pv 0) (pv 3) rfl) (pss_cons (ps_fld (pv 0) (pe_lst pa_nil) rfl)
    (pss_one (ps_for (passes_of rfl) rfl (pi_tup (pv 2)) (pg_name (i := 4) sc_Office_keep.nd rfl (Or.inl rfl)) (pss_cons (ps_set (i := 5) sc_Office_keep.nd rfl (Or.inl rfl) pe_dnewT)
      (pss_cons (ps_for (passes_of rfl) rfl (pi_tup (pv 4)) (pg_tup rfl (pgs_cons (pg_name (i := 6) sc_Office_keep.nd rfl (Or.inl rfl)) (pgs_cons (pg_name (i := 7) sc_Office_keep.nd rfl (Or.inl rfl)) (pgs_cons (pg_name (i := 8) sc_Office_keep.nd rfl (Or.inl rfl)) (pgs_cons (pg_name (i := 9) sc_Office_keep.nd rfl (Or.inl rfl)) pgs_nil)))))
        (pss_one (ps_expr (pe_bm PySem.F.plainAttrs_list PySem.F.slot_list_append PySem.F.type_list_append mt_append (pe_dsetdT (hu1 hr) (pv 5) (pe_tup (pa_cons (pv 6) (pa_cons (pv 7) (pa_cons (pv 8) pa_nil)))) (pe_lst pa_nil) ⟨rfl, rfl, rfl, rfl⟩) (pa_cons (pv 9) pa_nil)))))
      (pss_one (ps_expr (pe_bm PySem.F.plainAttrs_list PySem.F.slot_list_append PySem.F.type_list_append mt_append (pe_fld (pv 0) rfl) (pa_cons (pv 5) pa_nil)))))))))))
theorem ok_Office_init (T : Txt K mg) : FnOk P w K mg base (L2.CX P w) 5 T.C_Office.I.a T.C_Office.I.fd ["self", "sizes", "moves", "closings"] (spC K mg T.C_Office.C kNames i_Office) := by
  refine T.C_Office.I.F.okX sc_Office_init (spC_len fInit_len) fun cdv A outer s H vs Q E hr h => ⟨tInit K mg T.C_Office.C E (mNot (mTst (mCall r_are_sizes (mL [(mVar 1)])))) (mNot (mTst (mCall r_are_moves (mL [(mVar 1), (mVar 2)])))) (mNot (mTst (mCall r_are_closings (mL [(mVar 1), (mFn fLen [(.v 2)]), (mVar 3)])))) mDead mDead mDead, ?_, init_read (by decide) h⟩
  exact pss_cons (ps_if (st_not (st_val (se_call (ok_are_sizes T) (takes_of rfl rfl rfl rfl) (hr.mono (by decide)) (by rfl) T.f_are_sizes.g T.f_are_sizes.F.kp (bd_are_sizes T) (sl_cons (se_var 1) sl_nil)))) (pss_one ss_never) pss_nil) (pss_cons (ps_if (st_not (st_val (se_call (ok_are_moves T) (takes_of rfl rfl rfl rfl) (hr.mono (by decide)) (by rfl) T.f_are_moves.g T.f_are_moves.F.kp (bd_are_moves T) (sl_cons (se_var 1) (sl_cons (se_var 2) sl_nil))))) (pss_one ss_never) pss_nil) (pss_cons (ps_if (st_not (st_val (se_call (ok_are_closings T) (takes_of rfl rfl rfl rfl) (hr.mono (by decide)) (by rfl) T.f_are_closings.g T.f_are_closings.F.kp (bd_are_closings T) (sl_cons (se_var 1) (sl_cons (se_fnB cr_lenA fd_len (by rfl) T.z_len (by decide +kernel) (sa_cons (se_v 2) sa_nil)) (sl_cons (se_var 3) sl_nil)))))) (pss_one ss_never) pss_nil) (pss_one (ps_expr (pe_meth (pv 0) T.C_Office.T.cl T.C_Office.P.m (ok_Office_keep T) (hr.mono (by decide)) (bd_Office_keep T) .nil (passes_call (takes_of rfl rfl rfl rfl) fun _ _ _ _ h => h) (pa_cons (pv 1) (pa_cons (pv 2) (pa_cons (pv 3) pa_nil))))))))
abbrev N__law_made : List Str := ["_law_parts_here"]
theorem sc__law_made : FnScope N__law_made ["_law_parts_here"] (defScope s__law_made) := ⟨rfl, rfl, rfl, by decide +kernel, rfl, by decide +kernel, by decide +kernel⟩
theorem bd__law_made (T : Txt K mg) : Binds K T.f__law_made.fd ["_law_parts_here"] [] := T.f__law_made.F.binds fun _ _ _ _ _ _ us hl => match us, hl with | [_], _ => rfl
theorem b__law_made (T : Txt K mg) : BodyOk P w K mg base N__law_made "_law_made" s__law_made 6 m__law_made := fun f cdv A outer s H E hr =>
  (ss_one (ss_ret (se_make T.C_Office.M (ok_Office_init T) (takes_of rfl rfl rfl rfl) (hr.mono (by decide)) (by rfl) T.C_Office.g (bd_Office_init T) (sl_cons (se_ix (ix_all (hu1 hr)) od_ix (se_v 0) se_int (fun _ _ => rfl)) (sl_cons (se_ix (ix_all (hu1 hr)) od_ix (se_v 0) se_int (fun _ _ => rfl)) (sl_cons (se_ix (ix_all (hu1 hr)) od_ix (se_v 0) se_int (fun _ _ => rfl)) sl_nil))))))
theorem ok__law_made (T : Txt K mg) : FnOk P w K mg base (L2.CX P w) 7 T.f__law_made.a T.f__law_made.fd ["_law_parts_here"] (spP K mg r__law_made) := by
  rw [r__law_made_df]
  exact fn_P T.f__law_made.F sc__law_made (b__law_made T)
abbrev N__law_meant : List Str := ["_law_meant_here", "_law_day"]
theorem sc__law_meant : FnScope N__law_meant ["_law_meant_here", "_law_day"] (defScope s__law_meant) := ⟨rfl, rfl, rfl, by decide +kernel, rfl, by decide +kernel, by decide +kernel⟩
theorem bd__law_meant (T : Txt K mg) : Binds K T.f__law_meant.fd ["_law_meant_here", "_law_day"] [] := T.f__law_meant.F.binds fun _ _ _ _ _ _ us hl => match us, hl with | [_, _], _ => rfl
theorem b__law_meant (T : Txt K mg) : BodyOk P w K mg base N__law_meant "_law_meant" s__law_meant 0 m__law_meant := fun f cdv A outer s H E hr =>
  (ss_cons (ss_if (st_cmp (op_eqD (hu64 hr)) od_eq (se_m (se_ix (ix_all (hu1 hr)) od_ix (se_v 0) se_int (fun _ _ => rfl))) se_int) (ss_one (ss_ret (se_cmp (op_inA (hu65 hr)) od_in (se_m (se_ix (ix_all (hu1 hr)) od_ix (se_v 0) se_int (fun _ _ => rfl))) (se_m (se_ix (ix_all (hu1 hr)) od_ix (se_v 1) se_int (fun _ _ => rfl)))))) ss_nil) (ss_cons (ss_if (st_cmp (op_eqD (hu64 hr)) od_eq (se_m (se_ix (ix_all (hu1 hr)) od_ix (se_v 0) se_int (fun _ _ => rfl))) se_int) (ss_one (ss_ret (se_cmp (op_eqD (hu64 hr)) od_eq (se_m (se_op op_mod od_mod (se_m (se_fnB cr_lenA fd_len (by rfl) T.z_len (by decide +kernel) (sa_cons (se_m (se_ix (ix_all (hu1 hr)) od_ix (se_v 1) se_int (fun _ _ => rfl))) sa_nil))) (se_m (se_ix (ix_all (hu1 hr)) od_ix (se_v 0) se_int (fun _ _ => rfl))))) (se_m (se_ix (ix_all (hu1 hr)) od_ix (se_v 0) se_int (fun _ _ => rfl)))))) ss_nil) (ss_one (ss_ret (se_cmp (op_eqD (hu64 hr)) od_eq (se_m (se_slice (se_m (se_ix (ix_all (hu1 hr)) od_ix (se_v 1) se_int (fun _ _ => rfl))) (sp_some (se_m (se_un un_neg ud_neg se_int))) sp_none)) (se_m (se_tup (sl_cons (se_ix (ix_all (hu1 hr)) od_ix (se_v 0) se_int (fun _ _ => rfl)) sl_nil))))))))
theorem ok__law_meant (T : Txt K mg) : FnOk P w K mg base (L2.CX P w) 1 T.f__law_meant.a T.f__law_meant.fd ["_law_meant_here", "_law_day"] (spP K mg r__law_meant) := by
  rw [r__law_meant_df]
  exact fn_P T.f__law_meant.F sc__law_meant (b__law_meant T)
abbrev N__law_row : List Str := ["_law_hand_here", "_law_sizes", "_law_many", "_law_goals", "_law_row_here", "_law_turn", "_law_move"]
theorem sc__law_row : FnScope N__law_row ["_law_hand_here", "_law_sizes", "_law_many", "_law_goals"] (defScope s__law_row) := ⟨rfl, rfl, rfl, by decide +kernel, rfl, by decide +kernel, by decide +kernel⟩
theorem bd__law_row (T : Txt K mg) : Binds K T.f__law_row.fd ["_law_hand_here", "_law_sizes", "_law_many", "_law_goals"] [] := T.f__law_row.F.binds fun _ _ _ _ _ _ us hl => match us, hl with | [_, _, _, _], _ => rfl
theorem b__law_row (T : Txt K mg) : BodyOk P w K mg base N__law_row "_law_row" s__law_row 1 m__law_row := fun f cdv A outer s H E hr =>
  (ss_cons (ss_setL (i := 4) sc__law_row.nd rfl (by first | exact Or.inl rfl | exact Or.inr rfl) (so_lst sl_nil)) (ss_cons (ss_for (passes_of rfl) rfl (si_range1 (by rfl) T.z_range (se_v 2)) (pg_name (i := 5) sc__law_row.nd rfl (by first | exact Or.inl rfl | exact Or.inr rfl)) (gd_name 5) (sss_kill (ss_cons (ss_set (i := 6) sc__law_row.nd rfl (by first | exact Or.inl rfl | exact Or.inr rfl) (se_tup (sl_cons (se_callI 0 (ok__law_draw T) (takes_of rfl rfl rfl rfl) (hr.mono (by decide)) (by rfl) T.f__law_draw.g T.f__law_draw.F.kp (bd__law_draw T) (sl_cons (se_ix (ix_all (hu1 hr)) od_ix (se_v 1) se_int (fun _ _ => rfl)) sl_nil)) (sl_cons (se_callI 0 (ok__law_draw T) (takes_of rfl rfl rfl rfl) (hr.mono (by decide)) (by rfl) T.f__law_draw.g T.f__law_draw.F.kp (bd__law_draw T) (sl_cons (se_ix (ix_all (hu1 hr)) od_ix (se_v 1) se_int (fun _ _ => rfl)) sl_nil)) (sl_cons (se_callI 0 (ok__law_draw T) (takes_of rfl rfl rfl rfl) (hr.mono (by decide)) (by rfl) T.f__law_draw.g T.f__law_draw.F.kp (bd__law_draw T) (sl_cons (se_ix (ix_all (hu1 hr)) od_ix (se_v 1) se_int (fun _ _ => rfl)) sl_nil)) (sl_cons (se_callI 0 (ok__law_draw T) (takes_of rfl rfl rfl rfl) (hr.mono (by decide)) (by rfl) T.f__law_draw.g T.f__law_draw.F.kp (bd__law_draw T) (sl_cons (se_var 3) sl_nil)) sl_nil)))))) (ss_one (ss_if (st_cmp (op_notInA (hu65 hr)) od_notIn (se_v 6) (se_v 4)) (ss_one (ss_app 4 (se_var 6) (hp := pe_bm PySem.F.plainAttrs_list PySem.F.slot_list_append PySem.F.type_list_append mt_append (pv 4) (pa_cons (se_var 6) pa_nil)))) ss_nil))))) (ss_one (ss_ret (se_fnT call_tuple_of fd_tuple (by rfl) T.z_tuple (by decide +kernel) (sa_cons (se_m (se_fnB (cr_sortedA rfl (hu81 hr)) fd_sortedA (by rfl) T.z_sorted (by decide +kernel) (sa_cons (se_v 4) sa_nil))) sa_nil))))))
theorem ok__law_row (T : Txt K mg) : FnOk P w K mg base (L2.CX P w) 2 T.f__law_row.a T.f__law_row.fd ["_law_hand_here", "_law_sizes", "_law_many", "_law_goals"] (spI K mg r__law_row) := by
  rw [r__law_row_df]
  exact fn_I T.f__law_row.F sc__law_row (b__law_row T)
abbrev N__law_parts : List Str := ["_law_hand_here", "_law_most", "_law_size", "_law_moves", "_law_sizes", "_law_many", "_law_served", "_law_rows", "_law_closings", "_law_standing", "_law_row_here", "_law_slip", "_law_turn", "_law_mark", "_law_move"]
theorem sc__law_parts : FnScope N__law_parts ["_law_hand_here", "_law_most", "_law_size", "_law_moves"] (defScope s__law_parts) := ⟨rfl, rfl, rfl, by decide +kernel, rfl, by decide +kernel, by decide +kernel⟩
theorem bd__law_parts (T : Txt K mg) : Binds K T.f__law_parts.fd ["_law_hand_here", "_law_most", "_law_size", "_law_moves"] [] := T.f__law_parts.F.binds fun _ _ _ _ _ _ us hl => match us, hl with | [_, _, _, _], _ => rfl
theorem b__law_parts (T : Txt K mg) : BodyOk P w K mg base N__law_parts "_law_parts" s__law_parts 2 m__law_parts := fun f cdv A outer s H E hr =>
  (ss_cons (ss_set (i := 4) sc__law_parts.nd rfl (by first | exact Or.inl rfl | exact Or.inr rfl) (se_fnT call_tuple_of fd_tuple (by rfl) T.z_tuple (by decide +kernel) (sa_cons (se_m (se_frz (so_lcV rfl sc__law_parts.nd (si_range1 (by rfl) T.z_range se_int) (blkOk_by (N := N__law_parts) (sc := defScope s__law_parts) (own := [("_law_turn", 12)]) (by decide +kernel)) (gd_name 12) (by decide) (fun _ _ _ _ _ => (pg_name (i := 12) sc__law_parts.nd rfl (by first | exact Or.inl rfl | exact Or.inr rfl))) (fun _ _ _ _ _ => sts_nil) (fun _ _ _ _ _ => (se_op or_add od_add se_int (se_m (se_callI 0 (ok__law_draw T) takes0 (hr.mono (by decide)) (by rfl) T.f__law_draw.g T.f__law_draw.F.kp (bd__law_draw T) (sl_cons (se_var 2) sl_nil)))))))) sa_nil))) (ss_cons (ss_set (i := 5) sc__law_parts.nd rfl (by first | exact Or.inl rfl | exact Or.inr rfl) (se_op or_add od_add se_int (se_m (se_callI 0 (ok__law_draw T) (takes_of rfl rfl rfl rfl) (hr.mono (by decide)) (by rfl) T.f__law_draw.g T.f__law_draw.F.kp (bd__law_draw T) (sl_cons (se_var 1) sl_nil))))) (ss_cons (ss_set (i := 6) sc__law_parts.nd rfl (by first | exact Or.inl rfl | exact Or.inr rfl) (se_cmp (op_ord ord_gt (hu81 hr)) od_ord (se_m (se_callI 0 (ok__law_draw T) (takes_of rfl rfl rfl rfl) (hr.mono (by decide)) (by rfl) T.f__law_draw.g T.f__law_draw.F.kp (bd__law_draw T) (sl_cons sm_int sl_nil))) se_int)) (ss_cons (ss_setL (i := 7) sc__law_parts.nd rfl (by first | exact Or.inl rfl | exact Or.inr rfl) (so_lst sl_nil)) (ss_cons (ss_setL (i := 8) sc__law_parts.nd rfl (by first | exact Or.inl rfl | exact Or.inr rfl) (so_lst sl_nil)) (ss_cons (ss_for (passes_of rfl) rfl (si_range1 (by rfl) T.z_range (se_v 5)) (pg_name (i := 9) sc__law_parts.nd rfl (by first | exact Or.inl rfl | exact Or.inr rfl)) (gd_name 9) (sss_kill (ss_cons (ss_setL (i := 10) sc__law_parts.nd rfl (by first | exact Or.inl rfl | exact Or.inr rfl) (so_list (by rfl) T.z_list (by decide +kernel) (sa_cons (se_m (se_callI 0 (ok__law_row T) (takes_of rfl rfl rfl rfl) (hr.mono (by decide)) (by rfl) T.f__law_row.g T.f__law_row.F.kp (bd__law_row T) (sl_cons (se_var 4) (sl_cons (se_callI 0 (ok__law_draw T) (takes_of rfl rfl rfl rfl) (hr.mono (by decide)) (by rfl) T.f__law_draw.g T.f__law_draw.F.kp (bd__law_draw T) (sl_cons (se_op or_add od_add (se_v 3) se_int) sl_nil)) (sl_cons (se_var 5) sl_nil))))) sa_nil))) (ss_cons (ss_for (passes_of rfl) rfl (si_range1 (by rfl) T.z_range (se_m (se_ix (ix_all (hu1 hr)) od_ix (se_v 4) se_int (fun _ _ => rfl)))) (pg_name (i := 11) sc__law_parts.nd rfl (by first | exact Or.inl rfl | exact Or.inr rfl)) (gd_name 11) (sss_kill (ss_one (ss_if (st_w (sw_and (st_val (se_var 6)) (sw_and1 (st_cmp (op_eqD (hu64 hr)) od_eq (se_m (se_fnB cr_lenA fd_len (by rfl) T.z_len (by decide +kernel) (sa_cons (se_m (se_frz (so_lcP 10 rfl sc__law_parts.nd rfl (by first | exact Or.inl rfl | exact Or.inr (Or.inl rfl) | exact Or.inr (Or.inr rfl)) (by decide) (by decide) (blkOk_by (N := N__law_parts) (sc := defScope s__law_parts) (own := [("_law_move", 14)]) (by decide +kernel)) (gd_name 14) (by decide) (fun _ _ _ _ _ => (pg_name (i := 14) sc__law_parts.nd rfl (by first | exact Or.inl rfl | exact Or.inr rfl))) (fun _ _ _ _ _ => (sts_one (st_cmp (op_eqD (hu64 hr)) od_eq (se_m (se_ix (ix_all (hu1 hr)) od_ix (se_v 14) se_int (fun _ _ => rfl))) (se_v 11)))) (fun _ _ _ _ _ => (se_var 14))))) sa_nil))) se_int)))) (ss_one (ss_app 10 (se_tup (sl_cons (se_var 11) (sl_cons (se_callI 0 (ok__law_draw T) (takes_of rfl rfl rfl rfl) (hr.mono (by decide)) (by rfl) T.f__law_draw.g T.f__law_draw.F.kp (bd__law_draw T) (sl_cons (se_ix (ix_all (hu1 hr)) od_ix (se_v 4) se_int (fun _ _ => rfl)) sl_nil)) (sl_cons (se_callI 0 (ok__law_draw T) (takes_of rfl rfl rfl rfl) (hr.mono (by decide)) (by rfl) T.f__law_draw.g T.f__law_draw.F.kp (bd__law_draw T) (sl_cons (se_ix (ix_all (hu1 hr)) od_ix (se_v 4) se_int (fun _ _ => rfl)) sl_nil)) (sl_cons (se_callI 0 (ok__law_draw T) (takes_of rfl rfl rfl rfl) (hr.mono (by decide)) (by rfl) T.f__law_draw.g T.f__law_draw.F.kp (bd__law_draw T) (sl_cons (se_var 5) sl_nil)) sl_nil))))) (hp := pe_bm PySem.F.plainAttrs_list PySem.F.slot_list_append PySem.F.type_list_append mt_append (pv 10) (pa_cons (se_tup (sl_cons (se_var 11) (sl_cons (se_callI 0 (ok__law_draw T) (takes_of rfl rfl rfl rfl) (hr.mono (by decide)) (by rfl) T.f__law_draw.g T.f__law_draw.F.kp (bd__law_draw T) (sl_cons (se_ix (ix_all (hu1 hr)) od_ix (se_v 4) se_int (fun _ _ => rfl)) sl_nil)) (sl_cons (se_callI 0 (ok__law_draw T) (takes_of rfl rfl rfl rfl) (hr.mono (by decide)) (by rfl) T.f__law_draw.g T.f__law_draw.F.kp (bd__law_draw T) (sl_cons (se_ix (ix_all (hu1 hr)) od_ix (se_v 4) se_int (fun _ _ => rfl)) sl_nil)) (sl_cons (se_callI 0 (ok__law_draw T) (takes_of rfl rfl rfl rfl) (hr.mono (by decide)) (by rfl) T.f__law_draw.g T.f__law_draw.F.kp (bd__law_draw T) (sl_cons (se_var 5) sl_nil)) sl_nil))))) pa_nil)))) ss_nil)))) (ss_cons (ss_app 7 (se_fnT call_tuple_of fd_tuple (by rfl) T.z_tuple (by decide +kernel) (sa_cons (se_m (se_fnB (cr_sortedA rfl (hu81 hr)) fd_sortedA (by rfl) T.z_sorted (by decide +kernel) (sa_cons (se_v 10) sa_nil))) sa_nil)) (hp := pe_bm PySem.F.plainAttrs_list PySem.F.slot_list_append PySem.F.type_list_append mt_append (pv 7) (pa_cons (se_fnT call_tuple_of fd_tuple (by rfl) T.z_tuple (by decide +kernel) (sa_cons (se_m (se_fnB (cr_sortedA rfl (hu81 hr)) fd_sortedA (by rfl) T.z_sorted (by decide +kernel) (sa_cons (se_v 10) sa_nil))) sa_nil)) pa_nil))) (ss_one (ss_app 8 (se_fnT call_tuple_of fd_tuple (by rfl) T.z_tuple (by decide +kernel) (sa_cons (se_m (se_frz (so_lcV rfl sc__law_parts.nd (si_range1 (by rfl) T.z_range (se_m (se_ix (ix_all (hu1 hr)) od_ix (se_v 4) se_int (fun _ _ => rfl)))) (blkOk_by (N := N__law_parts) (sc := defScope s__law_parts) (own := [("_law_mark", 13)]) (by decide +kernel)) (gd_name 13) (by decide) (fun _ _ _ _ _ => (pg_name (i := 13) sc__law_parts.nd rfl (by first | exact Or.inl rfl | exact Or.inr rfl))) (fun _ _ _ _ _ => (sts_one (st_cmp (op_ord ord_gt (hu81 hr)) od_ord (se_m (se_callI 0 (ok__law_draw T) takes0 (hr.mono (by decide)) (by rfl) T.f__law_draw.g T.f__law_draw.F.kp (bd__law_draw T) (sl_cons sm_int sl_nil))) se_int))) (fun _ _ _ _ _ => (se_var 13))))) sa_nil)) (hp := pe_bm PySem.F.plainAttrs_list PySem.F.slot_list_append PySem.F.type_list_append mt_append (pv 8) (pa_cons (se_fnT call_tuple_of fd_tuple (by rfl) T.z_tuple (by decide +kernel) (sa_cons (se_m (se_frz (so_lcV rfl sc__law_parts.nd (si_range1 (by rfl) T.z_range (se_m (se_ix (ix_all (hu1 hr)) od_ix (se_v 4) se_int (fun _ _ => rfl)))) (blkOk_by (N := N__law_parts) (sc := defScope s__law_parts) (own := [("_law_mark", 13)]) (by decide +kernel)) (gd_name 13) (by decide) (fun _ _ _ _ _ => (pg_name (i := 13) sc__law_parts.nd rfl (by first | exact Or.inl rfl | exact Or.inr rfl))) (fun _ _ _ _ _ => (sts_one (st_cmp (op_ord ord_gt (hu81 hr)) od_ord (se_m (se_callI 0 (ok__law_draw T) takes0 (hr.mono (by decide)) (by rfl) T.f__law_draw.g T.f__law_draw.F.kp (bd__law_draw T) (sl_cons sm_int sl_nil))) se_int))) (fun _ _ _ _ _ => (se_var 13))))) sa_nil)) pa_nil))))))))) (ss_one (ss_ret (se_tup (sl_cons (se_var 4) (sl_cons (se_fnT call_tuple_of fd_tuple (by rfl) T.z_tuple (by decide +kernel) (sa_cons (se_v 7) sa_nil)) (sl_cons (se_fnT call_tuple_of fd_tuple (by rfl) T.z_tuple (by decide +kernel) (sa_cons (se_v 8) sa_nil)) sl_nil))))))))))))
theorem ok__law_parts (T : Txt K mg) : FnOk P w K mg base (L2.CX P w) 3 T.f__law_parts.a T.f__law_parts.fd ["_law_hand_here", "_law_most", "_law_size", "_law_moves"] (spI K mg r__law_parts) := by
  rw [r__law_parts_df]
  exact fn_I T.f__law_parts.F sc__law_parts (b__law_parts T)
abbrev N__law_walk : List Str := ["_law_hand_here", "_law_parts_here", "_law_many", "_law_at", "_law_steps", "_law_turn", "_law_lasts", "_law_move"]
theorem sc__law_walk : FnScope N__law_walk ["_law_hand_here", "_law_parts_here", "_law_many"] (defScope s__law_walk) := ⟨rfl, rfl, rfl, by decide +kernel, rfl, by decide +kernel, by decide +kernel⟩
theorem bd__law_walk (T : Txt K mg) : Binds K T.f__law_walk.fd ["_law_hand_here", "_law_parts_here", "_law_many"] [] := T.f__law_walk.F.binds fun _ _ _ _ _ _ us hl => match us, hl with | [_, _, _], _ => rfl
theorem b__law_walk (T : Txt K mg) : BodyOk P w K mg base N__law_walk "_law_walk" s__law_walk 1 m__law_walk := fun f cdv A outer s H E hr =>
  (ss_cons (ss_set (i := 3) sc__law_walk.nd rfl (by first | exact Or.inl rfl | exact Or.inr rfl) sm_int) (ss_cons (ss_set (i := 4) sc__law_walk.nd rfl (by first | exact Or.inl rfl | exact Or.inr rfl) (se_tup sl_nil)) (ss_cons (ss_for (passes_of rfl) rfl (si_range1 (by rfl) T.z_range (se_v 2)) (pg_name (i := 5) sc__law_walk.nd rfl (by first | exact Or.inl rfl | exact Or.inr rfl)) (gd_name 5) (sss_kill (ss_one (ss_if (st_cmp (op_ord ord_gt (hu81 hr)) od_ord (se_m (se_fnB cr_lenA fd_len (by rfl) T.z_len (by decide +kernel) (sa_cons (se_m (se_ix (ix_all (hu1 hr)) od_ix (se_m (se_ix (ix_all (hu1 hr)) od_ix (se_v 1) se_int (fun _ _ => rfl))) (se_v 3) (fun _ _ => rfl))) sa_nil))) se_int) (ss_cons (ss_set (i := 7) sc__law_walk.nd rfl (by first | exact Or.inl rfl | exact Or.inr rfl) (se_ix (ix_all (hu1 hr)) od_ix (se_m (se_ix (ix_all (hu1 hr)) od_ix (se_m (se_ix (ix_all (hu1 hr)) od_ix (se_v 1) se_int (fun _ _ => rfl))) (se_v 3) (fun _ _ => rfl))) (se_m (se_callI 0 (ok__law_draw T) (takes_of rfl rfl rfl rfl) (hr.mono (by decide)) (by rfl) T.f__law_draw.g T.f__law_draw.F.kp (bd__law_draw T) (sl_cons (se_fnB cr_lenA fd_len (by rfl) T.z_len (by decide +kernel) (sa_cons (se_m (se_ix (ix_all (hu1 hr)) od_ix (se_m (se_ix (ix_all (hu1 hr)) od_ix (se_v 1) se_int (fun _ _ => rfl))) (se_v 3) (fun _ _ => rfl))) sa_nil)) sl_nil))) (fun _ _ => rfl))) (ss_cons (ss_set (i := 4) sc__law_walk.nd rfl (by first | exact Or.inl rfl | exact Or.inr rfl) (se_op or_add od_add (se_v 4) (se_m (se_tup (sl_cons (se_slice (se_v 7) sp_none (sp_some se_int)) sl_nil))))) (ss_one (ss_set (i := 3) sc__law_walk.nd rfl (by first | exact Or.inl rfl | exact Or.inr rfl) (se_ix (ix_all (hu1 hr)) od_ix (se_v 7) se_int (fun _ _ => rfl)))))) ss_nil)))) (ss_cons (ss_set (i := 6) sc__law_walk.nd rfl (by first | exact Or.inl rfl | exact Or.inr rfl) (se_ife (st_cmp (op_ord ord_gt (hu81 hr)) od_ord (se_m (se_fnB cr_lenA fd_len (by rfl) T.z_len (by decide +kernel) (sa_cons (se_m (se_ix (ix_all (hu1 hr)) od_ix (se_m (se_ix (ix_all (hu1 hr)) od_ix (se_v 1) se_int (fun _ _ => rfl))) (se_v 3) (fun _ _ => rfl))) sa_nil))) se_int) (se_ix (ix_all (hu1 hr)) od_ix (se_m (se_ix (ix_all (hu1 hr)) od_ix (se_v 1) se_int (fun _ _ => rfl))) (se_v 3) (fun _ _ => rfl)) (se_tup (sl_cons sm_int sl_nil)))) (ss_one (ss_ret (se_tup (sl_cons (se_var 4) (sl_cons (se_ix (ix_all (hu1 hr)) od_ix (se_v 6) (se_m (se_callI 0 (ok__law_draw T) (takes_of rfl rfl rfl rfl) (hr.mono (by decide)) (by rfl) T.f__law_draw.g T.f__law_draw.F.kp (bd__law_draw T) (sl_cons (se_fnB cr_lenA fd_len (by rfl) T.z_len (by decide +kernel) (sa_cons (se_v 6) sa_nil)) sl_nil))) (fun _ _ => rfl)) sl_nil)))))))))
theorem ok__law_walk (T : Txt K mg) : FnOk P w K mg base (L2.CX P w) 2 T.f__law_walk.a T.f__law_walk.fd ["_law_hand_here", "_law_parts_here", "_law_many"] (spI K mg r__law_walk) := by
  rw [r__law_walk_df]
  exact fn_I T.f__law_walk.F sc__law_walk (b__law_walk T)
abbrev N_is_mark : List Str := ["office", "thing"]
theorem sc_is_mark : FnScope N_is_mark ["office", "thing"] (defScope s_is_mark) := ⟨rfl, rfl, rfl, by decide +kernel, rfl, by decide +kernel, by decide +kernel⟩
theorem bd_is_mark (T : Txt K mg) : Binds K T.f_is_mark.fd ["office", "thing"] [] := T.f_is_mark.F.binds fun _ _ _ _ _ _ us hl => match us, hl with | [_, _], _ => rfl
theorem b_is_mark (T : Txt K mg) : BodyOk P w K mg base N_is_mark "is_mark" s_is_mark 2 m_is_mark := fun f cdv A outer s H E hr =>
  (ss_one (ss_ret (se_call (ok_is_within T) (takes_of rfl rfl rfl rfl) (hr.mono (by decide)) (by rfl) T.f_is_within.g T.f_is_within.F.kp (bd_is_within T) (sl_cons (se_var 1) (sl_cons sm_int (sl_cons (se_op op_sub od_sub (se_m (se_ix (ix_all (hu1 hr)) od_ix (se_m (se_fld (fl_sizes T) (se_v 0))) se_int (fun _ _ => rfl))) se_int) sl_nil))))))
theorem ok_is_mark (T : Txt K mg) : FnOk P w K mg base (L2.CX P w) 3 T.f_is_mark.a T.f_is_mark.fd ["office", "thing"] (spP K mg r_is_mark) := by
  rw [r_is_mark_df]
  exact fn_P T.f_is_mark.F sc_is_mark (b_is_mark T)
abbrev N_is_pair : List Str := ["thing"]
theorem sc_is_pair : FnScope N_is_pair ["thing"] (defScope s_is_pair) := ⟨rfl, rfl, rfl, by decide +kernel, rfl, by decide +kernel, by decide +kernel⟩
theorem bd_is_pair (T : Txt K mg) : Binds K T.f_is_pair.fd ["thing"] [] := T.f_is_pair.F.binds fun _ _ _ _ _ _ us hl => match us, hl with | [_], _ => rfl
theorem b_is_pair (T : Txt K mg) : BodyOk P w K mg base N_is_pair "is_pair" s_is_pair 0 m_is_pair := fun f cdv A outer s H E hr =>
  (ss_one (ss_ret (se_and (se_fnB call_isi (fd_isTy T.isi) (by rfl) T.z_isinstance boot_isinstance (sa_cons (se_v 0) (sa_cons (se_ty (by rfl) T.z_tuple (by decide +kernel)) sa_nil))) (se_one (se_cmp (op_eqD (hu64 hr)) od_eq (se_m (se_fnB cr_lenA fd_len (by rfl) T.z_len (by decide +kernel) (sa_cons (se_v 0) sa_nil))) se_int)))))
theorem ok_is_pair (T : Txt K mg) : FnOk P w K mg base (L2.CX P w) 1 T.f_is_pair.a T.f_is_pair.fd ["thing"] (spP K mg r_is_pair) := by
  rw [r_is_pair_df]
  exact fn_P T.f_is_pair.F sc_is_pair (b_is_pair T)
abbrev N_is_note : List Str := ["office", "thing"]
theorem sc_is_note : FnScope N_is_note ["office", "thing"] (defScope s_is_note) := ⟨rfl, rfl, rfl, by decide +kernel, rfl, by decide +kernel, by decide +kernel⟩
theorem bd_is_note (T : Txt K mg) : Binds K T.f_is_note.fd ["office", "thing"] [] := T.f_is_note.F.binds fun _ _ _ _ _ _ us hl => match us, hl with | [_, _], _ => rfl
theorem b_is_note (T : Txt K mg) : BodyOk P w K mg base N_is_note "is_note" s_is_note 2 m_is_note := fun f cdv A outer s H E hr =>
  (ss_cons (ss_if (st_w (sw_or (st_not (st_val (se_call (ok_is_pair T) (takes_of rfl rfl rfl rfl) (hr.mono (by decide)) (by rfl) T.f_is_pair.g T.f_is_pair.F.kp (bd_is_pair T) (sl_cons (se_var 1) sl_nil)))) (sw_or1 (st_not (st_val (se_call (ok_is_within T) (takes_of rfl rfl rfl rfl) (hr.mono (by decide)) (by rfl) T.f_is_within.g T.f_is_within.F.kp (bd_is_within T) (sl_cons (se_ix (ix_all (hu1 hr)) od_ix (se_v 1) se_int (fun _ _ => rfl)) (sl_cons sm_int (sl_cons (se_op op_sub od_sub (se_m (se_ix (ix_all (hu1 hr)) od_ix (se_m (se_fld (fl_sizes T) (se_v 0))) se_int (fun _ _ => rfl))) se_int) sl_nil))))))))) (ss_one (ss_ret sm_bl)) ss_nil) (ss_one (ss_ret (se_call (ok_is_within T) (takes_of rfl rfl rfl rfl) (hr.mono (by decide)) (by rfl) T.f_is_within.g T.f_is_within.F.kp (bd_is_within T) (sl_cons (se_ix (ix_all (hu1 hr)) od_ix (se_v 1) se_int (fun _ _ => rfl)) (sl_cons sm_int (sl_cons (se_op op_sub od_sub (se_m (se_ix (ix_all (hu1 hr)) od_ix (se_m (se_fld (fl_sizes T) (se_v 0))) se_int (fun _ _ => rfl))) se_int) sl_nil)))))))
theorem ok_is_note (T : Txt K mg) : FnOk P w K mg base (L2.CX P w) 3 T.f_is_note.a T.f_is_note.fd ["office", "thing"] (spP K mg r_is_note) := by
  rw [r_is_note_df]
  exact fn_P T.f_is_note.F sc_is_note (b_is_note T)
abbrev N_is_step : List Str := ["office", "thing"]
theorem sc_is_step : FnScope N_is_step ["office", "thing"] (defScope s_is_step) := ⟨rfl, rfl, rfl, by decide +kernel, rfl, by decide +kernel, by decide +kernel⟩
theorem bd_is_step (T : Txt K mg) : Binds K T.f_is_step.fd ["office", "thing"] [] := T.f_is_step.F.binds fun _ _ _ _ _ _ us hl => match us, hl with | [_, _], _ => rfl
theorem b_is_step (T : Txt K mg) : BodyOk P w K mg base N_is_step "is_step" s_is_step 3 m_is_step := fun f cdv A outer s H E hr =>
  (ss_one (ss_ret (se_and (se_call (ok_is_triple T) (takes_of rfl rfl rfl rfl) (hr.mono (by decide)) (by rfl) T.f_is_triple.g T.f_is_triple.F.kp (bd_is_triple T) (sl_cons (se_var 1) sl_nil)) (se_and (se_call (ok_is_note T) (takes_of rfl rfl rfl rfl) (hr.mono (by decide)) (by rfl) T.f_is_note.g T.f_is_note.F.kp (bd_is_note T) (sl_cons (se_var 0) (sl_cons (se_slice (se_v 1) sp_none (sp_some se_int)) sl_nil))) (se_one (se_call (ok_is_mark T) (takes_of rfl rfl rfl rfl) (hr.mono (by decide)) (by rfl) T.f_is_mark.g T.f_is_mark.F.kp (bd_is_mark T) (sl_cons (se_var 0) (sl_cons (se_ix (ix_all (hu1 hr)) od_ix (se_v 1) se_int (fun _ _ => rfl)) sl_nil))))))))
theorem ok_is_step (T : Txt K mg) : FnOk P w K mg base (L2.CX P w) 4 T.f_is_step.a T.f_is_step.fd ["office", "thing"] (spP K mg r_is_step) := by
  rw [r_is_step_df]
  exact fn_P T.f_is_step.F sc_is_step (b_is_step T)
abbrev N_are_steps : List Str := ["office", "thing", "step"]
theorem sc_are_steps : FnScope N_are_steps ["office", "thing"] (defScope s_are_steps) := ⟨rfl, rfl, rfl, by decide +kernel, rfl, by decide +kernel, by decide +kernel⟩
theorem bd_are_steps (T : Txt K mg) : Binds K T.f_are_steps.fd ["office", "thing"] [] := T.f_are_steps.F.binds fun _ _ _ _ _ _ us hl => match us, hl with | [_, _], _ => rfl
theorem b_are_steps (T : Txt K mg) : BodyOk P w K mg base N_are_steps "are_steps" s_are_steps 4 m_are_steps := fun f cdv A outer s H E hr =>
  (ss_one (ss_ret (se_and (se_fnB call_isi (fd_isTy T.isi) (by rfl) T.z_isinstance boot_isinstance (sa_cons (se_v 1) (sa_cons (se_ty (by rfl) T.z_tuple (by decide +kernel)) sa_nil))) (se_one (se_fnB (cr_all rfl) fd_all (by rfl) T.z_all (by decide +kernel) (sa_cons (se_m (se_frz (so_lcV rfl sc_are_steps.nd (si_items (se_var 1)) (blkOk_by (N := N_are_steps) (sc := defScope s_are_steps) (own := [("step", 2)]) (by decide +kernel)) (gd_name 2) (by decide) (fun _ _ _ _ _ => (pg_name (i := 2) sc_are_steps.nd rfl (by first | exact Or.inl rfl | exact Or.inr rfl))) (fun _ _ _ _ _ => sts_nil) (fun _ _ _ _ _ => (se_call (ok_is_step T) takes0 (hr.mono (by decide)) (by rfl) T.f_is_step.g T.f_is_step.F.kp (bd_is_step T) (sl_cons (se_var 0) (sl_cons (se_var 2) sl_nil))))))) sa_nil))))))
theorem ok_are_steps (T : Txt K mg) : FnOk P w K mg base (L2.CX P w) 5 T.f_are_steps.a T.f_are_steps.fd ["office", "thing"] (spP K mg r_are_steps) := by
  rw [r_are_steps_df]
  exact fn_P T.f_are_steps.F sc_are_steps (b_are_steps T)
abbrev N_is_day : List Str := ["office", "thing"]
theorem sc_is_day : FnScope N_is_day ["office", "thing"] (defScope s_is_day) := ⟨rfl, rfl, rfl, by decide +kernel, rfl, by decide +kernel, by decide +kernel⟩
theorem bd_is_day (T : Txt K mg) : Binds K T.f_is_day.fd ["office", "thing"] [] := T.f_is_day.F.binds fun _ _ _ _ _ _ us hl => match us, hl with | [_, _], _ => rfl
theorem b_is_day (T : Txt K mg) : BodyOk P w K mg base N_is_day "is_day" s_is_day 5 m_is_day := fun f cdv A outer s H E hr =>
  (ss_one (ss_ret (se_and (se_call (ok_is_pair T) (takes_of rfl rfl rfl rfl) (hr.mono (by decide)) (by rfl) T.f_is_pair.g T.f_is_pair.F.kp (bd_is_pair T) (sl_cons (se_var 1) sl_nil)) (se_and (se_call (ok_are_steps T) (takes_of rfl rfl rfl rfl) (hr.mono (by decide)) (by rfl) T.f_are_steps.g T.f_are_steps.F.kp (bd_are_steps T) (sl_cons (se_var 0) (sl_cons (se_ix (ix_all (hu1 hr)) od_ix (se_v 1) se_int (fun _ _ => rfl)) sl_nil))) (se_one (se_call (ok_is_mark T) (takes_of rfl rfl rfl rfl) (hr.mono (by decide)) (by rfl) T.f_is_mark.g T.f_is_mark.F.kp (bd_is_mark T) (sl_cons (se_var 0) (sl_cons (se_ix (ix_all (hu1 hr)) od_ix (se_v 1) se_int (fun _ _ => rfl)) sl_nil))))))))
theorem ok_is_day (T : Txt K mg) : FnOk P w K mg base (L2.CX P w) 6 T.f_is_day.a T.f_is_day.fd ["office", "thing"] (spP K mg r_is_day) := by
  rw [r_is_day_df]
  exact fn_P T.f_is_day.F sc_is_day (b_is_day T)
abbrev N_check_day : List Str := ["office", "thing"]
theorem sc_check_day : FnScope N_check_day ["office", "thing"] (defScope s_check_day) := ⟨rfl, rfl, rfl, by decide +kernel, rfl, by decide +kernel, by decide +kernel⟩
theorem bd_check_day (T : Txt K mg) : Binds K T.f_check_day.fd ["office", "thing"] [] := T.f_check_day.F.binds fun _ _ _ _ _ _ us hl => match us, hl with | [_, _], _ => rfl
theorem b_check_day (T : Txt K mg) : BodyOk P w K mg base N_check_day "check_day" s_check_day 6 m_check_day := fun f cdv A outer s H E hr =>
  (ss_one (ss_if (st_not (st_val (se_call (ok_is_day T) (takes_of rfl rfl rfl rfl) (hr.mono (by decide)) (by rfl) T.f_is_day.g T.f_is_day.F.kp (bd_is_day T) (sl_cons (se_var 0) (sl_cons (se_var 1) sl_nil))))) (ss_one (ss_raise0 rfl (takes_of rfl rfl rfl rfl) PySem.F.excBase_ValueError T.x_NoDay.q T.x_NoDay.g T.x_NoDay.kp T.x_NoDay.h1 T.x_NoDay.h2 (by rfl))) ss_nil))
theorem ok_check_day (T : Txt K mg) : FnOk P w K mg base (L2.CX P w) 7 T.f_check_day.a T.f_check_day.fd ["office", "thing"] (spP K mg r_check_day) := by
  rw [r_check_day_df]
  exact fn_P T.f_check_day.F sc_check_day (b_check_day T)
abbrev N_all_steps : List Str := ["office", "slips", "answers", "marks", "notes_here", "slip", "answer", "note", "mark"]
theorem sc_all_steps : FnScope N_all_steps ["office"] (defScope s_all_steps) := ⟨rfl, rfl, rfl, by decide +kernel, rfl, by decide +kernel, by decide +kernel⟩
theorem bd_all_steps (T : Txt K mg) : Binds K T.f_all_steps.fd ["office"] [] := T.f_all_steps.F.binds fun _ _ _ _ _ _ us hl => match us, hl with | [_], _ => rfl
theorem b_all_steps (T : Txt K mg) : BodyOk P w K mg base N_all_steps "all_steps" s_all_steps 0 m_all_steps := fun f cdv A outer s H E hr =>
  (ss_cons (ss_asgT (se_fld (fl_sizes T) (se_v 0)) (pg_tup rfl (pgs_cons (pg_name (i := 1) sc_all_steps.nd rfl (by first | exact Or.inl rfl | exact Or.inr rfl)) (pgs_cons (pg_name (i := 2) sc_all_steps.nd rfl (by first | exact Or.inl rfl | exact Or.inr rfl)) (pgs_cons (pg_name (i := 3) sc_all_steps.nd rfl (by first | exact Or.inl rfl | exact Or.inr rfl)) pgs_nil)))) (gd_tup (gds_cons (gd_name 1) (gds_cons (gd_name 2) (gds_cons (gd_name 3) gds_nil))))) (ss_cons (ss_setLc2 (i := 4) rfl sc_all_steps.nd rfl rfl (sw_true rfl rfl rfl (by decide +kernel)) (si_range1 (by rfl) T.z_range (se_v 1)) (blkOk_by (N := N_all_steps) (sc := defScope s_all_steps) (own := [("slip", 5), ("answer", 6)]) (by decide +kernel)) (by decide) (gd_name 5) (by decide) (gd_name 6) (by decide) (fun _ _ _ _ _ => (pg_name (i := 5) sc_all_steps.nd rfl (by first | exact Or.inl rfl | exact Or.inr rfl))) (fun _ _ _ _ _ => sts_nil) (fun _ _ _ _ _ => (si_range1 (by rfl) T.z_range (se_v 2))) (fun _ _ _ _ _ => (pg_name (i := 6) sc_all_steps.nd rfl (by first | exact Or.inl rfl | exact Or.inr rfl))) (fun _ _ _ _ _ => sts_nil) (fun _ _ _ _ _ => (se_tup (sl_cons (se_var 5) (sl_cons (se_var 6) sl_nil))))) (ss_one (ss_ret (se_frz (so_lc2 rfl sc_all_steps.nd (si_items (se_var 4)) (blkOk_by (N := N_all_steps) (sc := defScope s_all_steps) (own := [("note", 7), ("mark", 8)]) (by decide +kernel)) (by decide) (gd_name 7) (by decide) (gd_name 8) (by decide) (fun _ _ _ _ _ => (pg_name (i := 7) sc_all_steps.nd rfl (by first | exact Or.inl rfl | exact Or.inr rfl))) (fun _ _ _ _ _ => sts_nil) (fun _ _ _ _ _ => (si_range1 (by rfl) T.z_range (se_v 3))) (fun _ _ _ _ _ => (pg_name (i := 8) sc_all_steps.nd rfl (by first | exact Or.inl rfl | exact Or.inr rfl))) (fun _ _ _ _ _ => sts_nil) (fun _ _ _ _ _ => (se_op or_add od_add (se_v 7) (se_m (se_tup (sl_cons (se_var 8) sl_nil)))))))))))
theorem ok_all_steps (T : Txt K mg) : FnOk P w K mg base (L2.CX P w) 1 T.f_all_steps.a T.f_all_steps.fd ["office"] (spP K mg r_all_steps) := by
  rw [r_all_steps_df]
  exact fn_P T.f_all_steps.F sc_all_steps (b_all_steps T)
abbrev N_are_states : List Str := ["thing", "many", "state"]
theorem sc_are_states : FnScope N_are_states ["thing", "many"] (defScope s_are_states) := ⟨rfl, rfl, rfl, by decide +kernel, rfl, by decide +kernel, by decide +kernel⟩
theorem bd_are_states (T : Txt K mg) : Binds K T.f_are_states.fd ["thing", "many"] [] := T.f_are_states.F.binds fun _ _ _ _ _ _ us hl => match us, hl with | [_, _], _ => rfl
theorem b_are_states (T : Txt K mg) : BodyOk P w K mg base N_are_states "are_states" s_are_states 2 m_are_states := fun f cdv A outer s H E hr =>
  (ss_one (ss_ret (se_and (se_fnB call_isi (fd_isTy T.isi) (by rfl) T.z_isinstance boot_isinstance (sa_cons (se_v 0) (sa_cons (se_ty (by rfl) T.z_tuple (by decide +kernel)) sa_nil))) (se_one (se_fnB (cr_all rfl) fd_all (by rfl) T.z_all (by decide +kernel) (sa_cons (se_m (se_frz (so_lcV rfl sc_are_states.nd (si_items (se_var 0)) (blkOk_by (N := N_are_states) (sc := defScope s_are_states) (own := [("state", 2)]) (by decide +kernel)) (gd_name 2) (by decide) (fun _ _ _ _ _ => (pg_name (i := 2) sc_are_states.nd rfl (by first | exact Or.inl rfl | exact Or.inr rfl))) (fun _ _ _ _ _ => sts_nil) (fun _ _ _ _ _ => (se_call (ok_is_within T) takes0 (hr.mono (by decide)) (by rfl) T.f_is_within.g T.f_is_within.F.kp (bd_is_within T) (sl_cons (se_var 2) (sl_cons sm_int (sl_cons (se_op op_sub od_sub (se_v 1) se_int) sl_nil)))))))) sa_nil))))))
theorem ok_are_states (T : Txt K mg) : FnOk P w K mg base (L2.CX P w) 3 T.f_are_states.a T.f_are_states.fd ["thing", "many"] (spP K mg r_are_states) := by
  rw [r_are_states_df]
  exact fn_P T.f_are_states.F sc_are_states (b_are_states T)
abbrev N_is_fact : List Str := ["office", "thing", "many", "size", "row"]
theorem sc_is_fact : FnScope N_is_fact ["office", "thing"] (defScope s_is_fact) := ⟨rfl, rfl, rfl, by decide +kernel, rfl, by decide +kernel, by decide +kernel⟩
theorem bd_is_fact (T : Txt K mg) : Binds K T.f_is_fact.fd ["office", "thing"] [] := T.f_is_fact.F.binds fun _ _ _ _ _ _ us hl => match us, hl with | [_, _], _ => rfl
theorem b_is_fact (T : Txt K mg) : BodyOk P w K mg base N_is_fact "is_fact" s_is_fact 3 m_is_fact := fun f cdv A outer s H E hr =>
  (ss_cons (ss_if (st_w (sw_or (st_not (st_val (se_call (ok_is_pair T) (takes_of rfl rfl rfl rfl) (hr.mono (by decide)) (by rfl) T.f_is_pair.g T.f_is_pair.F.kp (bd_is_pair T) (sl_cons (se_var 1) sl_nil)))) (sw_or (st_not (st_val (se_fnB call_isi (fd_isTy T.isi) (by rfl) T.z_isinstance boot_isinstance (sa_cons (se_m (se_ix (ix_all (hu1 hr)) od_ix (se_v 1) se_int (fun _ _ => rfl))) (sa_cons (se_ty (by rfl) T.z_tuple (by decide +kernel)) sa_nil))))) (sw_or1 (st_not (st_chain (op_ord ord_le (hu81 hr)) od_ord (op_ord ord_le (hu81 hr)) od_ord se_int (se_m (se_fnB cr_lenA fd_len (by rfl) T.z_len (by decide +kernel) (sa_cons (se_m (se_ix (ix_all (hu1 hr)) od_ix (se_v 1) se_int (fun _ _ => rfl))) sa_nil))) (se_gi (by rfl) T.c_MOST_STATES))))))) (ss_one (ss_ret sm_bl)) ss_nil) (ss_cons (ss_set (i := 2) sc_is_fact.nd rfl (by first | exact Or.inl rfl | exact Or.inr rfl) (se_fnB cr_lenA fd_len (by rfl) T.z_len (by decide +kernel) (sa_cons (se_m (se_ix (ix_all (hu1 hr)) od_ix (se_v 1) se_int (fun _ _ => rfl))) sa_nil))) (ss_cons (ss_set (i := 3) sc_is_fact.nd rfl (by first | exact Or.inl rfl | exact Or.inr rfl) (se_fnB cr_lenA fd_len (by rfl) T.z_len (by decide +kernel) (sa_cons (se_m (se_call (ok_all_steps T) (takes_of rfl rfl rfl rfl) (hr.mono (by decide)) (by rfl) T.f_all_steps.g T.f_all_steps.F.kp (bd_all_steps T) (sl_cons (se_var 0) sl_nil))) sa_nil))) (ss_cons (ss_if (st_not (st_val (se_fnB (cr_all rfl) fd_all (by rfl) T.z_all (by decide +kernel) (sa_cons (se_m (se_frz (so_lcV rfl sc_is_fact.nd (si_items (se_ix (ix_all (hu1 hr)) od_ix (se_v 1) se_int (fun _ _ => rfl))) (blkOk_by (N := N_is_fact) (sc := defScope s_is_fact) (own := [("row", 4)]) (by decide +kernel)) (gd_name 4) (by decide) (fun _ _ _ _ _ => (pg_name (i := 4) sc_is_fact.nd rfl (by first | exact Or.inl rfl | exact Or.inr rfl))) (fun _ _ _ _ _ => sts_nil) (fun _ _ _ _ _ => (se_and (se_call (ok_are_states T) takes0 (hr.mono (by decide)) (by rfl) T.f_are_states.g T.f_are_states.F.kp (bd_are_states T) (sl_cons (se_var 4) (sl_cons (se_var 2) sl_nil))) (se_one (se_cmp (op_eqD (hu64 hr)) od_eq (se_m (se_fnB cr_lenA fd_len (by rfl) T.z_len (by decide +kernel) (sa_cons (se_v 4) sa_nil))) (se_v 3)))))))) sa_nil)))) (ss_one (ss_ret sm_bl)) ss_nil) (ss_one (ss_ret (se_and (se_call (ok_are_states T) (takes_of rfl rfl rfl rfl) (hr.mono (by decide)) (by rfl) T.f_are_states.g T.f_are_states.F.kp (bd_are_states T) (sl_cons (se_ix (ix_all (hu1 hr)) od_ix (se_v 1) se_int (fun _ _ => rfl)) (sl_cons (se_var 2) sl_nil))) (se_one (se_call (ok_are_ascending T) (takes_of rfl rfl rfl rfl) (hr.mono (by decide)) (by rfl) T.f_are_ascending.g T.f_are_ascending.F.kp (bd_are_ascending T) (sl_cons (se_ix (ix_all (hu1 hr)) od_ix (se_v 1) se_int (fun _ _ => rfl)) sl_nil))))))))))
theorem ok_is_fact (T : Txt K mg) : FnOk P w K mg base (L2.CX P w) 4 T.f_is_fact.a T.f_is_fact.fd ["office", "thing"] (spP K mg r_is_fact) := by
  rw [r_is_fact_df]
  exact fn_P T.f_is_fact.F sc_is_fact (b_is_fact T)
abbrev N_check_fact : List Str := ["office", "thing"]
theorem sc_check_fact : FnScope N_check_fact ["office", "thing"] (defScope s_check_fact) := ⟨rfl, rfl, rfl, by decide +kernel, rfl, by decide +kernel, by decide +kernel⟩
theorem bd_check_fact (T : Txt K mg) : Binds K T.f_check_fact.fd ["office", "thing"] [] := T.f_check_fact.F.binds fun _ _ _ _ _ _ us hl => match us, hl with | [_, _], _ => rfl
theorem b_check_fact (T : Txt K mg) : BodyOk P w K mg base N_check_fact "check_fact" s_check_fact 4 m_check_fact := fun f cdv A outer s H E hr =>
  (ss_one (ss_if (st_not (st_val (se_call (ok_is_fact T) (takes_of rfl rfl rfl rfl) (hr.mono (by decide)) (by rfl) T.f_is_fact.g T.f_is_fact.F.kp (bd_is_fact T) (sl_cons (se_var 0) (sl_cons (se_var 1) sl_nil))))) (ss_one (ss_raise0 rfl (takes_of rfl rfl rfl rfl) PySem.F.excBase_ValueError T.x_NoFact.q T.x_NoFact.g T.x_NoFact.kp T.x_NoFact.h1 T.x_NoFact.h2 (by rfl))) ss_nil))
theorem ok_check_fact (T : Txt K mg) : FnOk P w K mg base (L2.CX P w) 5 T.f_check_fact.a T.f_check_fact.fd ["office", "thing"] (spP K mg r_check_fact) := by
  rw [r_check_fact_df]
  exact fn_P T.f_check_fact.F sc_check_fact (b_check_fact T)
abbrev N_Watcher_init : List Str := ["self", "office", "fact", "number", "step"]
theorem sc_Watcher_init : FnScope N_Watcher_init ["self", "office", "fact"] (defScope s_Watcher_init) := ⟨rfl, rfl, rfl, by decide +kernel, rfl, by decide +kernel, by decide +kernel⟩
theorem bd_Watcher_init (T : Txt K mg) : Binds K T.C_Watcher.I.fd ["self", "office", "fact"] [] := T.C_Watcher.I.F.binds fun _ _ _ _ _ _ us hl => match us, hl with | [_, _, _], _ => rfl
theorem ok_Watcher_init (T : Txt K mg) : FnOk P w K mg base (L2.CX P w) 2 T.C_Watcher.I.a T.C_Watcher.I.fd ["self", "office", "fact"] (spC K mg T.C_Watcher.C ["numbers", "fact_moves", "fact_yes"] i_Watcher) := by
  refine T.C_Watcher.I.F.okX sc_Watcher_init (spC_len fInitS_len) fun cdv A outer s H vs Q E hr h => ⟨tFs K mg E [("numbers", (mDcT [3, 4] (mEnum (mCall r_all_steps (mL [(mVar 1)]))) (bTup 2 (bCons (bName 3) (bCons (bName 4) bNil))) mYes (mVar 4) (mVar 3))), ("fact_moves", (mBin dIx (.v 2) (.c (.int 0)))), ("fact_yes", (mBin dIx (.v 2) (.c (.int 1))))], ?_, initS_read T.C_Watcher.T T.C_Watcher.no (by decide) (by decide) (by decide) h⟩
  exact (pss_cons (ps_fld (pv 0) (se_dcT hr.units0 rfl sc_Watcher_init.nd (si_enum (by rfl) T.z_enumerate (se_call (ok_all_steps T) (takes_of rfl rfl rfl rfl) (hr.mono (by decide)) (by rfl) T.f_all_steps.g T.f_all_steps.F.kp (bd_all_steps T) (sl_cons (se_var 1) sl_nil))) (blkOk_by (N := N_Watcher_init) (sc := defScope s_Watcher_init) (own := [("number", 3), ("step", 4)]) (by decide +kernel)) (gd_tup (gds_cons (gd_name 3) (gds_cons (gd_name 4) gds_nil))) (by decide) (fun _ _ _ _ _ => (pg_tup rfl (pgs_cons (pg_name (i := 3) sc_Watcher_init.nd rfl (by first | exact Or.inl rfl | exact Or.inr rfl)) (pgs_cons (pg_name (i := 4) sc_Watcher_init.nd rfl (by first | exact Or.inl rfl | exact Or.inr rfl)) pgs_nil)))) (fun _ _ _ _ _ => sts_nil) (fun _ _ _ _ _ => (se_var 4)) (fun _ _ _ _ _ => (se_var 3))) rfl) (pss_cons (ps_fld (pv 0) (se_ix (ix_all (hu1 hr)) od_ix (se_v 2) se_int (fun _ _ => rfl)) rfl) (pss_cons (ps_fld (pv 0) (se_ix (ix_all (hu1 hr)) od_ix (se_v 2) se_int (fun _ _ => rfl)) rfl) pss_nil)))
abbrev N_Watcher_goes : List Str := ["self", "state", "step"]
theorem sc_Watcher_goes : FnScope N_Watcher_goes ["self", "state", "step"] (defScope s_Watcher_goes) := ⟨rfl, rfl, rfl, by decide +kernel, rfl, by decide +kernel, by decide +kernel⟩
theorem bd_Watcher_goes (T : Txt K mg) : Binds K T.f_Watcher_goes.fd ["self", "state", "step"] [] := T.f_Watcher_goes.F.binds fun _ _ _ _ _ _ us hl => match us, hl with | [_, _, _], _ => rfl
theorem b_Watcher_goes (T : Txt K mg) : BodyOk P w K mg base N_Watcher_goes "Watcher.goes" s_Watcher_goes 3 m_Watcher_goes := fun f cdv A outer s H E hr =>
  (ss_one (ss_ret (se_ix (ix_all (hu1 hr)) od_ix (se_m (se_ix (ix_all (hu1 hr)) od_ix (se_m (se_fld (fl_fact_moves T) (se_v 0))) (se_v 1) (fun _ _ => rfl))) (se_m (se_ix (ix_all (hu1 hr)) od_ix (se_m (se_fld (fl_numbers T) (se_v 0))) (se_v 2) (fun _ _ => rfl))) (fun _ _ => rfl))))
theorem ok_Watcher_goes (T : Txt K mg) : FnOk P w K mg base (L2.CX P w) 4 T.f_Watcher_goes.a T.f_Watcher_goes.fd ["self", "state", "step"] (spP K mg r_Watcher_goes) := by
  rw [r_Watcher_goes_df]
  exact fn_P T.f_Watcher_goes.F sc_Watcher_goes (b_Watcher_goes T)
abbrev N_Watcher_ends : List Str := ["self", "steps", "state", "step"]
theorem sc_Watcher_ends : FnScope N_Watcher_ends ["self", "steps"] (defScope s_Watcher_ends) := ⟨rfl, rfl, rfl, by decide +kernel, rfl, by decide +kernel, by decide +kernel⟩
theorem bd_Watcher_ends (T : Txt K mg) : Binds K T.f_Watcher_ends.fd ["self", "steps"] [] := T.f_Watcher_ends.F.binds fun _ _ _ _ _ _ us hl => match us, hl with | [_, _], _ => rfl
theorem b_Watcher_ends (T : Txt K mg) : BodyOk P w K mg base N_Watcher_ends "Watcher.ends" s_Watcher_ends 4 m_Watcher_ends := fun f cdv A outer s H E hr =>
  (ss_cons (ss_set (i := 2) sc_Watcher_ends.nd rfl (by first | exact Or.inl rfl | exact Or.inr rfl) sm_int) (ss_cons (ss_for (passes_of rfl) rfl (si_items (se_var 1)) (pg_name (i := 3) sc_Watcher_ends.nd rfl (by first | exact Or.inl rfl | exact Or.inr rfl)) (gd_name 3) (sss_kill (ss_one (ss_set (i := 2) sc_Watcher_ends.nd rfl (by first | exact Or.inl rfl | exact Or.inr rfl) (PE_imp (pe_meth (se_var 0) T.C_Watcher.T T.f_Watcher_goes.m (ok_Watcher_goes T) (hr.mono (by decide)) (bd_Watcher_goes T) .nil (passes_call (takes_of rfl rfl rfl rfl) fun _ _ _ _ h => h) (sl_cons (se_var 2) (sl_cons (se_var 3) sl_nil))) (tM_mth T.C_Watcher.g)))))) (ss_one (ss_ret (se_var 2)))))
theorem ok_Watcher_ends (T : Txt K mg) : FnOk P w K mg base (L2.CX P w) 5 T.f_Watcher_ends.a T.f_Watcher_ends.fd ["self", "steps"] (spP K mg r_Watcher_ends) := by
  rw [r_Watcher_ends_df]
  exact fn_P T.f_Watcher_ends.F sc_Watcher_ends (b_Watcher_ends T)
abbrev N_Watcher_tells : List Str := ["self", "state"]
theorem sc_Watcher_tells : FnScope N_Watcher_tells ["self", "state"] (defScope s_Watcher_tells) := ⟨rfl, rfl, rfl, by decide +kernel, rfl, by decide +kernel, by decide +kernel⟩
theorem bd_Watcher_tells (T : Txt K mg) : Binds K T.f_Watcher_tells.fd ["self", "state"] [] := T.f_Watcher_tells.F.binds fun _ _ _ _ _ _ us hl => match us, hl with | [_, _], _ => rfl
theorem b_Watcher_tells (T : Txt K mg) : BodyOk P w K mg base N_Watcher_tells "Watcher.tells" s_Watcher_tells 3 m_Watcher_tells := fun f cdv A outer s H E hr =>
  (ss_one (ss_ret (se_cmp (op_inA (hu65 hr)) od_in (se_v 1) (se_m (se_fld (fl_fact_yes T) (se_v 0))))))
theorem ok_Watcher_tells (T : Txt K mg) : FnOk P w K mg base (L2.CX P w) 4 T.f_Watcher_tells.a T.f_Watcher_tells.fd ["self", "state"] (spP K mg r_Watcher_tells) := by
  rw [r_Watcher_tells_df]
  exact fn_P T.f_Watcher_tells.F sc_Watcher_tells (b_Watcher_tells T)
abbrev N_holds : List Str := ["office", "fact", "day", "watcher"]
theorem sc_holds : FnScope N_holds ["office", "fact", "day"] (defScope s_holds) := ⟨rfl, rfl, rfl, by decide +kernel, rfl, by decide +kernel, by decide +kernel⟩
theorem bd_holds (T : Txt K mg) : Binds K T.f_holds.fd ["office", "fact", "day"] [] := T.f_holds.F.binds fun _ _ _ _ _ _ us hl => match us, hl with | [_, _, _], _ => rfl
theorem b_holds (T : Txt K mg) : BodyOk P w K mg base N_holds "holds" s_holds 7 m_holds := fun f cdv A outer s H E hr =>
  (ss_cons (ss_drop (se_call (ok_check_fact T) (takes_of rfl rfl rfl rfl) (hr.mono (by decide)) (by rfl) T.f_check_fact.g T.f_check_fact.F.kp (bd_check_fact T) (sl_cons (se_var 0) (sl_cons (se_var 1) sl_nil)))) (ss_cons (ss_drop (se_call (ok_check_day T) (takes_of rfl rfl rfl rfl) (hr.mono (by decide)) (by rfl) T.f_check_day.g T.f_check_day.F.kp (bd_check_day T) (sl_cons (se_var 0) (sl_cons (se_var 2) sl_nil)))) (ss_cons (ss_set (i := 3) sc_holds.nd rfl (by first | exact Or.inl rfl | exact Or.inr rfl) (se_make T.C_Watcher.M (ok_Watcher_init T) (takes_of rfl rfl rfl rfl) (hr.mono (by decide)) (by rfl) T.C_Watcher.g (bd_Watcher_init T) (sl_cons (se_var 0) (sl_cons (se_var 1) sl_nil)))) (ss_one (ss_ret (PE_imp (pe_meth (se_var 3) T.C_Watcher.T T.f_Watcher_tells.m (ok_Watcher_tells T) (hr.mono (by decide)) (bd_Watcher_tells T) .nil (passes_call (takes_of rfl rfl rfl rfl) fun _ _ _ _ h => h) (sl_cons (PE_imp (pe_meth (se_var 3) T.C_Watcher.T T.f_Watcher_ends.m (ok_Watcher_ends T) (hr.mono (by decide)) (bd_Watcher_ends T) .nil (passes_call (takes_of rfl rfl rfl rfl) fun _ _ _ _ h => h) (sl_cons (se_ix (ix_all (hu1 hr)) od_ix (se_v 2) se_int (fun _ _ => rfl)) sl_nil)) (tM_mth T.C_Watcher.g)) sl_nil)) (tM_mth T.C_Watcher.g)))))))
theorem ok_holds (T : Txt K mg) : FnOk P w K mg base (L2.CX P w) 8 T.f_holds.a T.f_holds.fd ["office", "fact", "day"] (spP K mg r_holds) := by
  rw [r_holds_df]
  exact fn_P T.f_holds.F sc_holds (b_holds T)
abbrev N_law : List Str := ["_law_script", "_law_hand_here", "_law_turn", "_law_parts_here", "_law_office", "_law_fact_here", "_law_other", "_law_plain", "_law_meant_here", "_law_again", "_law_day", "_law_told", "_law_state"]
theorem sc_law : FnScope N_law ["_law_script"] (defScope s_law) := ⟨rfl, rfl, rfl, by decide +kernel, rfl, by decide +kernel, by decide +kernel⟩
theorem bd_law (T : Txt K mg) : Binds K T.f_law.fd ["_law_script"] [] := T.f_law.F.binds fun _ _ _ _ _ _ us hl => match us, hl with | [_], _ => rfl
theorem b_law (T : Txt K mg) : BodyOk P w K mg base N_law "law" s_law 8 m_law_k29 := fun f cdv A outer s H E hr =>
  (ss_cons (ss_setL (i := 1) sc_law.nd rfl (by first | exact Or.inl rfl | exact Or.inr rfl) (so_call (ok__law_hand T) (takes_of rfl rfl rfl rfl) (hr.mono (by decide)) (by rfl) T.f__law_hand.g T.f__law_hand.F.kp (bd__law_hand T) (sl_cons (se_var 0) sl_nil))) (ss_cons (ss_for (passes_of rfl) rfl (si_range1 (by rfl) T.z_range se_int) (pg_name (i := 2) sc_law.nd rfl (by first | exact Or.inl rfl | exact Or.inr rfl)) (gd_name 2) (sss_kill (ss_cons (ss_set (i := 3) sc_law.nd rfl (by first | exact Or.inl rfl | exact Or.inr rfl) (se_callI 1 (ok__law_parts T) (takes_of rfl rfl rfl rfl) (hr.mono (by decide)) (by rfl) T.f__law_parts.g T.f__law_parts.F.kp (bd__law_parts T) (sl_cons sm_int (sl_cons sm_int (sl_cons sm_int sl_nil))))) (ss_cons (ss_if (st_cmp (op_eqD (hu64 hr)) od_eq (se_m (se_callI 1 (ok__law_draw T) (takes_of rfl rfl rfl rfl) (hr.mono (by decide)) (by rfl) T.f__law_draw.g T.f__law_draw.F.kp (bd__law_draw T) (sl_cons sm_int sl_nil))) se_int) (ss_one (ss_set (i := 3) sc_law.nd rfl (by first | exact Or.inl rfl | exact Or.inr rfl) (se_tup (sl_cons (se_tup (sl_cons sm_int (sl_cons sm_int (sl_cons sm_int sl_nil)))) (sl_cons (se_ix (ix_all (hu1 hr)) od_ix (se_v 3) se_int (fun _ _ => rfl)) (sl_cons (se_ix (ix_all (hu1 hr)) od_ix (se_v 3) se_int (fun _ _ => rfl)) sl_nil)))))) ss_nil) (ss_cons (ss_set (i := 4) sc_law.nd rfl (by first | exact Or.inl rfl | exact Or.inr rfl) (se_call (ok__law_made T) (takes_of rfl rfl rfl rfl) (hr.mono (by decide)) (by rfl) T.f__law_made.g T.f__law_made.F.kp (bd__law_made T) (sl_cons (se_var 3) sl_nil))) (ss_cons (ss_set (i := 5) sc_law.nd rfl (by first | exact Or.inl rfl | exact Or.inr rfl) (se_callI 1 (ok__law_fact T) (takes_of rfl rfl rfl rfl) (hr.mono (by decide)) (by rfl) T.f__law_fact.g T.f__law_fact.F.kp (bd__law_fact T) (sl_cons (se_var 3) (sl_cons sm_int sl_nil)))) (ss_cons (ss_set (i := 6) sc_law.nd rfl (by first | exact Or.inl rfl | exact Or.inr rfl) (se_tup (sl_cons (se_ix (ix_all (hu1 hr)) od_ix (se_v 5) se_int (fun _ _ => rfl)) (sl_cons (se_fnT call_tuple_of fd_tuple (by rfl) T.z_tuple (by decide +kernel) (sa_cons (se_m (se_frz (so_lcV rfl sc_law.nd (si_range1 (by rfl) T.z_range (se_m (se_fnB cr_lenA fd_len (by rfl) T.z_len (by decide +kernel) (sa_cons (se_m (se_ix (ix_all (hu1 hr)) od_ix (se_v 5) se_int (fun _ _ => rfl))) sa_nil)))) (blkOk_by (N := N_law) (sc := defScope s_law) (own := [("_law_state", 12)]) (by decide +kernel)) (gd_name 12) (by decide) (fun _ _ _ _ _ => (pg_name (i := 12) sc_law.nd rfl (by first | exact Or.inl rfl | exact Or.inr rfl))) (fun _ _ _ _ _ => (sts_one (st_cmp (op_notInA (hu65 hr)) od_notIn (se_v 12) (se_m (se_ix (ix_all (hu1 hr)) od_ix (se_v 5) se_int (fun _ _ => rfl)))))) (fun _ _ _ _ _ => (se_var 12))))) sa_nil)) sl_nil)))) (ss_cons (ss_asgT (se_callI 1 (ok__law_known T) (takes_of rfl rfl rfl rfl) (hr.mono (by decide)) (by rfl) T.f__law_known.g T.f__law_known.F.kp (bd__law_known T) (sl_cons (se_var 3) sl_nil)) (pg_tup rfl (pgs_cons (pg_name (i := 7) sc_law.nd rfl (by first | exact Or.inl rfl | exact Or.inr rfl)) (pgs_cons (pg_name (i := 8) sc_law.nd rfl (by first | exact Or.inl rfl | exact Or.inr rfl)) pgs_nil))) (gd_tup (gds_cons (gd_name 7) (gds_cons (gd_name 8) gds_nil)))) (ss_cons (ss_if (st_cmp op_isNotA od_isNot (se_m (se_call (ok_is_fact T) (takes_of rfl rfl rfl rfl) (hr.mono (by decide)) (by rfl) T.f_is_fact.g T.f_is_fact.F.kp (bd_is_fact T) (sl_cons (se_var 4) (sl_cons (se_var 7) sl_nil)))) se_bl) (ss_one (ss_ret sm_bl)) ss_nil) (ss_one (ss_for (passes_of rfl) rfl (si_range1 (by rfl) T.z_range se_int) (pg_name (i := 9) sc_law.nd rfl (by first | exact Or.inl rfl | exact Or.inr rfl)) (gd_name 9) (sss_kill (ss_cons (ss_set (i := 10) sc_law.nd rfl (by first | exact Or.inl rfl | exact Or.inr rfl) (se_callI 1 (ok__law_any_day T) (takes_of rfl rfl rfl rfl) (hr.mono (by decide)) (by rfl) T.f__law_any_day.g T.f__law_any_day.F.kp (bd__law_any_day T) (sl_cons (se_var 3) (sl_cons (se_callI 1 (ok__law_draw T) (takes_of rfl rfl rfl rfl) (hr.mono (by decide)) (by rfl) T.f__law_draw.g T.f__law_draw.F.kp (bd__law_draw T) (sl_cons (se_ix (ix_all (hu1 hr)) od_ix (se_m (se_lstF (sl_cons sm_int (sl_cons sm_int sl_nil)))) (se_m (se_callI 1 (ok__law_draw T) (takes_of rfl rfl rfl rfl) (hr.mono (by decide)) (by rfl) T.f__law_draw.g T.f__law_draw.F.kp (bd__law_draw T) (sl_cons sm_int sl_nil))) (fun _ _ => rfl)) sl_nil)) sl_nil)))) (ss_cons (ss_if (st_cmp (op_eqD (hu64 hr)) od_eq (se_m (se_callI 1 (ok__law_draw T) (takes_of rfl rfl rfl rfl) (hr.mono (by decide)) (by rfl) T.f__law_draw.g T.f__law_draw.F.kp (bd__law_draw T) (sl_cons sm_int sl_nil))) se_int) (ss_one (ss_set (i := 10) sc_law.nd rfl (by first | exact Or.inl rfl | exact Or.inr rfl) (se_callI 1 (ok__law_walk T) (takes_of rfl rfl rfl rfl) (hr.mono (by decide)) (by rfl) T.f__law_walk.g T.f__law_walk.F.kp (bd__law_walk T) (sl_cons (se_var 3) (sl_cons sm_int sl_nil))))) ss_nil) (ss_cons (ss_set (i := 11) sc_law.nd rfl (by first | exact Or.inl rfl | exact Or.inr rfl) (se_call (ok_holds T) (takes_of rfl rfl rfl rfl) (hr.mono (by decide)) (by rfl) T.f_holds.g T.f_holds.F.kp (bd_holds T) (sl_cons (se_var 4) (sl_cons (se_var 5) (sl_cons (se_var 10) sl_nil))))) (ss_cons (ss_if (st_w (sw_or (st_not (st_val (se_fnB call_isi (fd_isTy T.isi) (by rfl) T.z_isinstance boot_isinstance (sa_cons (se_v 11) (sa_cons (se_ty (by rfl) T.z_bool (by decide +kernel)) sa_nil))))) (sw_or (st_cmp (op_neD (hu64 hr)) od_ne (se_v 11) (se_m (se_call (ok__law_holds T) (takes_of rfl rfl rfl rfl) (hr.mono (by decide)) (by rfl) T.f__law_holds.g T.f__law_holds.F.kp (bd__law_holds T) (sl_cons (se_var 3) (sl_cons (se_var 5) (sl_cons (se_var 10) sl_nil)))))) (sw_or1 (st_cmp (op_eqD (hu64 hr)) od_eq (se_m (se_call (ok_holds T) (takes_of rfl rfl rfl rfl) (hr.mono (by decide)) (by rfl) T.f_holds.g T.f_holds.F.kp (bd_holds T) (sl_cons (se_var 4) (sl_cons (se_var 6) (sl_cons (se_var 10) sl_nil))))) (se_v 11)))))) (ss_one (ss_ret sm_bl)) ss_nil) (ss_cons (ss_if (st_cmp (op_neD (hu64 hr)) od_ne (se_m (se_call (ok_holds T) (takes_of rfl rfl rfl rfl) (hr.mono (by decide)) (by rfl) T.f_holds.g T.f_holds.F.kp (bd_holds T) (sl_cons (se_var 4) (sl_cons (se_var 7) (sl_cons (se_var 10) sl_nil))))) (se_m (se_call (ok__law_meant T) (takes_of rfl rfl rfl rfl) (hr.mono (by decide)) (by rfl) T.f__law_meant.g T.f__law_meant.F.kp (bd__law_meant T) (sl_cons (se_var 8) (sl_cons (se_var 10) sl_nil))))) (ss_one (ss_ret sm_bl)) ss_nil) (ss_one (ss_if (st_cmp (op_neD (hu64 hr)) od_ne (se_m (se_call (ok_holds T) (takes_of rfl rfl rfl rfl) (hr.mono (by decide)) (by rfl) T.f_holds.g T.f_holds.F.kp (bd_holds T) (sl_cons (se_var 4) (sl_cons (se_var 5) (sl_cons (se_tup (sl_cons (se_ix (ix_all (hu1 hr)) od_ix (se_v 10) se_int (fun _ _ => rfl)) (sl_cons (se_callI 1 (ok__law_draw T) (takes_of rfl rfl rfl rfl) (hr.mono (by decide)) (by rfl) T.f__law_draw.g T.f__law_draw.F.kp (bd__law_draw T) (sl_cons (se_ix (ix_all (hu1 hr)) od_ix (se_m (se_ix (ix_all (hu1 hr)) od_ix (se_v 3) se_int (fun _ _ => rfl))) se_int (fun _ _ => rfl)) sl_nil)) sl_nil))) sl_nil))))) (se_v 11)) (ss_one (ss_ret sm_bl)) ss_nil))))))))))))))))))) (ss_one (ss_ret sm_bl))))
end
end Mi

set_option Elab.async false
set_option linter.all false
set_option maxRecDepth 100000
set_option maxHeartbeats 4000000
namespace Mi
open PySem PySem.Spec PyProof.Rows L2 RZ
theorem exm_own {K : PySem.W.Frag} {C : Addr} (a : PySem.W.subIn K (.ref C) (.type "BaseException") = some true) (b : PySem.W.isClsIn K C = true) (c : PySem.W.typeIn K (.ref C) = some (.type "type")) (d : PySem.W.subIn K (.ref C) (.ref C) = some true) : PySem.W.exmOne K (.ref C) (.ref C) = some true := by
  have b : (PySem.W.clsIn K C).isSome = true := b
  unfold PySem.W.exmOne
  rw [a, if_pos (by rfl)]
  unfold PySem.W.kitCls
  simp only []
  rw [b, c, if_pos (by rfl)]
  exact d
theorem all_mk (hp : LawOk 13 m_law_k29) {l : PySem.W.OpenLaw} {w : World} {K : PySem.W.Frag} {h : Heap} {mg : MG} {fa : Addr} (X : K.In h) (G : h.Ns mainGlobals mg) (hfa : mg "law" = some (.ref fa))
    {tk_MOST_SIZE tk_MOST_STANDINGS tk_MOST_STATES : Tok}
    {X_NoDay X_NoFact f__law_draw f__law_steps_of f__law_any_day f__law_fact f__law_hand f__law_holds f__law_known f_are_ascending f_is_integer f_is_within f_are_closings f_is_move f_are_moves f_is_triple f_are_sizes C_Office f_Office_init f_Office_keep f__law_made f__law_meant f__law_row f__law_parts f__law_walk f_is_mark f_is_pair f_is_note f_is_step f_are_steps f_is_day f_check_day f_all_steps f_are_states f_is_fact f_check_fact C_Watcher f_Watcher_init f_holds f_law f_Watcher_goes f_Watcher_ends f_Watcher_tells : Addr}
    {od__law_draw an__law_draw od__law_steps_of an__law_steps_of od__law_any_day an__law_any_day od__law_fact an__law_fact od__law_hand an__law_hand od__law_holds an__law_holds od__law_known an__law_known od_are_ascending an_are_ascending od_is_integer an_is_integer od_is_within an_is_within od_are_closings an_are_closings od_is_move an_is_move od_are_moves an_are_moves od_is_triple an_is_triple od_are_sizes an_are_sizes od_Office_init an_Office_init od_Office_keep an_Office_keep od__law_made an__law_made od__law_meant an__law_meant od__law_row an__law_row od__law_parts an__law_parts od__law_walk an__law_walk od_is_mark an_is_mark od_is_pair an_is_pair od_is_note an_is_note od_is_step an_is_step od_are_steps an_are_steps od_is_day an_is_day od_check_day an_check_day od_all_steps an_all_steps od_are_states an_are_states od_is_fact an_is_fact od_check_fact an_check_fact od_Watcher_init an_Watcher_init od_holds an_holds od_law an_law od_Watcher_goes an_Watcher_goes od_Watcher_ends an_Watcher_ends od_Watcher_tells an_Watcher_tells : Option Addr}
    {sl__law_draw sl__law_steps_of sl__law_any_day sl__law_fact sl__law_hand sl__law_holds sl__law_known sl_are_ascending sl_is_integer sl_is_within sl_are_closings sl_is_move sl_are_moves sl_is_triple sl_are_sizes sl_Office_init sl_Office_keep sl__law_made sl__law_meant sl__law_row sl__law_parts sl__law_walk sl_is_mark sl_is_pair sl_is_note sl_is_step sl_are_steps sl_is_day sl_check_day sl_all_steps sl_are_states sl_is_fact sl_check_fact sl_Watcher_init sl_holds sl_law sl_Watcher_goes sl_Watcher_ends sl_Watcher_tells : Array (Option Value)}
    {oc__law_draw kV__law_draw dc__law_draw pm__law_draw cd__law_draw ct__law_draw oc__law_steps_of kV__law_steps_of dc__law_steps_of pm__law_steps_of cd__law_steps_of ct__law_steps_of oc__law_any_day kV__law_any_day dc__law_any_day pm__law_any_day cd__law_any_day ct__law_any_day oc__law_fact kV__law_fact dc__law_fact pm__law_fact cd__law_fact ct__law_fact oc__law_hand kV__law_hand dc__law_hand pm__law_hand cd__law_hand ct__law_hand oc__law_holds kV__law_holds dc__law_holds pm__law_holds cd__law_holds ct__law_holds oc__law_known kV__law_known dc__law_known pm__law_known cd__law_known ct__law_known oc_are_ascending kV_are_ascending dc_are_ascending pm_are_ascending cd_are_ascending ct_are_ascending oc_is_integer kV_is_integer dc_is_integer pm_is_integer cd_is_integer ct_is_integer oc_is_within kV_is_within dc_is_within pm_is_within cd_is_within ct_is_within oc_are_closings kV_are_closings dc_are_closings pm_are_closings cd_are_closings ct_are_closings oc_is_move kV_is_move dc_is_move pm_is_move cd_is_move ct_is_move oc_are_moves kV_are_moves dc_are_moves pm_are_moves cd_are_moves ct_are_moves oc_is_triple kV_is_triple dc_is_triple pm_is_triple cd_is_triple ct_is_triple oc_are_sizes kV_are_sizes dc_are_sizes pm_are_sizes cd_are_sizes ct_are_sizes oc_Office_init kV_Office_init dc_Office_init pm_Office_init cd_Office_init ct_Office_init oc_Office_keep kV_Office_keep dc_Office_keep pm_Office_keep cd_Office_keep ct_Office_keep oc__law_made kV__law_made dc__law_made pm__law_made cd__law_made ct__law_made oc__law_meant kV__law_meant dc__law_meant pm__law_meant cd__law_meant ct__law_meant oc__law_row kV__law_row dc__law_row pm__law_row cd__law_row ct__law_row oc__law_parts kV__law_parts dc__law_parts pm__law_parts cd__law_parts ct__law_parts oc__law_walk kV__law_walk dc__law_walk pm__law_walk cd__law_walk ct__law_walk oc_is_mark kV_is_mark dc_is_mark pm_is_mark cd_is_mark ct_is_mark oc_is_pair kV_is_pair dc_is_pair pm_is_pair cd_is_pair ct_is_pair oc_is_note kV_is_note dc_is_note pm_is_note cd_is_note ct_is_note oc_is_step kV_is_step dc_is_step pm_is_step cd_is_step ct_is_step oc_are_steps kV_are_steps dc_are_steps pm_are_steps cd_are_steps ct_are_steps oc_is_day kV_is_day dc_is_day pm_is_day cd_is_day ct_is_day oc_check_day kV_check_day dc_check_day pm_check_day cd_check_day ct_check_day oc_all_steps kV_all_steps dc_all_steps pm_all_steps cd_all_steps ct_all_steps oc_are_states kV_are_states dc_are_states pm_are_states cd_are_states ct_are_states oc_is_fact kV_is_fact dc_is_fact pm_is_fact cd_is_fact ct_is_fact oc_check_fact kV_check_fact dc_check_fact pm_check_fact cd_check_fact ct_check_fact oc_Watcher_init kV_Watcher_init dc_Watcher_init pm_Watcher_init cd_Watcher_init ct_Watcher_init oc_holds kV_holds dc_holds pm_holds cd_holds ct_holds oc_law kV_law dc_law pm_law cd_law ct_law oc_Watcher_goes kV_Watcher_goes dc_Watcher_goes pm_Watcher_goes cd_Watcher_goes ct_Watcher_goes oc_Watcher_ends kV_Watcher_ends dc_Watcher_ends pm_Watcher_ends cd_Watcher_ends ct_Watcher_ends oc_Watcher_tells kV_Watcher_tells dc_Watcher_tells pm_Watcher_tells cd_Watcher_tells ct_Watcher_tells : Value}
    (z_abs : PySem.W.nsIn K mainGlobals "abs" = some none)
    (z_all : PySem.W.nsIn K mainGlobals "all" = some none)
    (z_bool : PySem.W.nsIn K mainGlobals "bool" = some none)
    (z_enumerate : PySem.W.nsIn K mainGlobals "enumerate" = some none)
    (z_int : PySem.W.nsIn K mainGlobals "int" = some none)
    (z_isinstance : PySem.W.nsIn K mainGlobals "isinstance" = some none)
    (z_len : PySem.W.nsIn K mainGlobals "len" = some none)
    (z_list : PySem.W.nsIn K mainGlobals "list" = some none)
    (z_range : PySem.W.nsIn K mainGlobals "range" = some none)
    (z_sorted : PySem.W.nsIn K mainGlobals "sorted" = some none)
    (z_tuple : PySem.W.nsIn K mainGlobals "tuple" = some none)
    (c_MOST_SIZE : PySem.W.nsIn K mainGlobals "MOST_SIZE" = some (some (.int 4 tk_MOST_SIZE)))
    (c_MOST_STANDINGS : PySem.W.nsIn K mainGlobals "MOST_STANDINGS" = some (some (.int 20 tk_MOST_STANDINGS)))
    (c_MOST_STATES : PySem.W.nsIn K mainGlobals "MOST_STATES" = some (some (.int 10 tk_MOST_STATES)))
    (xg_NoDay : PySem.W.nsIn K mainGlobals "NoDay" = some (some (.ref X_NoDay)))
    (xq_NoDay : PySem.W.excIn K X_NoDay [.type "ValueError", .type "Exception", .type "BaseException", .type "object"] "ValueError.__new__" = true)
    (xk_NoDay : PySem.W.keepIn K (.ref X_NoDay) = true)
    (xb_NoDay : PySem.W.subIn K (.ref X_NoDay) (.type "BaseException") = some true)
    (xt_NoDay : PySem.W.typeIn K (.ref X_NoDay) = some (.type "type"))
    (xi_NoDay : PySem.W.isClsIn K X_NoDay = true)
    (xs_NoDay : PySem.W.subIn K (.ref X_NoDay) (.ref X_NoDay) = some true)
    (xg_NoFact : PySem.W.nsIn K mainGlobals "NoFact" = some (some (.ref X_NoFact)))
    (xq_NoFact : PySem.W.excIn K X_NoFact [.type "ValueError", .type "Exception", .type "BaseException", .type "object"] "ValueError.__new__" = true)
    (xk_NoFact : PySem.W.keepIn K (.ref X_NoFact) = true)
    (xb_NoFact : PySem.W.subIn K (.ref X_NoFact) (.type "BaseException") = some true)
    (xt_NoFact : PySem.W.typeIn K (.ref X_NoFact) = some (.type "type"))
    (xi_NoFact : PySem.W.isClsIn K X_NoFact = true)
    (xs_NoFact : PySem.W.subIn K (.ref X_NoFact) (.ref X_NoFact) = some true)
    (a__law_draw : PySem.W.nsIn K mainGlobals "_law_draw" = some (some (.ref f__law_draw)))
    (l__law_draw : K.lookup f__law_draw = some ⟨oc__law_draw, od__law_draw, .func (PySem.W.fnOf "_law_draw" "_law_draw" (defArgs s__law_draw) (defBody s__law_draw) (defScope s__law_draw) .none kV__law_draw dc__law_draw pm__law_draw an__law_draw cd__law_draw ct__law_draw), sl__law_draw⟩)
    (cd__law_draw_ : PySem.W.codeIn K cd__law_draw "_law_draw" = true)
    (k__law_draw : PySem.W.keepIn K (.ref f__law_draw) = true)
    (a__law_steps_of : PySem.W.nsIn K mainGlobals "_law_steps_of" = some (some (.ref f__law_steps_of)))
    (l__law_steps_of : K.lookup f__law_steps_of = some ⟨oc__law_steps_of, od__law_steps_of, .func (PySem.W.fnOf "_law_steps_of" "_law_steps_of" (defArgs s__law_steps_of) (defBody s__law_steps_of) (defScope s__law_steps_of) .none kV__law_steps_of dc__law_steps_of pm__law_steps_of an__law_steps_of cd__law_steps_of ct__law_steps_of), sl__law_steps_of⟩)
    (cd__law_steps_of_ : PySem.W.codeIn K cd__law_steps_of "_law_steps_of" = true)
    (k__law_steps_of : PySem.W.keepIn K (.ref f__law_steps_of) = true)
    (a__law_any_day : PySem.W.nsIn K mainGlobals "_law_any_day" = some (some (.ref f__law_any_day)))
    (l__law_any_day : K.lookup f__law_any_day = some ⟨oc__law_any_day, od__law_any_day, .func (PySem.W.fnOf "_law_any_day" "_law_any_day" (defArgs s__law_any_day) (defBody s__law_any_day) (defScope s__law_any_day) .none kV__law_any_day dc__law_any_day pm__law_any_day an__law_any_day cd__law_any_day ct__law_any_day), sl__law_any_day⟩)
    (cd__law_any_day_ : PySem.W.codeIn K cd__law_any_day "_law_any_day" = true)
    (k__law_any_day : PySem.W.keepIn K (.ref f__law_any_day) = true)
    (a__law_fact : PySem.W.nsIn K mainGlobals "_law_fact" = some (some (.ref f__law_fact)))
    (l__law_fact : K.lookup f__law_fact = some ⟨oc__law_fact, od__law_fact, .func (PySem.W.fnOf "_law_fact" "_law_fact" (defArgs s__law_fact) (defBody s__law_fact) (defScope s__law_fact) .none kV__law_fact dc__law_fact pm__law_fact an__law_fact cd__law_fact ct__law_fact), sl__law_fact⟩)
    (cd__law_fact_ : PySem.W.codeIn K cd__law_fact "_law_fact" = true)
    (k__law_fact : PySem.W.keepIn K (.ref f__law_fact) = true)
    (a__law_hand : PySem.W.nsIn K mainGlobals "_law_hand" = some (some (.ref f__law_hand)))
    (l__law_hand : K.lookup f__law_hand = some ⟨oc__law_hand, od__law_hand, .func (PySem.W.fnOf "_law_hand" "_law_hand" (defArgs s__law_hand) (defBody s__law_hand) (defScope s__law_hand) .none kV__law_hand dc__law_hand pm__law_hand an__law_hand cd__law_hand ct__law_hand), sl__law_hand⟩)
    (cd__law_hand_ : PySem.W.codeIn K cd__law_hand "_law_hand" = true)
    (k__law_hand : PySem.W.keepIn K (.ref f__law_hand) = true)
    (a__law_holds : PySem.W.nsIn K mainGlobals "_law_holds" = some (some (.ref f__law_holds)))
    (l__law_holds : K.lookup f__law_holds = some ⟨oc__law_holds, od__law_holds, .func (PySem.W.fnOf "_law_holds" "_law_holds" (defArgs s__law_holds) (defBody s__law_holds) (defScope s__law_holds) .none kV__law_holds dc__law_holds pm__law_holds an__law_holds cd__law_holds ct__law_holds), sl__law_holds⟩)
    (cd__law_holds_ : PySem.W.codeIn K cd__law_holds "_law_holds" = true)
    (k__law_holds : PySem.W.keepIn K (.ref f__law_holds) = true)
    (a__law_known : PySem.W.nsIn K mainGlobals "_law_known" = some (some (.ref f__law_known)))
    (l__law_known : K.lookup f__law_known = some ⟨oc__law_known, od__law_known, .func (PySem.W.fnOf "_law_known" "_law_known" (defArgs s__law_known) (defBody s__law_known) (defScope s__law_known) .none kV__law_known dc__law_known pm__law_known an__law_known cd__law_known ct__law_known), sl__law_known⟩)
    (cd__law_known_ : PySem.W.codeIn K cd__law_known "_law_known" = true)
    (k__law_known : PySem.W.keepIn K (.ref f__law_known) = true)
    (a_are_ascending : PySem.W.nsIn K mainGlobals "are_ascending" = some (some (.ref f_are_ascending)))
    (l_are_ascending : K.lookup f_are_ascending = some ⟨oc_are_ascending, od_are_ascending, .func (PySem.W.fnOf "are_ascending" "are_ascending" (defArgs s_are_ascending) (defBody s_are_ascending) (defScope s_are_ascending) .none kV_are_ascending dc_are_ascending pm_are_ascending an_are_ascending cd_are_ascending ct_are_ascending), sl_are_ascending⟩)
    (cd_are_ascending_ : PySem.W.codeIn K cd_are_ascending "are_ascending" = true)
    (k_are_ascending : PySem.W.keepIn K (.ref f_are_ascending) = true)
    (a_is_integer : PySem.W.nsIn K mainGlobals "is_integer" = some (some (.ref f_is_integer)))
    (l_is_integer : K.lookup f_is_integer = some ⟨oc_is_integer, od_is_integer, .func (PySem.W.fnOf "is_integer" "is_integer" (defArgs s_is_integer) (defBody s_is_integer) (defScope s_is_integer) .none kV_is_integer dc_is_integer pm_is_integer an_is_integer cd_is_integer ct_is_integer), sl_is_integer⟩)
    (cd_is_integer_ : PySem.W.codeIn K cd_is_integer "is_integer" = true)
    (k_is_integer : PySem.W.keepIn K (.ref f_is_integer) = true)
    (a_is_within : PySem.W.nsIn K mainGlobals "is_within" = some (some (.ref f_is_within)))
    (l_is_within : K.lookup f_is_within = some ⟨oc_is_within, od_is_within, .func (PySem.W.fnOf "is_within" "is_within" (defArgs s_is_within) (defBody s_is_within) (defScope s_is_within) .none kV_is_within dc_is_within pm_is_within an_is_within cd_is_within ct_is_within), sl_is_within⟩)
    (cd_is_within_ : PySem.W.codeIn K cd_is_within "is_within" = true)
    (k_is_within : PySem.W.keepIn K (.ref f_is_within) = true)
    (a_are_closings : PySem.W.nsIn K mainGlobals "are_closings" = some (some (.ref f_are_closings)))
    (l_are_closings : K.lookup f_are_closings = some ⟨oc_are_closings, od_are_closings, .func (PySem.W.fnOf "are_closings" "are_closings" (defArgs s_are_closings) (defBody s_are_closings) (defScope s_are_closings) .none kV_are_closings dc_are_closings pm_are_closings an_are_closings cd_are_closings ct_are_closings), sl_are_closings⟩)
    (cd_are_closings_ : PySem.W.codeIn K cd_are_closings "are_closings" = true)
    (k_are_closings : PySem.W.keepIn K (.ref f_are_closings) = true)
    (a_is_move : PySem.W.nsIn K mainGlobals "is_move" = some (some (.ref f_is_move)))
    (l_is_move : K.lookup f_is_move = some ⟨oc_is_move, od_is_move, .func (PySem.W.fnOf "is_move" "is_move" (defArgs s_is_move) (defBody s_is_move) (defScope s_is_move) .none kV_is_move dc_is_move pm_is_move an_is_move cd_is_move ct_is_move), sl_is_move⟩)
    (cd_is_move_ : PySem.W.codeIn K cd_is_move "is_move" = true)
    (k_is_move : PySem.W.keepIn K (.ref f_is_move) = true)
    (a_are_moves : PySem.W.nsIn K mainGlobals "are_moves" = some (some (.ref f_are_moves)))
    (l_are_moves : K.lookup f_are_moves = some ⟨oc_are_moves, od_are_moves, .func (PySem.W.fnOf "are_moves" "are_moves" (defArgs s_are_moves) (defBody s_are_moves) (defScope s_are_moves) .none kV_are_moves dc_are_moves pm_are_moves an_are_moves cd_are_moves ct_are_moves), sl_are_moves⟩)
    (cd_are_moves_ : PySem.W.codeIn K cd_are_moves "are_moves" = true)
    (k_are_moves : PySem.W.keepIn K (.ref f_are_moves) = true)
    (a_is_triple : PySem.W.nsIn K mainGlobals "is_triple" = some (some (.ref f_is_triple)))
    (l_is_triple : K.lookup f_is_triple = some ⟨oc_is_triple, od_is_triple, .func (PySem.W.fnOf "is_triple" "is_triple" (defArgs s_is_triple) (defBody s_is_triple) (defScope s_is_triple) .none kV_is_triple dc_is_triple pm_is_triple an_is_triple cd_is_triple ct_is_triple), sl_is_triple⟩)
    (cd_is_triple_ : PySem.W.codeIn K cd_is_triple "is_triple" = true)
    (k_is_triple : PySem.W.keepIn K (.ref f_is_triple) = true)
    (a_are_sizes : PySem.W.nsIn K mainGlobals "are_sizes" = some (some (.ref f_are_sizes)))
    (l_are_sizes : K.lookup f_are_sizes = some ⟨oc_are_sizes, od_are_sizes, .func (PySem.W.fnOf "are_sizes" "are_sizes" (defArgs s_are_sizes) (defBody s_are_sizes) (defScope s_are_sizes) .none kV_are_sizes dc_are_sizes pm_are_sizes an_are_sizes cd_are_sizes ct_are_sizes), sl_are_sizes⟩)
    (cd_are_sizes_ : PySem.W.codeIn K cd_are_sizes "are_sizes" = true)
    (k_are_sizes : PySem.W.keepIn K (.ref f_are_sizes) = true)
    (g_Office : PySem.W.nsIn K mainGlobals "Office" = some (some (.ref C_Office)))
    (pg_Office : PySem.W.plainGet K C_Office Str.empty = true)
    (hd_Office : PySem.W.hasDictIn K C_Office = true)
    (po_Office : PySem.W.plainOver K C_Office = true)
    (sa_Office : PySem.W.findIn K (.ref C_Office) "__setattr__" = some (some (.builtin "object.__setattr__")))
    (mk_Office : PySem.W.makesIn K C_Office = true)
    (kp_Office : PySem.W.keepIn K (.ref C_Office) = true)
    (n_Office_sizes : PySem.W.findIn K (.ref C_Office) "sizes" = some none)
    (n_Office_moves : PySem.W.findIn K (.ref C_Office) "moves" = some none)
    (n_Office_closings : PySem.W.findIn K (.ref C_Office) "closings" = some none)
    (n_Office_kept_goals : PySem.W.findIn K (.ref C_Office) "kept_goals" = some none)
    (a_Office_init : PySem.W.findIn K (.ref C_Office) "__init__" = some (some (.ref f_Office_init)))
    (i_Office_init : PySem.W.isFn K (.ref f_Office_init) = true)
    (l_Office_init : K.lookup f_Office_init = some ⟨oc_Office_init, od_Office_init, .func (PySem.W.fnOf "__init__" "Office.__init__" (defArgs s_Office_init) (defBody s_Office_init) (defScope s_Office_init) .none kV_Office_init dc_Office_init pm_Office_init an_Office_init cd_Office_init ct_Office_init), sl_Office_init⟩)
    (c_Office_init : PySem.W.codeIn K cd_Office_init "Office.__init__" = true)
    (k_Office_init : PySem.W.keepIn K (.ref f_Office_init) = true)
    (a_Office_keep : PySem.W.findIn K (.ref C_Office) "keep" = some (some (.ref f_Office_keep)))
    (i_Office_keep : PySem.W.isFn K (.ref f_Office_keep) = true)
    (l_Office_keep : K.lookup f_Office_keep = some ⟨oc_Office_keep, od_Office_keep, .func (PySem.W.fnOf "keep" "Office.keep" (defArgs s_Office_keep) (defBody s_Office_keep) (defScope s_Office_keep) .none kV_Office_keep dc_Office_keep pm_Office_keep an_Office_keep cd_Office_keep ct_Office_keep), sl_Office_keep⟩)
    (c_Office_keep : PySem.W.codeIn K cd_Office_keep "Office.keep" = true)
    (k_Office_keep : PySem.W.keepIn K (.ref f_Office_keep) = true)
    (a__law_made : PySem.W.nsIn K mainGlobals "_law_made" = some (some (.ref f__law_made)))
    (l__law_made : K.lookup f__law_made = some ⟨oc__law_made, od__law_made, .func (PySem.W.fnOf "_law_made" "_law_made" (defArgs s__law_made) (defBody s__law_made) (defScope s__law_made) .none kV__law_made dc__law_made pm__law_made an__law_made cd__law_made ct__law_made), sl__law_made⟩)
    (cd__law_made_ : PySem.W.codeIn K cd__law_made "_law_made" = true)
    (k__law_made : PySem.W.keepIn K (.ref f__law_made) = true)
    (a__law_meant : PySem.W.nsIn K mainGlobals "_law_meant" = some (some (.ref f__law_meant)))
    (l__law_meant : K.lookup f__law_meant = some ⟨oc__law_meant, od__law_meant, .func (PySem.W.fnOf "_law_meant" "_law_meant" (defArgs s__law_meant) (defBody s__law_meant) (defScope s__law_meant) .none kV__law_meant dc__law_meant pm__law_meant an__law_meant cd__law_meant ct__law_meant), sl__law_meant⟩)
    (cd__law_meant_ : PySem.W.codeIn K cd__law_meant "_law_meant" = true)
    (k__law_meant : PySem.W.keepIn K (.ref f__law_meant) = true)
    (a__law_row : PySem.W.nsIn K mainGlobals "_law_row" = some (some (.ref f__law_row)))
    (l__law_row : K.lookup f__law_row = some ⟨oc__law_row, od__law_row, .func (PySem.W.fnOf "_law_row" "_law_row" (defArgs s__law_row) (defBody s__law_row) (defScope s__law_row) .none kV__law_row dc__law_row pm__law_row an__law_row cd__law_row ct__law_row), sl__law_row⟩)
    (cd__law_row_ : PySem.W.codeIn K cd__law_row "_law_row" = true)
    (k__law_row : PySem.W.keepIn K (.ref f__law_row) = true)
    (a__law_parts : PySem.W.nsIn K mainGlobals "_law_parts" = some (some (.ref f__law_parts)))
    (l__law_parts : K.lookup f__law_parts = some ⟨oc__law_parts, od__law_parts, .func (PySem.W.fnOf "_law_parts" "_law_parts" (defArgs s__law_parts) (defBody s__law_parts) (defScope s__law_parts) .none kV__law_parts dc__law_parts pm__law_parts an__law_parts cd__law_parts ct__law_parts), sl__law_parts⟩)
    (cd__law_parts_ : PySem.W.codeIn K cd__law_parts "_law_parts" = true)
    (k__law_parts : PySem.W.keepIn K (.ref f__law_parts) = true)
    (a__law_walk : PySem.W.nsIn K mainGlobals "_law_walk" = some (some (.ref f__law_walk)))
    (l__law_walk : K.lookup f__law_walk = some ⟨oc__law_walk, od__law_walk, .func (PySem.W.fnOf "_law_walk" "_law_walk" (defArgs s__law_walk) (defBody s__law_walk) (defScope s__law_walk) .none kV__law_walk dc__law_walk pm__law_walk an__law_walk cd__law_walk ct__law_walk), sl__law_walk⟩)
    (cd__law_walk_ : PySem.W.codeIn K cd__law_walk "_law_walk" = true)
    (k__law_walk : PySem.W.keepIn K (.ref f__law_walk) = true)
    (a_is_mark : PySem.W.nsIn K mainGlobals "is_mark" = some (some (.ref f_is_mark)))
    (l_is_mark : K.lookup f_is_mark = some ⟨oc_is_mark, od_is_mark, .func (PySem.W.fnOf "is_mark" "is_mark" (defArgs s_is_mark) (defBody s_is_mark) (defScope s_is_mark) .none kV_is_mark dc_is_mark pm_is_mark an_is_mark cd_is_mark ct_is_mark), sl_is_mark⟩)
    (cd_is_mark_ : PySem.W.codeIn K cd_is_mark "is_mark" = true)
    (k_is_mark : PySem.W.keepIn K (.ref f_is_mark) = true)
    (a_is_pair : PySem.W.nsIn K mainGlobals "is_pair" = some (some (.ref f_is_pair)))
    (l_is_pair : K.lookup f_is_pair = some ⟨oc_is_pair, od_is_pair, .func (PySem.W.fnOf "is_pair" "is_pair" (defArgs s_is_pair) (defBody s_is_pair) (defScope s_is_pair) .none kV_is_pair dc_is_pair pm_is_pair an_is_pair cd_is_pair ct_is_pair), sl_is_pair⟩)
    (cd_is_pair_ : PySem.W.codeIn K cd_is_pair "is_pair" = true)
    (k_is_pair : PySem.W.keepIn K (.ref f_is_pair) = true)
    (a_is_note : PySem.W.nsIn K mainGlobals "is_note" = some (some (.ref f_is_note)))
    (l_is_note : K.lookup f_is_note = some ⟨oc_is_note, od_is_note, .func (PySem.W.fnOf "is_note" "is_note" (defArgs s_is_note) (defBody s_is_note) (defScope s_is_note) .none kV_is_note dc_is_note pm_is_note an_is_note cd_is_note ct_is_note), sl_is_note⟩)
    (cd_is_note_ : PySem.W.codeIn K cd_is_note "is_note" = true)
    (k_is_note : PySem.W.keepIn K (.ref f_is_note) = true)
    (a_is_step : PySem.W.nsIn K mainGlobals "is_step" = some (some (.ref f_is_step)))
    (l_is_step : K.lookup f_is_step = some ⟨oc_is_step, od_is_step, .func (PySem.W.fnOf "is_step" "is_step" (defArgs s_is_step) (defBody s_is_step) (defScope s_is_step) .none kV_is_step dc_is_step pm_is_step an_is_step cd_is_step ct_is_step), sl_is_step⟩)
    (cd_is_step_ : PySem.W.codeIn K cd_is_step "is_step" = true)
    (k_is_step : PySem.W.keepIn K (.ref f_is_step) = true)
    (a_are_steps : PySem.W.nsIn K mainGlobals "are_steps" = some (some (.ref f_are_steps)))
    (l_are_steps : K.lookup f_are_steps = some ⟨oc_are_steps, od_are_steps, .func (PySem.W.fnOf "are_steps" "are_steps" (defArgs s_are_steps) (defBody s_are_steps) (defScope s_are_steps) .none kV_are_steps dc_are_steps pm_are_steps an_are_steps cd_are_steps ct_are_steps), sl_are_steps⟩)
    (cd_are_steps_ : PySem.W.codeIn K cd_are_steps "are_steps" = true)
    (k_are_steps : PySem.W.keepIn K (.ref f_are_steps) = true)
    (a_is_day : PySem.W.nsIn K mainGlobals "is_day" = some (some (.ref f_is_day)))
    (l_is_day : K.lookup f_is_day = some ⟨oc_is_day, od_is_day, .func (PySem.W.fnOf "is_day" "is_day" (defArgs s_is_day) (defBody s_is_day) (defScope s_is_day) .none kV_is_day dc_is_day pm_is_day an_is_day cd_is_day ct_is_day), sl_is_day⟩)
    (cd_is_day_ : PySem.W.codeIn K cd_is_day "is_day" = true)
    (k_is_day : PySem.W.keepIn K (.ref f_is_day) = true)
    (a_check_day : PySem.W.nsIn K mainGlobals "check_day" = some (some (.ref f_check_day)))
    (l_check_day : K.lookup f_check_day = some ⟨oc_check_day, od_check_day, .func (PySem.W.fnOf "check_day" "check_day" (defArgs s_check_day) (defBody s_check_day) (defScope s_check_day) .none kV_check_day dc_check_day pm_check_day an_check_day cd_check_day ct_check_day), sl_check_day⟩)
    (cd_check_day_ : PySem.W.codeIn K cd_check_day "check_day" = true)
    (k_check_day : PySem.W.keepIn K (.ref f_check_day) = true)
    (a_all_steps : PySem.W.nsIn K mainGlobals "all_steps" = some (some (.ref f_all_steps)))
    (l_all_steps : K.lookup f_all_steps = some ⟨oc_all_steps, od_all_steps, .func (PySem.W.fnOf "all_steps" "all_steps" (defArgs s_all_steps) (defBody s_all_steps) (defScope s_all_steps) .none kV_all_steps dc_all_steps pm_all_steps an_all_steps cd_all_steps ct_all_steps), sl_all_steps⟩)
    (cd_all_steps_ : PySem.W.codeIn K cd_all_steps "all_steps" = true)
    (k_all_steps : PySem.W.keepIn K (.ref f_all_steps) = true)
    (a_are_states : PySem.W.nsIn K mainGlobals "are_states" = some (some (.ref f_are_states)))
    (l_are_states : K.lookup f_are_states = some ⟨oc_are_states, od_are_states, .func (PySem.W.fnOf "are_states" "are_states" (defArgs s_are_states) (defBody s_are_states) (defScope s_are_states) .none kV_are_states dc_are_states pm_are_states an_are_states cd_are_states ct_are_states), sl_are_states⟩)
    (cd_are_states_ : PySem.W.codeIn K cd_are_states "are_states" = true)
    (k_are_states : PySem.W.keepIn K (.ref f_are_states) = true)
    (a_is_fact : PySem.W.nsIn K mainGlobals "is_fact" = some (some (.ref f_is_fact)))
    (l_is_fact : K.lookup f_is_fact = some ⟨oc_is_fact, od_is_fact, .func (PySem.W.fnOf "is_fact" "is_fact" (defArgs s_is_fact) (defBody s_is_fact) (defScope s_is_fact) .none kV_is_fact dc_is_fact pm_is_fact an_is_fact cd_is_fact ct_is_fact), sl_is_fact⟩)
    (cd_is_fact_ : PySem.W.codeIn K cd_is_fact "is_fact" = true)
    (k_is_fact : PySem.W.keepIn K (.ref f_is_fact) = true)
    (a_check_fact : PySem.W.nsIn K mainGlobals "check_fact" = some (some (.ref f_check_fact)))
    (l_check_fact : K.lookup f_check_fact = some ⟨oc_check_fact, od_check_fact, .func (PySem.W.fnOf "check_fact" "check_fact" (defArgs s_check_fact) (defBody s_check_fact) (defScope s_check_fact) .none kV_check_fact dc_check_fact pm_check_fact an_check_fact cd_check_fact ct_check_fact), sl_check_fact⟩)
    (cd_check_fact_ : PySem.W.codeIn K cd_check_fact "check_fact" = true)
    (k_check_fact : PySem.W.keepIn K (.ref f_check_fact) = true)
    (g_Watcher : PySem.W.nsIn K mainGlobals "Watcher" = some (some (.ref C_Watcher)))
    (pg_Watcher : PySem.W.plainGet K C_Watcher Str.empty = true)
    (hd_Watcher : PySem.W.hasDictIn K C_Watcher = true)
    (po_Watcher : PySem.W.plainOver K C_Watcher = true)
    (sa_Watcher : PySem.W.findIn K (.ref C_Watcher) "__setattr__" = some (some (.builtin "object.__setattr__")))
    (mk_Watcher : PySem.W.makesIn K C_Watcher = true)
    (kp_Watcher : PySem.W.keepIn K (.ref C_Watcher) = true)
    (n_Watcher_numbers : PySem.W.findIn K (.ref C_Watcher) "numbers" = some none)
    (n_Watcher_fact_moves : PySem.W.findIn K (.ref C_Watcher) "fact_moves" = some none)
    (n_Watcher_fact_yes : PySem.W.findIn K (.ref C_Watcher) "fact_yes" = some none)
    (a_Watcher_init : PySem.W.findIn K (.ref C_Watcher) "__init__" = some (some (.ref f_Watcher_init)))
    (i_Watcher_init : PySem.W.isFn K (.ref f_Watcher_init) = true)
    (l_Watcher_init : K.lookup f_Watcher_init = some ⟨oc_Watcher_init, od_Watcher_init, .func (PySem.W.fnOf "__init__" "Watcher.__init__" (defArgs s_Watcher_init) (defBody s_Watcher_init) (defScope s_Watcher_init) .none kV_Watcher_init dc_Watcher_init pm_Watcher_init an_Watcher_init cd_Watcher_init ct_Watcher_init), sl_Watcher_init⟩)
    (c_Watcher_init : PySem.W.codeIn K cd_Watcher_init "Watcher.__init__" = true)
    (k_Watcher_init : PySem.W.keepIn K (.ref f_Watcher_init) = true)
    (a_holds : PySem.W.nsIn K mainGlobals "holds" = some (some (.ref f_holds)))
    (l_holds : K.lookup f_holds = some ⟨oc_holds, od_holds, .func (PySem.W.fnOf "holds" "holds" (defArgs s_holds) (defBody s_holds) (defScope s_holds) .none kV_holds dc_holds pm_holds an_holds cd_holds ct_holds), sl_holds⟩)
    (cd_holds_ : PySem.W.codeIn K cd_holds "holds" = true)
    (k_holds : PySem.W.keepIn K (.ref f_holds) = true)
    (a_law : PySem.W.nsIn K mainGlobals "law" = some (some (.ref f_law)))
    (l_law : K.lookup f_law = some ⟨oc_law, od_law, .func (PySem.W.fnOf "law" "law" (defArgs s_law) (defBody s_law) (defScope s_law) .none kV_law dc_law pm_law an_law cd_law ct_law), sl_law⟩)
    (cd_law_ : PySem.W.codeIn K cd_law "law" = true)
    (k_law : PySem.W.keepIn K (.ref f_law) = true)
    (iha : PySem.W.findIn K (.ref C_Office) "__class__" = some (some (.builtin "object.__class__")))
    (ihn : PySem.W.specialIn K (.builtin "object.__class__") "__get__" = some (some (.builtin "getset_descriptor.__get__")))
    (ihtk : PySem.W.takesIn K (.builtin "object.__class__") = some true)
    (ihm : PySem.W.mroIn K C_Office (.type "object") = some true)
    (im_int : PySem.W.mroIn K C_Office (.type "int") = some false)
    (im_bool : PySem.W.mroIn K C_Office (.type "bool") = some false)
    (im_str : PySem.W.mroIn K C_Office (.type "str") = some false)
    (im_tuple : PySem.W.mroIn K C_Office (.type "tuple") = some false)
    (im_list : PySem.W.mroIn K C_Office (.type "list") = some false)
    (im_dict : PySem.W.mroIn K C_Office (.type "dict") = some false)
    (a_Watcher_goes : PySem.W.findIn K (.ref C_Watcher) "goes" = some (some (.ref f_Watcher_goes)))
    (i_Watcher_goes : PySem.W.isFn K (.ref f_Watcher_goes) = true)
    (l_Watcher_goes : K.lookup f_Watcher_goes = some ⟨oc_Watcher_goes, od_Watcher_goes, .func (PySem.W.fnOf "goes" "Watcher.goes" (defArgs s_Watcher_goes) (defBody s_Watcher_goes) (defScope s_Watcher_goes) .none kV_Watcher_goes dc_Watcher_goes pm_Watcher_goes an_Watcher_goes cd_Watcher_goes ct_Watcher_goes), sl_Watcher_goes⟩)
    (c_Watcher_goes : PySem.W.codeIn K cd_Watcher_goes "Watcher.goes" = true)
    (k_Watcher_goes : PySem.W.keepIn K (.ref f_Watcher_goes) = true)
    (a_Watcher_ends : PySem.W.findIn K (.ref C_Watcher) "ends" = some (some (.ref f_Watcher_ends)))
    (i_Watcher_ends : PySem.W.isFn K (.ref f_Watcher_ends) = true)
    (l_Watcher_ends : K.lookup f_Watcher_ends = some ⟨oc_Watcher_ends, od_Watcher_ends, .func (PySem.W.fnOf "ends" "Watcher.ends" (defArgs s_Watcher_ends) (defBody s_Watcher_ends) (defScope s_Watcher_ends) .none kV_Watcher_ends dc_Watcher_ends pm_Watcher_ends an_Watcher_ends cd_Watcher_ends ct_Watcher_ends), sl_Watcher_ends⟩)
    (c_Watcher_ends : PySem.W.codeIn K cd_Watcher_ends "Watcher.ends" = true)
    (k_Watcher_ends : PySem.W.keepIn K (.ref f_Watcher_ends) = true)
    (a_Watcher_tells : PySem.W.findIn K (.ref C_Watcher) "tells" = some (some (.ref f_Watcher_tells)))
    (i_Watcher_tells : PySem.W.isFn K (.ref f_Watcher_tells) = true)
    (l_Watcher_tells : K.lookup f_Watcher_tells = some ⟨oc_Watcher_tells, od_Watcher_tells, .func (PySem.W.fnOf "tells" "Watcher.tells" (defArgs s_Watcher_tells) (defBody s_Watcher_tells) (defScope s_Watcher_tells) .none kV_Watcher_tells dc_Watcher_tells pm_Watcher_tells an_Watcher_tells cd_Watcher_tells ct_Watcher_tells), sl_Watcher_tells⟩)
    (c_Watcher_tells : PySem.W.codeIn K cd_Watcher_tells "Watcher.tells" = true)
    (k_Watcher_tells : PySem.W.keepIn K (.ref f_Watcher_tells) = true)
    : ∃ fd : FuncData, (∀ (s : Shared) (v : Value), BindsTo s fd ⟨[v], []⟩ [("_law_script", v)]) ∧ ∀ base : Heap, K.In base → base.Ns mainGlobals mg → FnOk l.prog w K mg base (L2.CX l.prog w) 9 fa fd ["_law_script"] (spLaw K) := by
  have e := hfa.symm.trans (PySem.W.mg_of X G a_law)
  cases e
  have T : Txt K mg := {
    z_abs := PySem.W.mg_none_of X G z_abs,
    z_all := PySem.W.mg_none_of X G z_all,
    z_bool := PySem.W.mg_none_of X G z_bool,
    z_enumerate := PySem.W.mg_none_of X G z_enumerate,
    z_int := PySem.W.mg_none_of X G z_int,
    z_isinstance := PySem.W.mg_none_of X G z_isinstance,
    z_len := PySem.W.mg_none_of X G z_len,
    z_list := PySem.W.mg_none_of X G z_list,
    z_range := PySem.W.mg_none_of X G z_range,
    z_sorted := PySem.W.mg_none_of X G z_sorted,
    z_tuple := PySem.W.mg_none_of X G z_tuple,
    c_MOST_SIZE := ⟨_, PySem.W.mg_of X G c_MOST_SIZE⟩,
    c_MOST_STANDINGS := ⟨_, PySem.W.mg_of X G c_MOST_STANDINGS⟩,
    c_MOST_STATES := ⟨_, PySem.W.mg_of X G c_MOST_STATES⟩,
    x_NoDay := ⟨X_NoDay, PySem.W.mg_of X G xg_NoDay, xq_NoDay, xk_NoDay, xb_NoDay, xt_NoDay, exm_own xb_NoDay xi_NoDay xt_NoDay xs_NoDay⟩,
    x_NoFact := ⟨X_NoFact, PySem.W.mg_of X G xg_NoFact, xq_NoFact, xk_NoFact, xb_NoFact, xt_NoFact, exm_own xb_NoFact xi_NoFact xt_NoFact xs_NoFact⟩,
    f__law_draw := mkDef X G a__law_draw l__law_draw cd__law_draw_ k__law_draw,
    f__law_steps_of := mkDef X G a__law_steps_of l__law_steps_of cd__law_steps_of_ k__law_steps_of,
    f__law_any_day := mkDef X G a__law_any_day l__law_any_day cd__law_any_day_ k__law_any_day,
    f__law_fact := mkDef X G a__law_fact l__law_fact cd__law_fact_ k__law_fact,
    f__law_hand := mkDef X G a__law_hand l__law_hand cd__law_hand_ k__law_hand,
    f__law_holds := mkDef X G a__law_holds l__law_holds cd__law_holds_ k__law_holds,
    f__law_known := mkDef X G a__law_known l__law_known cd__law_known_ k__law_known,
    f_are_ascending := mkDef X G a_are_ascending l_are_ascending cd_are_ascending_ k_are_ascending,
    f_is_integer := mkDef X G a_is_integer l_is_integer cd_is_integer_ k_is_integer,
    f_is_within := mkDef X G a_is_within l_is_within cd_is_within_ k_is_within,
    f_are_closings := mkDef X G a_are_closings l_are_closings cd_are_closings_ k_are_closings,
    f_is_move := mkDef X G a_is_move l_is_move cd_is_move_ k_is_move,
    f_are_moves := mkDef X G a_are_moves l_are_moves cd_are_moves_ k_are_moves,
    f_is_triple := mkDef X G a_is_triple l_is_triple cd_is_triple_ k_is_triple,
    f_are_sizes := mkDef X G a_are_sizes l_are_sizes cd_are_sizes_ k_are_sizes,
    C_Office := ⟨C_Office, PySem.W.mg_of X G g_Office, ⟨⟨pg_Office, hd_Office, po_Office, sa_Office⟩, n_Office_sizes, n_Office_moves, n_Office_closings, n_Office_kept_goals⟩, mkMeth a_Office_init i_Office_init l_Office_init c_Office_init k_Office_init, mk_Office, kp_Office, mkMeth a_Office_keep i_Office_keep l_Office_keep c_Office_keep k_Office_keep⟩,
    f__law_made := mkDef X G a__law_made l__law_made cd__law_made_ k__law_made,
    f__law_meant := mkDef X G a__law_meant l__law_meant cd__law_meant_ k__law_meant,
    f__law_row := mkDef X G a__law_row l__law_row cd__law_row_ k__law_row,
    f__law_parts := mkDef X G a__law_parts l__law_parts cd__law_parts_ k__law_parts,
    f__law_walk := mkDef X G a__law_walk l__law_walk cd__law_walk_ k__law_walk,
    f_is_mark := mkDef X G a_is_mark l_is_mark cd_is_mark_ k_is_mark,
    f_is_pair := mkDef X G a_is_pair l_is_pair cd_is_pair_ k_is_pair,
    f_is_note := mkDef X G a_is_note l_is_note cd_is_note_ k_is_note,
    f_is_step := mkDef X G a_is_step l_is_step cd_is_step_ k_is_step,
    f_are_steps := mkDef X G a_are_steps l_are_steps cd_are_steps_ k_are_steps,
    f_is_day := mkDef X G a_is_day l_is_day cd_is_day_ k_is_day,
    f_check_day := mkDef X G a_check_day l_check_day cd_check_day_ k_check_day,
    f_all_steps := mkDef X G a_all_steps l_all_steps cd_all_steps_ k_all_steps,
    f_are_states := mkDef X G a_are_states l_are_states cd_are_states_ k_are_states,
    f_is_fact := mkDef X G a_is_fact l_is_fact cd_is_fact_ k_is_fact,
    f_check_fact := mkDef X G a_check_fact l_check_fact cd_check_fact_ k_check_fact,
    C_Watcher := ⟨C_Watcher, PySem.W.mg_of X G g_Watcher, ⟨pg_Watcher, hd_Watcher, po_Watcher, sa_Watcher⟩, (by intro f hf; simp only [List.mem_cons, List.not_mem_nil, or_false] at hf; rcases hf with rfl | rfl | rfl <;> assumption), mkMeth a_Watcher_init i_Watcher_init l_Watcher_init c_Watcher_init k_Watcher_init, mk_Watcher, kp_Watcher⟩,
    f_holds := mkDef X G a_holds l_holds cd_holds_ k_holds,
    f_law := mkDef X G a_law l_law cd_law_ k_law,
    isi := fun C h => by
      have e := h.symm.trans (PySem.W.mg_of X G g_Office)
      cases e
      exact ⟨⟨pg_Office, hd_Office, po_Office, sa_Office⟩, iha, ihn, ihtk, ihm, im_int, im_bool, im_str, im_tuple, im_list, im_dict⟩,
    f_Watcher_goes := mkMeth a_Watcher_goes i_Watcher_goes l_Watcher_goes c_Watcher_goes k_Watcher_goes,
    f_Watcher_ends := mkMeth a_Watcher_ends i_Watcher_ends l_Watcher_ends c_Watcher_ends k_Watcher_ends,
    f_Watcher_tells := mkMeth a_Watcher_tells i_Watcher_tells l_Watcher_tells c_Watcher_tells k_Watcher_tells }
  exact ⟨PySem.W.fnOf "law" "law" (defArgs s_law) (defBody s_law) (defScope s_law) .none kV_law dc_law pm_law an_law cd_law ct_law, fun s v => .of_eq rfl, fun base _ _ => fn_law (fun_mk l_law cd_law_ k_law) sc_law (b_law T) hp⟩
end Mi
open PySem PySem.W PyProof.Rows
set_option maxRecDepth 100000 in
set_option maxHeartbeats 0 in
theorem PySem.Challenge.cw_falsedays_k29_whole_facts_hold_holds : PySem.Challenge.rw_falsedays_k29_whole_facts_hold.Holds := by
  w_on; o_law; k_head; (case hw => w_witness2)
  k_fill
  refine Mi.walkM (l := PySem.Challenge.rw_falsedays_k29_whole_facts_hold) (k := 9) (x := "_law_script") rfl rfl ⟨rfl, by decide, by decide⟩ (fun w h Y => PySem.W.kIn_of Y) ?F
  case F =>
    intro w mg fa h KX G hmg
    refine' Mi.all_mk Mi.plain_k29 KX G hmg ?z_abs ?z_all ?z_bool ?z_enumerate ?z_int ?z_isinstance ?z_len ?z_list ?z_range ?z_sorted ?z_tuple ?c_MOST_SIZE ?c_MOST_STANDINGS ?c_MOST_STATES ?xg_NoDay ?xq_NoDay ?xk_NoDay ?xb_NoDay ?xt_NoDay ?xi_NoDay ?xs_NoDay ?xg_NoFact ?xq_NoFact ?xk_NoFact ?xb_NoFact ?xt_NoFact ?xi_NoFact ?xs_NoFact ?a__law_draw ?l__law_draw ?cd__law_draw_ ?k__law_draw ?a__law_steps_of ?l__law_steps_of ?cd__law_steps_of_ ?k__law_steps_of ?a__law_any_day ?l__law_any_day ?cd__law_any_day_ ?k__law_any_day ?a__law_fact ?l__law_fact ?cd__law_fact_ ?k__law_fact ?a__law_hand ?l__law_hand ?cd__law_hand_ ?k__law_hand ?a__law_holds ?l__law_holds ?cd__law_holds_ ?k__law_holds ?a__law_known ?l__law_known ?cd__law_known_ ?k__law_known ?a_are_ascending ?l_are_ascending ?cd_are_ascending_ ?k_are_ascending ?a_is_integer ?l_is_integer ?cd_is_integer_ ?k_is_integer ?a_is_within ?l_is_within ?cd_is_within_ ?k_is_within ?a_are_closings ?l_are_closings ?cd_are_closings_ ?k_are_closings ?a_is_move ?l_is_move ?cd_is_move_ ?k_is_move ?a_are_moves ?l_are_moves ?cd_are_moves_ ?k_are_moves ?a_is_triple ?l_is_triple ?cd_is_triple_ ?k_is_triple ?a_are_sizes ?l_are_sizes ?cd_are_sizes_ ?k_are_sizes ?g_Office ?pg_Office ?hd_Office ?po_Office ?sa_Office ?mk_Office ?kp_Office ?n_Office_sizes ?n_Office_moves ?n_Office_closings ?n_Office_kept_goals ?a_Office_init ?i_Office_init ?l_Office_init ?c_Office_init ?k_Office_init ?a_Office_keep ?i_Office_keep ?l_Office_keep ?c_Office_keep ?k_Office_keep ?a__law_made ?l__law_made ?cd__law_made_ ?k__law_made ?a__law_meant ?l__law_meant ?cd__law_meant_ ?k__law_meant ?a__law_row ?l__law_row ?cd__law_row_ ?k__law_row ?a__law_parts ?l__law_parts ?cd__law_parts_ ?k__law_parts ?a__law_walk ?l__law_walk ?cd__law_walk_ ?k__law_walk ?a_is_mark ?l_is_mark ?cd_is_mark_ ?k_is_mark ?a_is_pair ?l_is_pair ?cd_is_pair_ ?k_is_pair ?a_is_note ?l_is_note ?cd_is_note_ ?k_is_note ?a_is_step ?l_is_step ?cd_is_step_ ?k_is_step ?a_are_steps ?l_are_steps ?cd_are_steps_ ?k_are_steps ?a_is_day ?l_is_day ?cd_is_day_ ?k_is_day ?a_check_day ?l_check_day ?cd_check_day_ ?k_check_day ?a_all_steps ?l_all_steps ?cd_all_steps_ ?k_all_steps ?a_are_states ?l_are_states ?cd_are_states_ ?k_are_states ?a_is_fact ?l_is_fact ?cd_is_fact_ ?k_is_fact ?a_check_fact ?l_check_fact ?cd_check_fact_ ?k_check_fact ?g_Watcher ?pg_Watcher ?hd_Watcher ?po_Watcher ?sa_Watcher ?mk_Watcher ?kp_Watcher ?n_Watcher_numbers ?n_Watcher_fact_moves ?n_Watcher_fact_yes ?a_Watcher_init ?i_Watcher_init ?l_Watcher_init ?c_Watcher_init ?k_Watcher_init ?a_holds ?l_holds ?cd_holds_ ?k_holds ?a_law ?l_law ?cd_law_ ?k_law ?iha ?ihn ?ihtk ?ihm ?im_int ?im_bool ?im_str ?im_tuple ?im_list ?im_dict ?a_Watcher_goes ?i_Watcher_goes ?l_Watcher_goes ?c_Watcher_goes ?k_Watcher_goes ?a_Watcher_ends ?i_Watcher_ends ?l_Watcher_ends ?c_Watcher_ends ?k_Watcher_ends ?a_Watcher_tells ?i_Watcher_tells ?l_Watcher_tells ?c_Watcher_tells ?k_Watcher_tells
    (case z_abs => k_is)
    (case z_all => k_is)
    (case z_bool => k_is)
    (case z_enumerate => k_is)
    (case z_int => k_is)
    (case z_isinstance => k_is)
    (case z_len => k_is)
    (case z_list => k_is)
    (case z_range => k_is)
    (case z_sorted => k_is)
    (case z_tuple => k_is)
    (case c_MOST_SIZE => k_is)
    (case c_MOST_STANDINGS => k_is)
    (case c_MOST_STATES => k_is)
    (case xg_NoDay => k_is)
    (case xq_NoDay => k_exc)
    (case xk_NoDay => k_is)
    (case xb_NoDay => k_is)
    (case xt_NoDay => k_is)
    (case xi_NoDay => k_is)
    (case xs_NoDay => k_is)
    (case xg_NoFact => k_is)
    (case xq_NoFact => k_exc)
    (case xk_NoFact => k_is)
    (case xb_NoFact => k_is)
    (case xt_NoFact => k_is)
    (case xi_NoFact => k_is)
    (case xs_NoFact => k_is)
    (case a__law_draw => k_is)
    (case l__law_draw => k_is)
    (case cd__law_draw_ => k_is)
    (case k__law_draw => k_is)
    (case a__law_steps_of => k_is)
    (case l__law_steps_of => k_is)
    (case cd__law_steps_of_ => k_is)
    (case k__law_steps_of => k_is)
    (case a__law_any_day => k_is)
    (case l__law_any_day => k_is)
    (case cd__law_any_day_ => k_is)
    (case k__law_any_day => k_is)
    (case a__law_fact => k_is)
    (case l__law_fact => k_is)
    (case cd__law_fact_ => k_is)
    (case k__law_fact => k_is)
    (case a__law_hand => k_is)
    (case l__law_hand => k_is)
    (case cd__law_hand_ => k_is)
    (case k__law_hand => k_is)
    (case a__law_holds => k_is)
    (case l__law_holds => k_is)
    (case cd__law_holds_ => k_is)
    (case k__law_holds => k_is)
    (case a__law_known => k_is)
    (case l__law_known => k_is)
    (case cd__law_known_ => k_is)
    (case k__law_known => k_is)
    (case a_are_ascending => k_is)
    (case l_are_ascending => k_is)
    (case cd_are_ascending_ => k_is)
    (case k_are_ascending => k_is)
    (case a_is_integer => k_is)
    (case l_is_integer => k_is)
    (case cd_is_integer_ => k_is)
    (case k_is_integer => k_is)
    (case a_is_within => k_is)
    (case l_is_within => k_is)
    (case cd_is_within_ => k_is)
    (case k_is_within => k_is)
    (case a_are_closings => k_is)
    (case l_are_closings => k_is)
    (case cd_are_closings_ => k_is)
    (case k_are_closings => k_is)
    (case a_is_move => k_is)
    (case l_is_move => k_is)
    (case cd_is_move_ => k_is)
    (case k_is_move => k_is)
    (case a_are_moves => k_is)
    (case l_are_moves => k_is)
    (case cd_are_moves_ => k_is)
    (case k_are_moves => k_is)
    (case a_is_triple => k_is)
    (case l_is_triple => k_is)
    (case cd_is_triple_ => k_is)
    (case k_is_triple => k_is)
    (case a_are_sizes => k_is)
    (case l_are_sizes => k_is)
    (case cd_are_sizes_ => k_is)
    (case k_are_sizes => k_is)
    (case g_Office => k_is)
    (case pg_Office => k_is)
    (case hd_Office => k_is)
    (case po_Office => k_is)
    (case sa_Office => k_is)
    (case mk_Office => k_is)
    (case kp_Office => k_is)
    (case n_Office_sizes => k_is)
    (case n_Office_moves => k_is)
    (case n_Office_closings => k_is)
    (case n_Office_kept_goals => k_is)
    (case a_Office_init => k_is)
    (case i_Office_init => k_is)
    (case l_Office_init => k_is)
    (case c_Office_init => k_is)
    (case k_Office_init => k_is)
    (case a_Office_keep => k_is)
    (case i_Office_keep => k_is)
    (case l_Office_keep => k_is)
    (case c_Office_keep => k_is)
    (case k_Office_keep => k_is)
    (case a__law_made => k_is)
    (case l__law_made => k_is)
    (case cd__law_made_ => k_is)
    (case k__law_made => k_is)
    (case a__law_meant => k_is)
    (case l__law_meant => k_is)
    (case cd__law_meant_ => k_is)
    (case k__law_meant => k_is)
    (case a__law_row => k_is)
    (case l__law_row => k_is)
    (case cd__law_row_ => k_is)
    (case k__law_row => k_is)
    (case a__law_parts => k_is)
    (case l__law_parts => k_is)
    (case cd__law_parts_ => k_is)
    (case k__law_parts => k_is)
    (case a__law_walk => k_is)
    (case l__law_walk => k_is)
    (case cd__law_walk_ => k_is)
    (case k__law_walk => k_is)
    (case a_is_mark => k_is)
    (case l_is_mark => k_is)
    (case cd_is_mark_ => k_is)
    (case k_is_mark => k_is)
    (case a_is_pair => k_is)
    (case l_is_pair => k_is)
    (case cd_is_pair_ => k_is)
    (case k_is_pair => k_is)
    (case a_is_note => k_is)
    (case l_is_note => k_is)
    (case cd_is_note_ => k_is)
    (case k_is_note => k_is)
    (case a_is_step => k_is)
    (case l_is_step => k_is)
    (case cd_is_step_ => k_is)
    (case k_is_step => k_is)
    (case a_are_steps => k_is)
    (case l_are_steps => k_is)
    (case cd_are_steps_ => k_is)
    (case k_are_steps => k_is)
    (case a_is_day => k_is)
    (case l_is_day => k_is)
    (case cd_is_day_ => k_is)
    (case k_is_day => k_is)
    (case a_check_day => k_is)
    (case l_check_day => k_is)
    (case cd_check_day_ => k_is)
    (case k_check_day => k_is)
    (case a_all_steps => k_is)
    (case l_all_steps => k_is)
    (case cd_all_steps_ => k_is)
    (case k_all_steps => k_is)
    (case a_are_states => k_is)
    (case l_are_states => k_is)
    (case cd_are_states_ => k_is)
    (case k_are_states => k_is)
    (case a_is_fact => k_is)
    (case l_is_fact => k_is)
    (case cd_is_fact_ => k_is)
    (case k_is_fact => k_is)
    (case a_check_fact => k_is)
    (case l_check_fact => k_is)
    (case cd_check_fact_ => k_is)
    (case k_check_fact => k_is)
    (case g_Watcher => k_is)
    (case pg_Watcher => k_is)
    (case hd_Watcher => k_is)
    (case po_Watcher => k_is)
    (case sa_Watcher => k_is)
    (case mk_Watcher => k_is)
    (case kp_Watcher => k_is)
    (case n_Watcher_numbers => k_is)
    (case n_Watcher_fact_moves => k_is)
    (case n_Watcher_fact_yes => k_is)
    (case a_Watcher_init => k_is)
    (case i_Watcher_init => k_is)
    (case l_Watcher_init => k_is)
    (case c_Watcher_init => k_is)
    (case k_Watcher_init => k_is)
    (case a_holds => k_is)
    (case l_holds => k_is)
    (case cd_holds_ => k_is)
    (case k_holds => k_is)
    (case a_law => k_is)
    (case l_law => k_is)
    (case cd_law_ => k_is)
    (case k_law => k_is)
    (case iha => k_is)
    (case ihn => k_is)
    (case ihtk => k_is)
    (case ihm => k_is)
    (case im_int => k_is)
    (case im_bool => k_is)
    (case im_str => k_is)
    (case im_tuple => k_is)
    (case im_list => k_is)
    (case im_dict => k_is)
    (case a_Watcher_goes => k_is)
    (case i_Watcher_goes => k_is)
    (case l_Watcher_goes => k_is)
    (case c_Watcher_goes => k_is)
    (case k_Watcher_goes => k_is)
    (case a_Watcher_ends => k_is)
    (case i_Watcher_ends => k_is)
    (case l_Watcher_ends => k_is)
    (case c_Watcher_ends => k_is)
    (case k_Watcher_ends => k_is)
    (case a_Watcher_tells => k_is)
    (case i_Watcher_tells => k_is)
    (case l_Watcher_tells => k_is)
    (case c_Watcher_tells => k_is)
    (case k_Watcher_tells => k_is)

